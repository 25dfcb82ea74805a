import PyProof.Rows.All
import Wide.All
import OpenK.AllK
import Wide.FinOn
import HandS.ForMost
import HandS.IsInst
import HandS.ForExc
import HandS.Walk
import HandS.CallSlots
import HandS.Strs
import HandS.Wide
import KE.KSuper
import KE.KExcSuper
import HandS.ExcInit
import HandS.ExcIs
import HandS.ExcField
import HandS.ExcOwn
import HandS.SetBool
import KE.GoesMore
import HandS.WordsExc
import HandS.Defaults
import PySem.Challenge.RW_namesakes_k35_states_made_and_refused
import KE.RegKSuper
set_option Elab.async false
set_option linter.all false
set_option maxRecDepth 100000
set_option maxHeartbeats 2000000
/-! NK: a certified mirror. Each def of the text gets a total Lean function over trees of data; one theorem a construct says that the model does what the mirror does. -/
namespace NK
open PySem L2

/-- the built-in classes that the text names -/
inductive Ty where
  | none | bool | int | str | list | tuple | dict
  deriving DecidableEq
def Ty.name : Ty → String
  | .none => "NoneType" | .bool => "bool" | .int => "int" | .str => "str" | .list => "list" | .tuple => "tuple" | .dict => "dict"
/-- a value of the mirror: scalars, trees of what never changes any more, places of what may change, classes, the script -/
inductive U where
  | non | bl (b : Bool) | int (i : Int) | str (x : Str)
  | tup (us : List U) | lst (us : List U) | ins (k : Nat) (us : List U)
  | loc (i : Nat)
  | ty (t : Ty) | cls (k : Nat) | scr (us : List U)

/-- what may change -/
inductive Ob where
  | lst (us : List U)
  | dK (kvs : List (Key × U))
  | ins (k : Nat) (us : List U)
  | iset (ks : List Int)
  | dead

abbrev Sto := List Ob

/-- an exception in the air: its class, its fields -/
structure Ex where
  k : Nat
  us : List U

inductive Out (α : Type) where
  | ok (a : α) (s : Sto)
  | exc (x : Ex) (s : Sto)
  | bad

def Out.bind {α β : Type} (r : Out α) (f : α → Sto → Out β) : Out β := match r with
  | .ok a s => f a s
  | .exc x s => .exc x s
  | .bad => .bad

/-- the world's part: the classes' addresses, the names of their fields (in the order in which __init__ stores them) -/
structure Tb where
  w : World
  K : PySem.W.Frag
  cls : Nat → Addr
  fld : Nat → List Str

/-- where the places lie; what stands still -/
structure Cn where
  ρ : Nat → Addr
  n : Nat
  F : Hp

mutual
inductive Rp (T : Tb) (c : Cn) : U → V → Prop
  | non : Rp T c .non .non
  | bl (b : Bool) : Rp T c (.bl b) (.bl b)
  | int (i : Int) : Rp T c (.int i) (.int i)
  | str (x : Str) : Rp T c (.str x) (.str x)
  | ty (t : Ty) : Rp T c (.ty t) (.ty t.name)
  | cls (k : Nat) : Rp T c (.cls k) (.ref (T.cls k))
  | scr {us : List U} {a : Addr} {vs : List V} : SqL T.K c.F a vs → RpL T c us vs → Rp T c (.scr us) (.ref a)
  | tup {us : List U} {a : Addr} {vs : List V} : SqT T.K c.F a vs → RpL T c us vs → Rp T c (.tup us) (.ref a)
  | lst {us : List U} {a : Addr} {vs : List V} : c.F a = some (.lst vs) → RpL T c us vs → Rp T c (.lst us) (.ref a)
  | ins {k : Nat} {us : List U} {a dx : Addr} {vs : List V} : c.F a = some (.ins (T.cls k) dx ((T.fld k).zip vs)) → vs.length ≤ (T.fld k).length → RpL T c us vs → Rp T c (.ins k us) (.ref a)
  | loc {i : Nat} : i < c.n → Rp T c (.loc i) (.ref (c.ρ i))
inductive RpL (T : Tb) (c : Cn) : List U → List V → Prop
  | nil : RpL T c [] []
  | cons {u : U} {v : V} {us : List U} {vs : List V} : Rp T c u v → RpL T c us vs → RpL T c (u :: us) (v :: vs)
end

inductive RpK (T : Tb) (c : Cn) : List (Key × U) → List (Key × V) → Prop
  | nil : RpK T c [] []
  | cons {k : Key} {u : U} {v : V} {us : List (Key × U)} {vs : List (Key × V)} : Rp T c u v → RpK T c us vs → RpK T c ((k, u) :: us) ((k, v) :: vs)

/-- later -/
structure Le (c c' : Cn) : Prop where
  n : c.n ≤ c'.n
  ρ : ∀ i, i < c.n → c'.ρ i = c.ρ i
  F : ∀ a o, c.F a = some o → c'.F a = some o
theorem Le.refl (c : Cn) : Le c c := ⟨Nat.le_refl _, fun _ _ => rfl, fun _ _ h => h⟩
theorem Le.trans {a b c : Cn} (h : Le a b) (g : Le b c) : Le a c :=
  ⟨Nat.le_trans h.n g.n, fun i hi => (g.ρ i (Nat.lt_of_lt_of_le hi h.n)).trans (h.ρ i hi), fun x o e => g.F x o (h.F x o e)⟩

theorem rd_mono {F F' : Hp} (h : ∀ a o, F a = some o → F' a = some o) {a : Addr} {u : HO} (r : Rd F a u) : Rd F' a u := by
  rcases r with r | ⟨o, r⟩
  · exact .inl (h _ _ r)
  · exact .inr ⟨o, h _ _ r⟩
theorem sqT_mono {K : PySem.W.Frag} {F F' : Hp} (h : ∀ a o, F a = some o → F' a = some o) {a : Addr} {vs : List V} (r : SqT K F a vs) : SqT K F' a vs := by
  rcases r with r | r
  · exact .inl (rd_mono h r)
  · exact .inr r
theorem sqL_mono {K : PySem.W.Frag} {F F' : Hp} (h : ∀ a o, F a = some o → F' a = some o) {a : Addr} {vs : List V} (r : SqL K F a vs) : SqL K F' a vs := by
  rcases r with r | r
  · exact .inl (rd_mono h r)
  · exact .inr r

mutual
theorem Rp.mono {T : Tb} {c c' : Cn} (h : Le c c') : ∀ {u : U} {v : V}, Rp T c u v → Rp T c' u v
  | _, _, .non => .non
  | _, _, .bl b => .bl b
  | _, _, .int i => .int i
  | _, _, .str x => .str x
  | _, _, .ty n => .ty n
  | _, _, .cls k => .cls k
  | _, _, .scr e r => .scr (sqL_mono h.F e) (RpL.mono h r)
  | _, _, .tup e r => .tup (sqT_mono h.F e) (RpL.mono h r)
  | _, _, .lst e r => .lst (h.F _ _ e) (RpL.mono h r)
  | _, _, .ins e l r => .ins (h.F _ _ e) l (RpL.mono h r)
  | _, _, .loc (i := i) hi => by
    have e := h.ρ i hi
    rw [← e]
    exact .loc (Nat.lt_of_lt_of_le hi h.n)
theorem RpL.mono {T : Tb} {c c' : Cn} (h : Le c c') : ∀ {us : List U} {vs : List V}, RpL T c us vs → RpL T c' us vs
  | _, _, .nil => .nil
  | _, _, .cons r t => .cons (Rp.mono h r) (RpL.mono h t)
end
theorem RpK.mono {T : Tb} {c c' : Cn} (h : Le c c') : ∀ {us : List (Key × U)} {vs : List (Key × V)}, RpK T c us vs → RpK T c' us vs
  | _, _, .nil => .nil
  | _, _, .cons r t => .cons (Rp.mono h r) (RpK.mono h t)

section
variable {T : Tb} {c : Cn}
theorem RpL.length : ∀ {us : List U} {vs : List V}, RpL T c us vs → us.length = vs.length
  | _, _, .nil => rfl
  | _, _, .cons _ t => by simp [RpL.length t]
theorem RpL.get : ∀ {us : List U} {vs : List V} {i : Nat} {u : U}, RpL T c us vs → us[i]? = some u → ∃ v, vs[i]? = some v ∧ Rp T c u v
  | _, _, _, _, .nil, e => by simp at e
  | _, _, 0, _, .cons r _, e => by simp at e; subst e; exact ⟨_, rfl, r⟩
  | _, _, i + 1, u, .cons _ t, e => by
    obtain ⟨v, h1, h2⟩ := RpL.get (i := i) (u := u) t (by simpa using e)
    exact ⟨v, by simpa using h1, h2⟩
theorem RpL.getV : ∀ {us : List U} {vs : List V} {i : Nat} {v : V}, RpL T c us vs → vs[i]? = some v → ∃ u, us[i]? = some u ∧ Rp T c u v
  | _, _, _, _, .nil, e => by simp at e
  | _, _, 0, _, .cons r _, e => by simp at e; subst e; exact ⟨_, rfl, r⟩
  | _, _, i + 1, v, .cons _ t, e => by
    obtain ⟨u, h1, h2⟩ := RpL.getV (i := i) (v := v) t (by simpa using e)
    exact ⟨u, by simpa using h1, h2⟩
theorem RpL.append : ∀ {us us' : List U} {vs vs' : List V}, RpL T c us vs → RpL T c us' vs' → RpL T c (us ++ us') (vs ++ vs')
  | _, _, _, _, .nil, s => s
  | _, _, _, _, .cons r t, s => .cons r (RpL.append t s)
theorem RpL.set : ∀ {us : List U} {vs : List V} (i : Nat) {u : U} {v : V}, RpL T c us vs → Rp T c u v → RpL T c (us.set i u) (vs.set i v)
  | _, _, _, _, _, .nil, _ => .nil
  | _, _, 0, _, _, .cons _ t, r => .cons r t
  | _, _, i + 1, _, _, .cons q t, r => .cons q (RpL.set i t r)
theorem RpL.take : ∀ {us : List U} {vs : List V} (i : Nat), RpL T c us vs → RpL T c (us.take i) (vs.take i)
  | _, _, 0, _ => .nil
  | _, _, _ + 1, .nil => .nil
  | _, _, i + 1, .cons r t => .cons r (RpL.take i t)
theorem RpL.drop : ∀ {us : List U} {vs : List V} (i : Nat), RpL T c us vs → RpL T c (us.drop i) (vs.drop i)
  | _, _, 0, r => r
  | _, _, _ + 1, .nil => .nil
  | _, _, i + 1, .cons _ t => RpL.drop i t
theorem RpL.one {u : U} {v : V} (r : Rp T c u v) : RpL T c [u] [v] := .cons r .nil
theorem RpL.inv_cons {u : U} {us : List U} {ws : List V} (r : RpL T c (u :: us) ws) : ∃ v vs, ws = v :: vs ∧ Rp T c u v ∧ RpL T c us vs := by
  cases r with
  | cons a b => exact ⟨_, _, rfl, a, b⟩
theorem RpL.inv_nil {ws : List V} (r : RpL T c [] ws) : ws = [] := by
  cases r with
  | nil => rfl
end

/-- an object that may change, and what stands at its place -/
def RO (T : Tb) (c : Cn) : Ob → Addr → HO → Prop
  | .lst us, _, h => ∃ vs, h = .lst vs ∧ RpL T c us vs
  | .dK kvs, _, h => ∃ vs, h = .dK vs ∧ RpK T c kvs vs
  | .ins k us, _, h => ∃ dx vs, h = .ins (T.cls k) dx ((T.fld k).zip vs) ∧ vs.length ≤ (T.fld k).length ∧ RpL T c us vs
  | .iset ks, a, h => h = SetO T.w a (fun k => decide (k ∈ ks)) ks.length
  | .dead, _, _ => False
theorem RO.mono {T : Tb} {c c' : Cn} (l : Le c c') {o : Ob} {a : Addr} {h : HO} (r : RO T c o a h) : RO T c' o a h := by
  cases o with
  | lst us => obtain ⟨vs, e, r⟩ := r; exact ⟨vs, e, r.mono l⟩
  | dK kvs => obtain ⟨vs, e, r⟩ := r; exact ⟨vs, e, r.mono l⟩
  | ins k us => obtain ⟨dx, vs, e, z, r⟩ := r; exact ⟨dx, vs, e, z, r.mono l⟩
  | iset ks => exact r
  | dead => exact r.elim

/-- the heap holds what the mirror says -/
structure RH (T : Tb) (c : Cn) (st : Sto) (H : Hp) : Prop where
  n : c.n = st.length
  sub : ∀ a o, c.F a = some o → H a = some o
  act : ∀ i o, st[i]? = some o → o ≠ .dead → ∃ h, H (c.ρ i) = some h ∧ RO T c o (c.ρ i) h ∧ c.F (c.ρ i) = none
  inj : ∀ i j a b, st[i]? = some a → a ≠ .dead → st[j]? = some b → b ≠ .dead → c.ρ i = c.ρ j → i = j

/-- an exception in the air: its class, its own dict with its fields -/
def RX (T : Tb) (c : Cn) (x : Ex) (cls : Value) (d : Option Addr) : Prop :=
  cls = .ref (T.cls x.k) ∧ ∃ (dx : Addr) (vs : List V), d = some dx ∧ c.F dx = some (.xd (((T.fld x.k).zip vs).reverse)) ∧ vs.length = (T.fld x.k).length ∧ RpL T c x.us vs
theorem RX.mono {T : Tb} {c c' : Cn} (l : Le c c') {x : Ex} {cls : Value} {d : Option Addr} (r : RX T c x cls d) : RX T c' x cls d := by
  obtain ⟨e, dx, vs, h1, h2, h3, h4⟩ := r
  exact ⟨e, dx, vs, h1, l.F _ _ h2, h3, h4.mono l⟩

/-- within an except suite: the slot that holds the exception, where it lies, what it is -/
structure PinD where
  i : Nat
  a : Addr
  x : Ex
  cls : Value
  d : Option Addr
abbrev Pin := Option PinD
def pinned (P : Pin) (i : Nat) : Bool := match P with
  | some p => p.i == i
  | none => false

/-- the names -/
abbrev Env := List (Option U)
structure RE (T : Tb) (P : Pin) (c : Cn) (env : Env) (σ : St) : Prop where
  len : env.length = σ.length
  get : ∀ (i : Nat) (u : U), env[i]? = some (some u) → ∃ v, σ[i]? = some (some v) ∧ Rp T c u v
  pin : ∀ p, P = some p → σ[p.i]? = some (some (.ref p.a)) ∧ RX T c p.x p.cls p.d
theorem RE.mono {T : Tb} {P : Pin} {c c' : Cn} (l : Le c c') {env : Env} {σ : St} (r : RE T P c env σ) : RE T P c' env σ :=
  ⟨r.len, fun i u e => let ⟨v, h, q⟩ := r.get i u e; ⟨v, h, q.mono l⟩, fun p e => ⟨(r.pin p e).1, (r.pin p e).2.mono l⟩⟩
theorem RE.set {T : Tb} {P : Pin} {c : Cn} {env : Env} {σ : St} (r : RE T P c env σ) {u : U} {v : V} (q : Rp T c u v) (i : Nat) (hp : pinned P i = false) : RE T P c (env.set i (some u)) (σ.set i (some v)) := by
  refine ⟨by simp [r.len], fun j w e => ?_, fun p e => ⟨?_, (r.pin p e).2⟩⟩
  · by_cases h : i = j
    · subst h
      have hi : i < env.length := by
        have := (List.getElem?_eq_some_iff.mp e).1
        simpa using this
      rw [List.getElem?_set_self hi] at e
      cases e
      exact ⟨v, by rw [List.getElem?_set_self (by rw [← r.len]; exact hi)], q⟩
    · rw [List.getElem?_set_ne h] at e
      rw [List.getElem?_set_ne h]
      exact r.get j w e
  · subst e
    have h : i ≠ p.i := fun z => by
      have z' : (p.i == i) = false := hp
      rw [z] at z'
      simp at z'
    rw [List.getElem?_set_ne h]
    exact (r.pin p rfl).1
theorem RE.unset {T : Tb} {P : Pin} {c : Cn} {env : Env} {σ : St} (r : RE T P c env σ) (i : Nat) (hp : pinned P i = false) : RE T P c (env.set i none) (σ.set i none) := by
  refine ⟨by simp [r.len], fun j w e => ?_, fun p e => ⟨?_, (r.pin p e).2⟩⟩
  · by_cases h : i = j
    · subst h
      have hi : i < env.length := by
        have := (List.getElem?_eq_some_iff.mp e).1
        simpa using this
      rw [List.getElem?_set_self hi] at e
      cases e
    · rw [List.getElem?_set_ne h] at e
      rw [List.getElem?_set_ne h]
      exact r.get j w e
  · subst e
    have h : i ≠ p.i := fun z => by
      have z' : (p.i == i) = false := hp
      rw [z] at z'
      simp at z'
    rw [List.getElem?_set_ne h]
    exact (r.pin p rfl).1
/-- names forgotten -/
theorem RE.weak {T : Tb} {P : Pin} {c : Cn} {env env' : Env} {σ : St} (r : RE T P c env σ) (hl : env'.length = env.length) (h : ∀ (i : Nat) u, env'[i]? = some (some u) → env[i]? = some (some u)) : RE T P c env' σ :=
  ⟨hl.trans r.len, fun i u e => r.get i u (h i u e), r.pin⟩

/-- what is wanted of an outcome -/
def ResG {α β : Type} (T : Tb) (Wx : WX) (c : Cn) (σ : St) (R : Cn → α → β → Prop) (r : Out α) (Q : β → Hp → Prop) : Prop := match r with
  | .ok u st' => ∀ c' v H', Le c c' → RH T c' st' H' → R c' u v → Q v H'
  | .exc x st' => ∀ c' cls d H', Le c c' → RH T c' st' H' → RX T c' x cls d → Wx cls d σ H'
  | .bad => False
abbrev MG (α : Type) := Env → Sto → Out α
abbrev ME := MG U
abbrev MT := MG Bool
abbrev MA := MG (List U)
/-- the reading of a mirrored thing -/
def tgOf {α β : Type} (T : Tb) (P : Pin) (Wx : WX) (R : Cn → α → β → Prop) (m : MG α) : St → Hp → (β → Hp → Prop) → Prop :=
  fun σ H Q => ∃ c env st, RH T c st H ∧ RE T P c env σ ∧ ResG T Wx c σ R (m env st) Q
abbrev teOf (T : Tb) (P : Pin) (Wx : WX) (m : ME) : TE := tgOf T P Wx (Rp T) m
abbrev ttOf (T : Tb) (P : Pin) (Wx : WX) (m : MT) : TT := tgOf T P Wx (fun _ a b => a = b) m
abbrev taOf (T : Tb) (P : Pin) (Wx : WX) (m : MA) : TA := tgOf T P Wx (RpL T) m

section
variable {α β γ δ : Type} {T : Tb} {P : Pin} {Wx : WX} {R : Cn → α → β → Prop} {R' : Cn → γ → δ → Prop} {c c' : Cn} {σ : St} {r : Out α} {H : Hp} {m : MG α}
theorem ResG.mono {Q Q' : β → Hp → Prop} (h : ResG T Wx c σ R r Q) (k : ∀ v H, Q v H → Q' v H) : ResG T Wx c σ R r Q' := by
  cases r with
  | ok u st => exact fun c' v H' a b d => k _ _ (h c' v H' a b d)
  | exc x st => exact h
  | bad => exact h
theorem ResG.later {Q : β → Hp → Prop} (l : Le c c') (h : ResG T Wx c σ R r Q) : ResG T Wx c' σ R r Q := by
  cases r with
  | ok u st => exact fun c2 v H' a b d => h c2 v H' (l.trans a) b d
  | exc x st => exact fun c2 cls d H' a b e => h c2 cls d H' (l.trans a) b e
  | bad => exact h
theorem tgOf.mono {Q Q' : β → Hp → Prop} (h : tgOf T P Wx R m σ H Q) (k : ∀ v H, Q v H → Q' v H) : tgOf T P Wx R m σ H Q' :=
  let ⟨c, env, st, a, b, r⟩ := h
  ⟨c, env, st, a, b, r.mono k⟩
/-- a mirrored thing first, then the rest -/
theorem tg_bind {k : α → Sto → Out γ} {env : Env} {st : Sto} {Q : δ → Hp → Prop} (hH : RH T c st H) (hE : RE T P c env σ) (hR : ResG T Wx c σ R' ((m env st).bind k) Q) :
    tgOf T P Wx R m σ H fun x H1 => ∃ u c1 st1, Le c c1 ∧ RH T c1 st1 H1 ∧ RE T P c1 env σ ∧ R c1 u x ∧ ResG T Wx c1 σ R' (k u st1) Q := by
  refine ⟨c, env, st, hH, hE, ?_⟩
  cases e : m env st with
  | ok u st1 =>
    rw [e] at hR
    exact fun c1 v H1 l h r => ⟨u, c1, st1, l, h, hE.mono l, r, ResG.later l hR⟩
  | exc x st1 =>
    rw [e] at hR
    exact hR
  | bad =>
    rw [e] at hR
    exact hR
/-- at the end: the value -/
theorem ResG.ret {Q : β → Hp → Prop} {u : α} {v : β} {st : Sto} (h : ResG T Wx c σ R (.ok u st) Q) (hH : RH T c st H) (r : R c u v) : Q v H := h c v H (Le.refl c) hH r
end

/-- the judgements: the code does what its mirror does -/
def PEm (X : Cx) (T : Tb) (P : Pin) (Wx : WX) (e : Expr) (m : ME) : Prop := PE X e (teOf T P Wx m)
def PTm (X : Cx) (T : Tb) (P : Pin) (Wx : WX) (e : Expr) (m : MT) : Prop := PT X e (ttOf T P Wx m)
def PWm (X : Cx) (T : Tb) (P : Pin) (Wx : WX) (e : Expr) (m : MT) : Prop := PW X e (ttOf T P Wx m)
def PAm (X : Cx) (T : Tb) (P : Pin) (Wx : WX) (es : List Expr) (m : MA) : Prop := PA X es (taOf T P Wx m)
theorem PE.imp {X : Cx} {e : Expr} {t t' : TE} (h : PE X e t) (k : ∀ σ H Q, t' σ H Q → t σ H Q) : PE X e t' := ⟨fun pins s σ H Q I q => h.run pins s σ H Q I (k σ H Q q)⟩
theorem PT.imp {X : Cx} {e : Expr} {t t' : TT} (h : PT X e t) (k : ∀ σ H Q, t' σ H Q → t σ H Q) : PT X e t' := ⟨fun pins s σ H Q I q => h.run pins s σ H Q I (k σ H Q q)⟩
theorem PW.imp {X : Cx} {e : Expr} {t t' : TT} (h : PW X e t) (k : ∀ σ H Q, t' σ H Q → t σ H Q) : PW X e t' := ⟨fun wh pins s σ H Q I q => h.run wh pins s σ H Q I (k σ H Q q)⟩
theorem PA.imp {X : Cx} {e : List Expr} {t t' : TA} (h : PA X e t) (k : ∀ σ H Q, t' σ H Q → t σ H Q) : PA X e t' := ⟨fun pos pins s σ H Q I q => h.run pos pins s σ H Q I (k σ H Q q)⟩
theorem PS.imp {X : Cx} {e : Stmt} {t t' : TS} (h : PS X e t) (k : ∀ D σ H, t' D σ H → t D σ H) : PS X e t' := ⟨fun pins s σ H D I q => h.run pins s σ H D I (k D σ H q)⟩
theorem PSs.imp {X : Cx} {e : List Stmt} {t t' : TS} (h : PSs X e t) (k : ∀ D σ H, t' D σ H → t D σ H) : PSs X e t' := ⟨fun pins s σ H D I q => h.run pins s σ H D I (k D σ H q)⟩
theorem PI.imp {X : Cx} {tg e : Expr} {t t' : TI} (h : PI X tg e t) (k : ∀ σ H R, t' σ H R → t σ H R) : PI X tg e t' := ⟨fun pins s σ H R I q => h.run pins s σ H R I (k σ H R q)⟩
theorem PI.or {X : Cx} {tg iter : Expr} {w w' : TI} (h : PI X tg iter w) (g : PI X tg iter w') : PI X tg iter (fun σ H R => w σ H R ∨ w' σ H R) := ⟨fun pins s σ H R I q => by
  rcases q with q | q
  · exact h.run pins s σ H R I q
  · exact g.run pins s σ H R I q⟩
end NK

set_option Elab.async false
set_option linter.all false
set_option maxRecDepth 100000
set_option maxHeartbeats 2000000
/-! NK2: expressions. -/
namespace NK
open PySem L2

/-! ### mirrors of expressions -/
def eVar (i : Nat) : ME := fun env st => match env[i]? with
  | some (some u) => .ok u st
  | _ => .bad
def eC (u : U) : ME := fun _ st => .ok u st
def eOp (f : U → U → Sto → Out U) (ma mb : ME) : ME := fun env st => (ma env st).bind fun x st1 => (mb env st1).bind fun y st2 => f x y st2
def eUn (f : U → Sto → Out U) (ma : ME) : ME := fun env st => (ma env st).bind fun x st1 => f x st1
def aNil : MA := fun _ st => .ok [] st
def aCons (m : ME) (r : MA) : MA := fun env st => (m env st).bind fun x st1 => (r env st1).bind fun xs st2 => .ok (x :: xs) st2
def eCB (f : List U → Sto → Out U) (m : MA) : ME := fun env st => (m env st).bind fun xs st1 => f xs st1
def eTup (m : MA) : ME := fun env st => (m env st).bind fun xs st1 => if xs.length ≤ 16777216 then .ok (.tup xs) st1 else .bad
def eLst (m : MA) : ME := fun env st => (m env st).bind fun xs st1 => if xs.length ≤ 16777216 then .ok (.loc st1.length) (st1 ++ [.lst xs]) else .bad
/-- what stood in the store stands still from now on -/
def frz (u : U) (st : Sto) : Out U := match u with
  | .loc i => match st[i]? with
    | some (.lst us) => .ok (.lst us) (st.set i .dead)
    | some (.ins k us) => .ok (.ins k us) (st.set i .dead)
    | _ => .bad
  | u => .ok u st
def eFrz (m : ME) : ME := eUn frz m
def eIf (mt : MT) (ma mb : ME) : ME := fun env st => (mt env st).bind fun b st1 => if b = true then ma env st1 else mb env st1
def eAnd (ma mb : ME) : ME := fun env st => (ma env st).bind fun x st1 => match x with
  | .bl true => mb env st1
  | .bl false => .ok (.bl false) st1
  | _ => .bad
def eOr (ma mb : ME) : ME := fun env st => (ma env st).bind fun x st1 => match x with
  | .bl true => .ok (.bl true) st1
  | .bl false => mb env st1
  | _ => .bad
def eNot (ma : ME) : ME := fun env st => (ma env st).bind fun x st1 => match x with
  | .bl b => .ok (.bl (!b)) st1
  | _ => .bad
/-- tests -/
def tB (m : ME) : MT := fun env st => (m env st).bind fun x st1 => match x with
  | .bl b => .ok b st1
  | _ => .bad
/-- the items of a list or tuple -/
def items (u : U) (st : Sto) : Option (List U) := match u with
  | .tup us => some us
  | .lst us => some us
  | .scr us => some us
  | .loc i => match st[i]? with
    | some (.lst us) => some us
    | _ => none
  | _ => none
def truth (u : U) (st : Sto) : Option Bool := match u with
  | .non => some false
  | .bl b => some b
  | .int i => some (i != 0)
  | .str z => if z.length ≤ 16777216 then some ((z.length : Int) != 0) else none
  | .tup us => some (!us.isEmpty)
  | .lst us => some (!us.isEmpty)
  | .loc i => match st[i]? with
    | some (.lst us) => some (!us.isEmpty)
    | some (.dK us) => some (!us.isEmpty)
    | _ => none
  | _ => none
def tTru (m : ME) : MT := fun env st => (m env st).bind fun x st1 => match truth x st1 with
  | some b => .ok b st1
  | none => .bad
def tAnd (ma mb : MT) : MT := fun env st => (ma env st).bind fun b st1 => if b = true then mb env st1 else .ok false st1
def tOr (ma mb : MT) : MT := fun env st => (ma env st).bind fun b st1 => if b = true then .ok true st1 else mb env st1
def tNot (ma : MT) : MT := fun env st => (ma env st).bind fun b st1 => .ok (!b) st1

/-! ### what a value is -/
section
variable {T : Tb} {c : Cn} {st : Sto} {H : Hp}
theorem Rp.inv_int {i : Int} {v : V} (r : Rp T c (.int i) v) : v = .int i := by cases r; rfl
theorem Rp.inv_bl {i : Bool} {v : V} (r : Rp T c (.bl i) v) : v = .bl i := by cases r; rfl
theorem Rp.inv_str {i : Str} {v : V} (r : Rp T c (.str i) v) : v = .str i := by cases r; rfl
theorem Rp.inv_non {v : V} (r : Rp T c .non v) : v = .non := by cases r; rfl
theorem Rp.inv_ty {n : Ty} {v : V} (r : Rp T c (.ty n) v) : v = .ty n.name := by cases r; rfl
theorem Rp.inv_cls {k : Nat} {v : V} (r : Rp T c (.cls k) v) : v = .ref (T.cls k) := by cases r; rfl
theorem Rp.inv_scr {us : List U} {v : V} (r : Rp T c (.scr us) v) : ∃ a vs, v = .ref a ∧ SqL T.K c.F a vs ∧ RpL T c us vs := by cases r with | scr a b => exact ⟨_, _, rfl, a, b⟩
theorem Rp.inv_tup {us : List U} {v : V} (r : Rp T c (.tup us) v) : ∃ a vs, v = .ref a ∧ SqT T.K c.F a vs ∧ RpL T c us vs := by cases r with | tup a b => exact ⟨_, _, rfl, a, b⟩
theorem Rp.inv_lst {us : List U} {v : V} (r : Rp T c (.lst us) v) : ∃ a vs, v = .ref a ∧ c.F a = some (.lst vs) ∧ RpL T c us vs := by cases r with | lst a b => exact ⟨_, _, rfl, a, b⟩
theorem Rp.inv_ins {k : Nat} {us : List U} {v : V} (r : Rp T c (.ins k us) v) : ∃ a dx vs, v = .ref a ∧ c.F a = some (.ins (T.cls k) dx ((T.fld k).zip vs)) ∧ vs.length ≤ (T.fld k).length ∧ RpL T c us vs := by
  cases r with | ins a b d => exact ⟨_, _, _, rfl, a, b, d⟩
theorem Rp.inv_loc {i : Nat} {v : V} (r : Rp T c (.loc i) v) : i < c.n ∧ v = .ref (c.ρ i) := by cases r with | loc h => exact ⟨h, rfl⟩
theorem sqL_up (h : RH T c st H) {a : Addr} {vs : List V} (r : SqL T.K c.F a vs) : SqL T.K H a vs := sqL_mono h.sub r
theorem sqT_up (h : RH T c st H) {a : Addr} {vs : List V} (r : SqT T.K c.F a vs) : SqT T.K H a vs := sqT_mono h.sub r
theorem RH.at_lst (h : RH T c st H) {i : Nat} {us : List U} (e : st[i]? = some (.lst us)) : ∃ vs, H (c.ρ i) = some (.lst vs) ∧ RpL T c us vs := by
  obtain ⟨o, h1, ⟨vs, h2, h3⟩, _⟩ := h.act i _ e (fun z => nomatch z)
  subst h2
  exact ⟨vs, h1, h3⟩
theorem RH.at_ins (h : RH T c st H) {i k : Nat} {us : List U} (e : st[i]? = some (.ins k us)) : ∃ dx vs, H (c.ρ i) = some (.ins (T.cls k) dx ((T.fld k).zip vs)) ∧ vs.length ≤ (T.fld k).length ∧ RpL T c us vs := by
  obtain ⟨o, h1, ⟨dx, vs, h2, h3, h4⟩, _⟩ := h.act i _ e (fun z => nomatch z)
  subst h2
  exact ⟨dx, vs, h1, h3, h4⟩
theorem RH.at_dK (h : RH T c st H) {i : Nat} {us : List (Key × U)} (e : st[i]? = some (.dK us)) : ∃ vs, H (c.ρ i) = some (.dK vs) ∧ RpK T c us vs := by
  obtain ⟨o, h1, ⟨vs, h2, h3⟩, _⟩ := h.act i _ e (fun z => nomatch z)
  subst h2
  exact ⟨vs, h1, h3⟩
/-- what items tells -/
theorem items_at (h : RH T c st H) {u : U} {v : V} {us : List U} (r : Rp T c u v) (e : items u st = some us) : ∃ a vs, v = .ref a ∧ (SqL T.K H a vs ∨ SqT T.K H a vs) ∧ RpL T c us vs := by
  cases u with
  | tup xs =>
    obtain ⟨a, vs, rfl, h1, h2⟩ := r.inv_tup
    cases e
    exact ⟨a, vs, rfl, .inr (sqT_up h h1), h2⟩
  | lst xs =>
    obtain ⟨a, vs, rfl, h1, h2⟩ := r.inv_lst
    cases e
    exact ⟨a, vs, rfl, .inl (SqL.of (h.sub _ _ h1)), h2⟩
  | scr xs =>
    obtain ⟨a, vs, rfl, h1, h2⟩ := r.inv_scr
    cases e
    exact ⟨a, vs, rfl, .inl (sqL_up h h1), h2⟩
  | loc i =>
    obtain ⟨_, rfl⟩ := r.inv_loc
    dsimp only [items] at e
    split at e
    · rename_i us' q
      cases e
      obtain ⟨vs, h1, h2⟩ := h.at_lst q
      exact ⟨_, vs, rfl, .inl (SqL.of h1), h2⟩
    · cases e
  | _ => cases e
theorem isEmpty_rp {us : List U} {vs : List V} (r : RpL T c us vs) : (!vs.isEmpty) = !us.isEmpty := by cases r <;> rfl
theorem truth_at (h : RH T c st H) {u : U} {v : V} {b : Bool} (r : Rp T c u v) (e : truth u st = some b) : TruV T.K v H b := by
  cases u with
  | non => cases r.inv_non; cases e; rfl
  | bl x => cases r.inv_bl; cases e; rfl
  | int i => cases r.inv_int; cases e; rfl
  | str z =>
    cases r.inv_str
    dsimp only [truth] at e
    split at e
    · rename_i hz
      cases e
      exact ⟨by rw [sizeLine_eq]; exact hz, rfl⟩
    · cases e
  | tup xs =>
    obtain ⟨a, vs, rfl, h1, h2⟩ := r.inv_tup
    cases e
    exact .inr (.inl ⟨vs, sqT_up h h1, (isEmpty_rp h2).symm⟩)
  | lst xs =>
    obtain ⟨a, vs, rfl, h1, h2⟩ := r.inv_lst
    cases e
    exact .inl ⟨vs, SqL.of (h.sub _ _ h1), (isEmpty_rp h2).symm⟩
  | loc i =>
    obtain ⟨_, rfl⟩ := r.inv_loc
    dsimp only [truth] at e
    split at e
    · rename_i us' q
      cases e
      obtain ⟨vs, h1, h2⟩ := h.at_lst q
      exact .inl ⟨vs, SqL.of h1, (isEmpty_rp h2).symm⟩
    · rename_i us' q
      cases e
      obtain ⟨vs, h1, h2⟩ := h.at_dK q
      refine .inr (.inr ⟨vs, h1, ?_⟩)
      cases h2 <;> rfl
    · cases e
  | ins k us => cases e
  | ty n => cases e
  | cls n => cases e
  | scr n => cases e
end

/-! ### new things on the heap -/
def upr (ρ : Nat → Addr) (n : Nat) (p : Addr) : Nat → Addr := fun i => if i = n then p else ρ i
section
variable {T : Tb} {c : Cn} {st : Sto} {H : Hp}
theorem RH.ne_new (h : RH T c st H) {p : Addr} (hp : H p = none) {i : Nat} {o : Ob} (e : st[i]? = some o) (d : o ≠ .dead) : c.ρ i ≠ p := fun z => by
  obtain ⟨x, h1, _⟩ := h.act i o e d
  rw [z, hp] at h1
  cases h1
theorem RH.F_new (h : RH T c st H) {p : Addr} (hp : H p = none) : c.F p = none := by
  cases e : c.F p with
  | none => rfl
  | some o =>
    rw [h.sub p o e] at hp
    cases hp
/-- a new thing that never changes -/
def Cn.still (c : Cn) (p : Addr) (o : HO) : Cn := { c with F := upd c.F p o }
theorem le_still (h : RH T c st H) {p : Addr} (hp : H p = none) (o : HO) : Le c (c.still p o) :=
  ⟨Nat.le_refl _, fun _ _ => rfl, fun a u e => by
    show upd c.F p o a = _
    rw [upd_ne (fun z => by rw [z, h.F_new hp] at e; cases e)]
    exact e⟩
theorem RH.still (h : RH T c st H) {p : Addr} (hp : H p = none) (o : HO) : RH T (c.still p o) st (upd H p o) := by
  have l := le_still h hp o
  refine ⟨h.n, fun a u e => ?_, fun i ob e d => ?_, h.inj⟩
  · have e' : upd c.F p o a = some u := e
    by_cases z : a = p
    · subst z
      rw [upd_same] at e' ⊢
      exact e'
    · rw [upd_ne z] at e' ⊢
      exact h.sub a u e'
  · obtain ⟨x, h1, h2, h3⟩ := h.act i ob e d
    have ne := h.ne_new hp e d
    refine ⟨x, ?_, h2.mono l, ?_⟩
    · show upd H p o (c.ρ i) = _
      rw [upd_ne ne]; exact h1
    · show upd c.F p o (c.ρ i) = _
      rw [upd_ne ne]; exact h3
/-- a new thing that may change -/
def Cn.new (c : Cn) (p : Addr) : Cn := { ρ := upr c.ρ c.n p, n := c.n + 1, F := c.F }
theorem le_new (c : Cn) (p : Addr) : Le c (c.new p) :=
  ⟨Nat.le_succ _, fun i hi => by
    show upr c.ρ c.n p i = _
    unfold upr
    rw [if_neg (Nat.ne_of_lt hi)], fun _ _ e => e⟩
theorem new_self (c : Cn) (p : Addr) : (c.new p).ρ c.n = p := by
  show upr c.ρ c.n p c.n = p
  unfold upr
  rw [if_pos rfl]
theorem RH.new (h : RH T c st H) {p : Addr} (hp : H p = none) {o : Ob} {x : HO} (r : RO T c o p x) : RH T (c.new p) (st ++ [o]) (upd H p x) := by
  have l := le_new c p
  have old : ∀ {i : Nat} {a : Ob}, i ≠ st.length → (st ++ [o])[i]? = some a → i < st.length ∧ st[i]? = some a := fun {i a} hi e => by
    by_cases z : i < st.length
    · rw [List.getElem?_append_left z] at e
      exact ⟨z, e⟩
    · rw [List.getElem?_append_right (by omega)] at e
      have : i - st.length = 0 ∨ 0 < i - st.length := by omega
      rcases this with q | q
      · omega
      · rw [List.getElem?_eq_none (by simp; omega)] at e
        cases e
  have self : ∀ {a : Ob}, (st ++ [o])[st.length]? = some a → a = o := fun {a} e => by
    rw [List.getElem?_append_right (Nat.le_refl _), Nat.sub_self] at e
    exact (Option.some.inj e).symm
  have hρ : ∀ {i : Nat}, i < st.length → (c.new p).ρ i = c.ρ i := fun {i} hi => l.ρ i (by rw [h.n]; exact hi)
  refine ⟨by show c.n + 1 = _; rw [h.n]; simp, fun a u e => ?_, fun i a e d => ?_, fun i j a b ea da eb db q => ?_⟩
  · rw [upd_ne (fun z => by
      have e' : c.F a = some u := e
      rw [z, h.F_new hp] at e'
      cases e')]
    exact h.sub a u e
  · by_cases hi : i = st.length
    · subst hi
      have := self e
      subst this
      refine ⟨x, ?_, ?_, ?_⟩
      · rw [← h.n, new_self, upd_same]
      · rw [← h.n, new_self]; exact r.mono l
      · rw [← h.n, new_self]; exact h.F_new hp
    · obtain ⟨hlt, e'⟩ := old hi e
      obtain ⟨y, h1, h2, h3⟩ := h.act i a e' d
      refine ⟨y, ?_, ?_, ?_⟩
      · rw [hρ hlt, upd_ne (h.ne_new hp e' d)]; exact h1
      · rw [hρ hlt]; exact h2.mono l
      · rw [hρ hlt]; exact h3
  · by_cases hi : i = st.length
    · by_cases hj : j = st.length
      · rw [hi, hj]
      · obtain ⟨hlt, eb'⟩ := old hj eb
        subst hi
        rw [← h.n, new_self, hρ hlt] at q
        exact absurd q.symm (h.ne_new hp eb' db)
    · obtain ⟨hlt, ea'⟩ := old hi ea
      by_cases hj : j = st.length
      · subst hj
        rw [hρ hlt, ← h.n, new_self] at q
        exact absurd q (h.ne_new hp ea' da)
      · obtain ⟨hlt', eb'⟩ := old hj eb
        rw [hρ hlt, hρ hlt'] at q
        exact h.inj i j a b ea' da eb' db q
/-- a thing changed -/
theorem RH.set (h : RH T c st H) {i : Nat} {o o' : Ob} {x : HO} (e : st[i]? = some o) (d : o ≠ .dead) (r : RO T c o' (c.ρ i) x) : RH T c (st.set i o') (upd H (c.ρ i) x) := by
  have hi : i < st.length := (List.getElem?_eq_some_iff.mp e).1
  have old : ∀ {j : Nat} {a : Ob}, j ≠ i → (st.set i o')[j]? = some a → st[j]? = some a := fun {j a} hj q => by
    rw [List.getElem?_set_ne (Ne.symm hj)] at q
    exact q
  have self : ∀ {a : Ob}, (st.set i o')[i]? = some a → a = o' := fun {a} q => by
    rw [List.getElem?_set_self hi] at q
    exact (Option.some.inj q).symm
  refine ⟨by rw [h.n]; simp, fun a u q => ?_, fun j a q da => ?_, fun j k a b ea da eb db q => ?_⟩
  · obtain ⟨_, _, _, h3⟩ := h.act i o e d
    rw [upd_ne (fun z => by rw [z, h3] at q; cases q)]
    exact h.sub a u q
  · by_cases hj : j = i
    · subst hj
      have := self q
      subst this
      obtain ⟨_, _, _, h3⟩ := h.act j o e d
      exact ⟨x, upd_same, r, h3⟩
    · have q' := old hj q
      obtain ⟨y, h1, h2, h3⟩ := h.act j a q' da
      refine ⟨y, ?_, h2, h3⟩
      rw [upd_ne (fun z => hj (h.inj j i a o q' da e d z))]
      exact h1
  · by_cases hj : j = i
    · by_cases hk : k = i
      · rw [hj, hk]
      · subst hj
        exact h.inj j k o b e d (old hk eb) db q
    · by_cases hk : k = i
      · subst hk
        exact h.inj j k a o (old hj ea) da e d q
      · exact h.inj j k a b (old hj ea) da (old hk eb) db q
/-- a thing that is not to change any more -/
theorem le_freeze (h : RH T c st H) {i : Nat} {o : Ob} {x : HO} (e : st[i]? = some o) (d : o ≠ .dead) : Le c { c with F := upd c.F (c.ρ i) x } := by
  obtain ⟨_, _, _, h3⟩ := h.act i o e d
  exact ⟨Nat.le_refl _, fun _ _ => rfl, fun a u q => by
    show upd c.F (c.ρ i) x a = _
    rw [upd_ne (fun z => by rw [z, h3] at q; cases q)]
    exact q⟩
theorem RH.freeze (h : RH T c st H) {i : Nat} {o : Ob} {x : HO} (e : st[i]? = some o) (d : o ≠ .dead) (hx : H (c.ρ i) = some x) : RH T { c with F := upd c.F (c.ρ i) x } (st.set i .dead) H := by
  have l := le_freeze (x := x) h e d
  have old : ∀ {j : Nat} {a : Ob}, a ≠ .dead → (st.set i .dead)[j]? = some a → j ≠ i ∧ st[j]? = some a := fun {j a} ha q => by
    have hj : j ≠ i := fun z => by
      subst z
      have hlt : j < st.length := (List.getElem?_eq_some_iff.mp e).1
      rw [List.getElem?_set_self hlt] at q
      exact ha (Option.some.inj q).symm
    rw [List.getElem?_set_ne (Ne.symm hj)] at q
    exact ⟨hj, q⟩
  refine ⟨by show c.n = _; rw [h.n]; simp, fun a u q => ?_, fun j a q da => ?_, fun j k a b ea da eb db q => ?_⟩
  · have q' : upd c.F (c.ρ i) x a = some u := q
    by_cases z : a = c.ρ i
    · subst z
      rw [upd_same] at q'
      rw [← q']; exact hx
    · rw [upd_ne z] at q'
      exact h.sub a u q'
  · obtain ⟨hj, q'⟩ := old da q
    obtain ⟨y, h1, h2, h3⟩ := h.act j a q' da
    refine ⟨y, h1, h2.mono l, ?_⟩
    show upd c.F (c.ρ i) x (c.ρ j) = _
    rw [upd_ne (fun z => hj (h.inj j i a o q' da e d z))]
    exact h3
  · exact h.inj j k a b (old da ea).2 da (old db eb).2 db q
end

/-! ### operators by values -/
/-- a two-place operation: the reading follows from the mirror -/
def OpSim (T : Tb) (r : R2) (f : U → U → Sto → Out U) : Prop :=
  ∀ (Wx : WX) (c : Cn) (σ : L2.St) (st : Sto) (H : Hp) (u w : U) (x y : V) (Q : VK), RH T c st H → Rp T c u x → Rp T c w y → ResG T Wx c σ (Rp T) (f u w st) Q → r x y H Q
def UnSim (T : Tb) (r : V → Hp → VK → Prop) (f : U → Sto → Out U) : Prop :=
  ∀ (Wx : WX) (c : Cn) (σ : L2.St) (st : Sto) (H : Hp) (u : U) (x : V) (Q : VK), RH T c st H → Rp T c u x → ResG T Wx c σ (Rp T) (f u st) Q → r x H Q
def CallSim (T : Tb) (r : List V → Hp → VK → Prop) (f : List U → Sto → Out U) : Prop :=
  ∀ (Wx : WX) (c : Cn) (σ : L2.St) (st : Sto) (H : Hp) (us : List U) (xs : List V) (Q : VK), RH T c st H → RpL T c us xs → ResG T Wx c σ (Rp T) (f us st) Q → r xs H Q

section
variable {X : Cx} {T : Tb} {P : Pin} {Wx : WX} {a b c : Expr} {ma mb mc : ME} {pos : Pos}
theorem pem_var {i : Nat} (h : PE X a (tVar i)) : PEm X T P Wx a (eVar i) := PE.imp h fun σ H Q ⟨c, env, st, hH, hE, hR⟩ => by
  unfold eVar at hR
  split at hR
  · rename_i u e
    obtain ⟨v, e', r⟩ := hE.get i u e
    exact ⟨v, e', hR.ret hH r⟩
  · exact hR.elim
theorem pem_c {v : V} {u : U} (h : PE X a (tC v)) (r : ∀ c, Rp T c u v) : PEm X T P Wx a (eC u) := PE.imp h fun σ H Q ⟨c, env, st, hH, hE, hR⟩ =>
  ResG.ret (u := u) hR hH (r c)
theorem pem_int {i j} : PEm X T P Wx (.Constant (.int i) j pos) (eC (.int i)) := pem_c pe_int fun _ => .int i
theorem pem_bl {i j} : PEm X T P Wx (.Constant (.bool i) j pos) (eC (.bl i)) := pem_c pe_bl fun _ => .bl i
theorem pem_str {i j} : PEm X T P Wx (.Constant (.str i) j pos) (eC (.str i)) := pem_c pe_str fun _ => .str i
theorem pem_non {j} : PEm X T P Wx (.Constant .none j pos) (eC .non) := pem_c pe_non fun _ => .non
theorem opr_run {r : R2} {f : U → U → Sto → Out U} (hs : OpSim T r f) (σ : L2.St) (H : Hp) (Q : VK) (h : teOf T P Wx (eOp f ma mb) σ H Q) : tOp r (teOf T P Wx ma) (teOf T P Wx mb) σ H Q := by
  obtain ⟨c, env, st, hH, hE, hR⟩ := h
  refine (tg_bind hH hE hR).mono fun x H1 ⟨u, c1, st1, l1, hH1, hE1, r1, hR1⟩ => ?_
  refine (tg_bind hH1 hE1 hR1).mono fun y H2 ⟨w, c2, st2, l2, hH2, hE2, r2, hR2⟩ => ?_
  exact hs Wx c2 σ st2 H2 u w x y Q hH2 (r1.mono l2) r2 hR2
theorem pem_op {op : Operator} {r : R2} {f : U → U → Sto → Out U} (ho : OpR X (binaryOp op) r) (hs : OpSim T r f) (ha : PEm X T P Wx a ma) (hb : PEm X T P Wx b mb) : PEm X T P Wx (.BinOp a op b pos) (eOp f ma mb) :=
  PE.imp (pe_op ho ha hb) (opr_run hs)
theorem pem_cmp {op : CmpOp} {r : R2} {f : U → U → Sto → Out U} (ho : OpR X (compareOp op) r) (hs : OpSim T r f) (ha : PEm X T P Wx a ma) (hb : PEm X T P Wx b mb) (hm : behindInMarks op b = false) : PEm X T P Wx (.Compare a [op] [b] pos) (eOp f ma mb) :=
  PE.imp (pe_cmpR ho ha hb hm) (opr_run hs)
theorem test_run {t : TE} {m : ME} (h1 : ∀ σ H Q, teOf T P Wx m σ H Q → t σ H Q) (σ : L2.St) (H : Hp) (Q : Bool → Hp → Prop) (h : ttOf T P Wx (tB m) σ H Q) : tTest t σ H Q := by
  obtain ⟨c, env, st, hH, hE, hR⟩ := h
  refine h1 σ H _ ((tg_bind hH hE hR).mono fun x H1 ⟨u, c1, st1, l1, hH1, hE1, r1, hR1⟩ => ?_)
  cases u with
  | bl k =>
    cases r1.inv_bl
    exact ⟨k, rfl, hR1.ret hH1 rfl⟩
  | _ => exact hR1.elim
theorem ptm_cmp {op : CmpOp} {r : R2} {f : U → U → Sto → Out U} (ho : OpR X (compareOp op) r) (hs : OpSim T r f) (ha : PEm X T P Wx a ma) (hb : PEm X T P Wx b mb) (hm : behindInMarks op b = false) : PTm X T P Wx (.Compare a [op] [b] pos) (tB (eOp f ma mb)) :=
  PT.imp (pt_cmpR ho ha hb hm) (test_run (opr_run hs))
/-- a op b op' c -/
def eChain (f g : U → U → Sto → Out U) (ma mb mc : ME) : ME := fun env st => (ma env st).bind fun x st1 => (mb env st1).bind fun y st2 => (f x y st2).bind fun z st3 => match z with
  | .bl true => (mc env st3).bind fun w st4 => g y w st4
  | .bl false => .ok (.bl false) st3
  | _ => .bad
theorem chain_run {r r' : R2} {f g : U → U → Sto → Out U} (hs : OpSim T r f) (hs' : OpSim T r' g) (σ : L2.St) (H : Hp) (Q : VK) (h : teOf T P Wx (eChain f g ma mb mc) σ H Q) : tChain r r' (teOf T P Wx ma) (teOf T P Wx mb) (teOf T P Wx mc) σ H Q := by
  obtain ⟨c, env, st, hH, hE, hR⟩ := h
  refine (tg_bind hH hE hR).mono fun x H1 ⟨u, c1, st1, l1, hH1, hE1, r1, hR1⟩ => ?_
  refine (tg_bind hH1 hE1 hR1).mono fun y H2 ⟨w, c2, st2, l2, hH2, hE2, r2, hR2⟩ => ?_
  refine hs Wx c2 σ st2 H2 u w x y _ hH2 (r1.mono l2) r2 ?_
  revert hR2
  cases e : f u w st2 with
  | ok z st3 =>
    intro hR2 c3 v H3 l3 hH3 r3
    have hR3 := ResG.later l3 hR2
    cases z with
    | bl k =>
      cases r3.inv_bl
      refine ⟨k, rfl, ?_⟩
      cases k with
      | true =>
        rw [if_pos rfl]
        refine (tg_bind (R' := Rp T) hH3 (hE2.mono l3) hR3).mono fun w' H4 ⟨t, c4, st4, l4, hH4, hE4, r4, hR4⟩ => ?_
        exact hs' Wx c4 σ st4 H4 w t y w' Q hH4 ((r2.mono l3).mono l4) r4 hR4
      | false =>
        rw [if_neg Bool.false_ne_true]
        exact ResG.ret hR3 hH3 (.bl false)
    | _ => exact hR3.elim
  | exc x' st3 => exact fun hR2 => hR2
  | bad => exact fun hR2 => hR2
theorem pem_chain {op op' : CmpOp} {r r' : R2} {f g : U → U → Sto → Out U} (ho : OpR X (compareOp op) r) (hs : OpSim T r f) (ho' : OpR X (compareOp op') r') (hs' : OpSim T r' g) (ha : PEm X T P Wx a ma) (hb : PEm X T P Wx b mb) (hc : PEm X T P Wx c mc)
    (hm : lastMarks [op, op'] [b, c] = false := by with_unfolding_all rfl) : PEm X T P Wx (.Compare a [op, op'] [b, c] pos) (eChain f g ma mb mc) := PE.imp (pe_chain ho ho' ha hb hc hm) (chain_run hs hs')
theorem ptm_chain {op op' : CmpOp} {r r' : R2} {f g : U → U → Sto → Out U} (ho : OpR X (compareOp op) r) (hs : OpSim T r f) (ho' : OpR X (compareOp op') r') (hs' : OpSim T r' g) (ha : PEm X T P Wx a ma) (hb : PEm X T P Wx b mb) (hc : PEm X T P Wx c mc)
    (hm : lastMarks [op, op'] [b, c] = false := by with_unfolding_all rfl) : PTm X T P Wx (.Compare a [op, op'] [b, c] pos) (tB (eChain f g ma mb mc)) := PT.imp (pt_chain ho ho' ha hb hc hm) (test_run (chain_run hs hs'))
theorem pem_un {op : UnaryOp} {r : V → Hp → VK → Prop} {f : U → Sto → Out U} (ho : UnR X (unaryOp op) r) (hs : UnSim T r f) (ha : PEm X T P Wx a ma) : PEm X T P Wx (.UnaryOp op a pos) (eUn f ma) :=
  PE.imp (pe_un ho ha) fun σ H Q ⟨c, env, st, hH, hE, hR⟩ => (tg_bind hH hE hR).mono fun x H1 ⟨u, c1, st1, l1, hH1, hE1, r1, hR1⟩ => hs Wx c1 σ st1 H1 u x Q hH1 r1 hR1
/-- what stood in the store stands still from now on (nothing happens in the program) -/
theorem pem_frz (ha : PEm X T P Wx a ma) : PEm X T P Wx a (eFrz ma) := PE.imp ha fun σ H Q ⟨c, env, st, hH, hE, hR⟩ => by
  refine (tg_bind hH hE hR).mono fun x H1 ⟨u, c1, st1, l1, hH1, hE1, r1, hR1⟩ => ?_
  have plain : ResG T Wx c1 σ (Rp T) (.ok u st1) Q → Q x H1 := fun h => h.ret hH1 r1
  cases u with
  | loc i =>
    obtain ⟨hi, rfl⟩ := r1.inv_loc
    dsimp only [frz] at hR1
    split at hR1
    · rename_i us e
      obtain ⟨vs, h1, h2⟩ := hH1.at_lst e
      have l := le_freeze (x := .lst vs) hH1 e (fun z => nomatch z)
      exact hR1 _ _ _ l (hH1.freeze e (fun z => nomatch z) h1) (.lst upd_same (h2.mono l))
    · rename_i k us e
      obtain ⟨dx, vs, h1, hz, h2⟩ := hH1.at_ins e
      have l := le_freeze (x := .ins (T.cls k) dx ((T.fld k).zip vs)) hH1 e (fun z => nomatch z)
      exact hR1 _ _ _ l (hH1.freeze e (fun z => nomatch z) h1) (.ins upd_same hz (h2.mono l))
    · exact hR1.elim
  | _ => exact plain hR1
theorem pem_ifExp {mt : MT} (hc : PTm X T P Wx c mt) (ha : PEm X T P Wx a ma) (hb : PEm X T P Wx b mb) : PEm X T P Wx (.IfExp c a b pos) (eIf mt ma mb) :=
  PE.imp (pe_ifExp hc ha hb) fun σ H Q ⟨c, env, st, hH, hE, hR⟩ => by
    refine (tg_bind hH hE hR).mono fun k H1 ⟨u, c1, st1, l1, hH1, hE1, r1, hR1⟩ => ?_
    cases (show u = k from r1)
    cases k with
    | true => exact ⟨c1, env, st1, hH1, hE1, hR1⟩
    | false => exact ⟨c1, env, st1, hH1, hE1, hR1⟩
theorem pem_one {op} (h : PEm X T P Wx a ma) : PEm X T P Wx (.BoolOp op [a] pos) ma := pe_one h
theorem pem_and {rest : List Expr} (ha : PEm X T P Wx a ma) (hb : PEm X T P Wx (.BoolOp .And (b :: rest) pos) mb) : PEm X T P Wx (.BoolOp .And (a :: b :: rest) pos) (eAnd ma mb) :=
  PE.imp (pe_and ha hb) fun σ H Q ⟨c, env, st, hH, hE, hR⟩ => by
    refine (tg_bind hH hE hR).mono fun k H1 ⟨u, c1, st1, l1, hH1, hE1, r1, hR1⟩ => ?_
    cases u with
    | bl i =>
      cases r1.inv_bl
      refine ⟨i, rfl, ?_⟩
      cases i with
      | true => exact ⟨c1, env, st1, hH1, hE1, hR1⟩
      | false => exact ResG.ret hR1 hH1 (.bl false)
    | _ => exact hR1.elim
theorem pem_or {rest : List Expr} (ha : PEm X T P Wx a ma) (hb : PEm X T P Wx (.BoolOp .Or (b :: rest) pos) mb) : PEm X T P Wx (.BoolOp .Or (a :: b :: rest) pos) (eOr ma mb) :=
  PE.imp (pe_or ha hb) fun σ H Q ⟨c, env, st, hH, hE, hR⟩ => by
    refine (tg_bind hH hE hR).mono fun k H1 ⟨u, c1, st1, l1, hH1, hE1, r1, hR1⟩ => ?_
    cases u with
    | bl i =>
      cases r1.inv_bl
      refine ⟨i, rfl, ?_⟩
      cases i with
      | true => exact ResG.ret hR1 hH1 (.bl true)
      | false => exact ⟨c1, env, st1, hH1, hE1, hR1⟩
    | _ => exact hR1.elim
theorem pem_not (ha : PEm X T P Wx a ma) : PEm X T P Wx (.UnaryOp .Not a pos) (eNot ma) :=
  PE.imp (pe_not ha) fun σ H Q ⟨c, env, st, hH, hE, hR⟩ => by
    refine (tg_bind hH hE hR).mono fun k H1 ⟨u, c1, st1, l1, hH1, hE1, r1, hR1⟩ => ?_
    cases u with
    | bl i =>
      cases r1.inv_bl
      exact ⟨i, rfl, ResG.ret hR1 hH1 (.bl _)⟩
    | _ => exact hR1.elim

/-! ### tests -/
theorem ptm_tru (hK : X.K = T.K) (ha : PEm X T P Wx a ma) (he : ∀ whole, isTrue a X.env whole = (do let v ← whole; standAt a.pos; holding [v] (truthy v)) := by intro _; rfl) : PTm X T P Wx a (tTru ma) :=
  PT.imp (pt_truth ha he) fun σ H Q ⟨c, env, st, hH, hE, hR⟩ => by
    refine (tg_bind hH hE hR).mono fun k H1 ⟨u, c1, st1, l1, hH1, hE1, r1, hR1⟩ => ?_
    split at hR1
    · rename_i b e
      refine ⟨b, ?_, hR1.ret hH1 rfl⟩
      rw [hK]
      exact truth_at hH1 r1 e
    · exact hR1.elim
theorem ptm_not {mt : MT} (ha : PTm X T P Wx a mt) : PTm X T P Wx (.UnaryOp .Not a pos) (tNot mt) :=
  PT.imp (pt_not ha) fun σ H Q ⟨c, env, st, hH, hE, hR⟩ => by
    refine (tg_bind hH hE hR).mono fun k H1 ⟨u, c1, st1, l1, hH1, hE1, r1, hR1⟩ => ?_
    cases (show u = k from r1)
    exact hR1.ret hH1 rfl
theorem pwm_and1 {mt : MT} (ha : PTm X T P Wx a mt) : PWm X T P Wx (.BoolOp .And [a] pos) mt := pw_and1 ha
theorem pwm_or1 {mt : MT} (ha : PTm X T P Wx a mt) : PWm X T P Wx (.BoolOp .Or [a] pos) mt := pw_or1 ha
theorem pwm_and {mt mu : MT} {rest : List Expr} (ha : PTm X T P Wx a mt) (hb : PWm X T P Wx (.BoolOp .And (b :: rest) pos) mu) : PWm X T P Wx (.BoolOp .And (a :: b :: rest) pos) (tAnd mt mu) :=
  PW.imp (pw_and ha hb) fun σ H Q ⟨c, env, st, hH, hE, hR⟩ => by
    refine (tg_bind hH hE hR).mono fun k H1 ⟨u, c1, st1, l1, hH1, hE1, r1, hR1⟩ => ?_
    cases (show u = k from r1)
    cases k with
    | true => exact ⟨c1, env, st1, hH1, hE1, hR1⟩
    | false => exact ResG.ret hR1 hH1 rfl
theorem pwm_or {mt mu : MT} {rest : List Expr} (ha : PTm X T P Wx a mt) (hb : PWm X T P Wx (.BoolOp .Or (b :: rest) pos) mu) : PWm X T P Wx (.BoolOp .Or (a :: b :: rest) pos) (tOr mt mu) :=
  PW.imp (pw_or ha hb) fun σ H Q ⟨c, env, st, hH, hE, hR⟩ => by
    refine (tg_bind hH hE hR).mono fun k H1 ⟨u, c1, st1, l1, hH1, hE1, r1, hR1⟩ => ?_
    cases (show u = k from r1)
    cases k with
    | true => exact ResG.ret hR1 hH1 rfl
    | false => exact ⟨c1, env, st1, hH1, hE1, hR1⟩
theorem PWm.pt {mt : MT} (h : PWm X T P Wx a mt) : PTm X T P Wx a mt := PW.pt h

/-! ### displays, arguments -/
variable {e : Expr} {es : List Expr} {m : ME} {mr : MA}
theorem pam_nil : PAm X T P Wx [] aNil := PA.imp pa_nil fun σ H Q ⟨c, env, st, hH, hE, hR⟩ => ResG.ret (u := ([] : List U)) hR hH .nil
theorem pam_cons (ha : PEm X T P Wx e m) (hr : PAm X T P Wx es mr) (hs : starEach (e :: es) X.env = (false, eval e X.env) :: starEach es X.env := by rfl) : PAm X T P Wx (e :: es) (aCons m mr) :=
  PA.imp (pa_cons ha hr hs) fun σ H Q ⟨c, env, st, hH, hE, hR⟩ => by
    refine (tg_bind hH hE hR).mono fun x H1 ⟨u, c1, st1, l1, hH1, hE1, r1, hR1⟩ => ?_
    refine (tg_bind hH1 hE1 hR1).mono fun y H2 ⟨w, c2, st2, l2, hH2, hE2, r2, hR2⟩ => ?_
    exact hR2.ret hH2 (.cons (r1.mono l2) r2)
theorem pem_tup {x1} (h : PAm X T P Wx es mr) : PEm X T P Wx (.Tuple es x1 pos) (eTup mr) :=
  PE.imp (pe_tup h) fun σ H Q ⟨c, env, st, hH, hE, hR⟩ => by
    refine (tg_bind hH hE hR).mono fun xs H1 ⟨us, c1, st1, l1, hH1, hE1, r1, hR1⟩ => ?_
    by_cases hz : us.length ≤ 16777216
    · rw [if_pos hz] at hR1
      refine ⟨by rw [← r1.length, sizeLine_eq]; exact hz, fun p hp => ?_⟩
      have l := le_still hH1 hp (.tup xs)
      exact hR1 _ _ _ l (hH1.still hp _) (.tup (SqT.of upd_same) (r1.mono l))
    · rw [if_neg hz] at hR1
      exact hR1.elim
theorem pem_lst (h : PAm X T P Wx es mr) : PEm X T P Wx (.List es pos) (eLst mr) :=
  PE.imp (pe_lst h) fun σ H Q ⟨c, env, st, hH, hE, hR⟩ => by
    refine (tg_bind hH hE hR).mono fun xs H1 ⟨us, c1, st1, l1, hH1, hE1, r1, hR1⟩ => ?_
    by_cases hz : us.length ≤ 16777216
    · rw [if_pos hz] at hR1
      refine ⟨by rw [← r1.length, sizeLine_eq]; exact hz, fun p hp => ?_⟩
      have h2 := hH1.new hp (o := .lst us) (x := .lst xs) ⟨xs, rfl, r1⟩
      refine hR1 _ _ _ (le_new c1 p) h2 ?_
      have e : V.ref p = V.ref ((c1.new p).ρ c1.n) := by rw [new_self]
      rw [e, ← hH1.n]
      exact .loc (Nat.lt_succ_self _)
    · rw [if_neg hz] at hR1
      exact hR1.elim
theorem cb_run {r : List V → Hp → VK → Prop} {f : List U → Sto → Out U} (hs : CallSim T r f) (σ : L2.St) (H : Hp) (Q : VK) (h : teOf T P Wx (eCB f mr) σ H Q) : tCB r (taOf T P Wx mr) σ H Q := by
  obtain ⟨c, env, st, hH, hE, hR⟩ := h
  exact (tg_bind hH hE hR).mono fun xs H1 ⟨us, c1, st1, l1, hH1, hE1, r1, hR1⟩ => hs Wx c1 σ st1 H1 us xs Q hH1 r1 hR1
theorem pem_callB {x : Str} {p : Pos} {id : String} {r : List V → Hp → VK → Prop} {f : List U → Sto → Out U} (hc : CallR X (.builtin id) r) (hs : CallSim T r f) (hg : Gl X x) (hm : X.mg x = none) (hv : bootBuiltins x = some (.builtin id)) (ha : PAm X T P Wx (e :: es) mr) (hn : x ≠ "__name__" := by decide) (hdb : (x == ("__debug__" : Str)) = false := by decide)
    (he : starEach (e :: es) X.env = (false, eval e X.env) :: starEach es X.env := by rfl) (hpl : (backTo pos (starEach es X.env)).any (·.1) = false := by rfl) : PEm X T P Wx (.Call (.Name x p) (e :: es) [] pos) (eCB f mr) :=
  PE.imp (pe_callB hc hg hm hv ha hn hdb he hpl) (cb_run hs)
theorem pem_callTy {x : Str} {p : Pos} {id : String} {r : List V → Hp → VK → Prop} {f : List U → Sto → Out U} (hc : CallR X (.type id) r) (hs : CallSim T r f) (hg : Gl X x) (hm : X.mg x = none) (hv : bootBuiltins x = some (.type id)) (ha : PAm X T P Wx (e :: es) mr) (hn : x ≠ "__name__" := by decide) (hdb : (x == ("__debug__" : Str)) = false := by decide)
    (he : starEach (e :: es) X.env = (false, eval e X.env) :: starEach es X.env := by rfl) (hpl : (backTo pos (starEach es X.env)).any (·.1) = false := by rfl) : PEm X T P Wx (.Call (.Name x p) (e :: es) [] pos) (eCB f mr) :=
  PE.imp (pe_callTy hc hg hm hv ha hn hdb he hpl) (cb_run hs)
theorem pem_ix {r : R2} {f : U → U → Sto → Out U} (hr : IxR X r) (hs : OpSim T r f) (ha : PEm X T P Wx a ma) (hb : PEm X T P Wx b mb) (hx : PlainIx b := by exact fun _ _ => rfl) : PEm X T P Wx (.Subscript a b pos) (eOp f ma mb) :=
  PE.imp (pe_ix hr ha hb hx) (opr_run hs)
end
end NK

set_option Elab.async false
set_option linter.all false
set_option maxRecDepth 100000
set_option maxHeartbeats 2000000
/-! NK3: operators, comparisons, built-ins by values. -/
namespace NK
open PySem L2

section
variable {T : Tb} {X : Cx}
theorem szl : sizeLine = 16777216 := sizeLine_eq

/-! ### a new list, a new tuple as the answer -/
theorem new_lst {Wx : WX} {c : Cn} {σ : L2.St} {st : Sto} {H : Hp} {us : List U} {vs : List V} {Q : VK} (hH : RH T c st H) (r : RpL T c us vs) (hR : ResG T Wx c σ (Rp T) (.ok (.loc st.length) (st ++ [.lst us])) Q) :
    ∀ p, H p = none → Q (.ref p) (upd H p (.lst vs)) := fun p hp => by
  have h2 := hH.new hp (o := .lst us) (x := .lst vs) ⟨vs, rfl, r⟩
  refine hR _ _ _ (le_new c p) h2 ?_
  have e : V.ref p = V.ref ((c.new p).ρ c.n) := by rw [new_self]
  rw [e, ← hH.n]
  exact .loc (Nat.lt_succ_self _)
theorem new_tup {Wx : WX} {c : Cn} {σ : L2.St} {st : Sto} {H : Hp} {us : List U} {vs : List V} {Q : VK} (hH : RH T c st H) (r : RpL T c us vs) (hR : ResG T Wx c σ (Rp T) (.ok (.tup us) st) Q) :
    ∀ p, H p = none → Q (.ref p) (upd H p (.tup vs)) := fun p hp =>
  hR _ _ _ (le_still hH hp (.tup vs)) (hH.still hp _) (.tup (SqT.of upd_same) (r.mono (le_still hH hp _)))

/-! ### ints -/
def fI (g : Int → Int → U) : U → U → Sto → Out U := fun u w st => match u, w with
  | .int i, .int j => .ok (g i j) st
  | _, _ => .bad
def fIc (C : Int → Int → Bool) (g : Int → Int → U) : U → U → Sto → Out U := fun u w st => match u, w with
  | .int i, .int j => if C i j = true then .ok (g i j) st else .bad
  | _, _ => .bad
theorem sim_I {g : Int → Int → U} {g' : Int → Int → V} (hg : ∀ c i j, Rp T c (g i j) (g' i j)) : OpSim T (rI0 g') (fI g) := fun Wx c σ st H u w x y Q hH ru rw hR => by
  cases u with
  | int i =>
    cases w with
    | int j =>
      cases ru.inv_int
      cases rw.inv_int
      exact ⟨i, j, rfl, rfl, ResG.ret hR hH (hg c i j)⟩
    | _ => exact hR.elim
  | _ => exact hR.elim
theorem sim_Ic {C : Int → Int → Bool} {C' : Int → Int → Prop} {g : Int → Int → U} {g' : Int → Int → V} (hg : ∀ c i j, Rp T c (g i j) (g' i j)) (hC : ∀ i j, C i j = true → C' i j) : OpSim T (rI C' g') (fIc C g) := fun Wx c σ st H u w x y Q hH ru rw hR => by
  cases u with
  | int i =>
    cases w with
    | int j =>
      cases ru.inv_int
      cases rw.inv_int
      dsimp only [fIc] at hR
      by_cases h : C i j = true
      · rw [if_pos h] at hR
        exact ⟨i, j, rfl, rfl, hC i j h, ResG.ret hR hH (hg c i j)⟩
      · rw [if_neg h] at hR
        exact hR.elim
    | _ => exact hR.elim
  | _ => exact hR.elim
def fSub := fI fun i j => .int (i - j)
def fLt := fI fun i j => .bl (decide (i < j))
def fLe := fI fun i j => .bl (decide (i ≤ j))
def fGt := fI fun i j => .bl (decide (j < i))
def fGe := fI fun i j => .bl (decide (j ≤ i))
theorem sim_sub : OpSim T (rI0 fun i j => .int (i - j)) fSub := sim_I fun _ _ _ => .int _
theorem sim_lt : OpSim T (rI0 fun i j => .bl (decide (i < j))) fLt := sim_I fun _ _ _ => .bl _
theorem sim_le : OpSim T (rI0 fun i j => .bl (decide (i ≤ j))) fLe := sim_I fun _ _ _ => .bl _
theorem sim_gt : OpSim T (rI0 fun i j => .bl (decide (j < i))) fGt := sim_I fun _ _ _ => .bl _
theorem sim_ge : OpSim T (rI0 fun i j => .bl (decide (j ≤ i))) fGe := sim_I fun _ _ _ => .bl _
def cMul (i j : Int) : Bool := decide ((-(2 ^ 64) < i ∧ i < 2 ^ 64) ∨ (-(2 ^ 64) < j ∧ j < 2 ^ 64))
def cDiv (_ j : Int) : Bool := decide (0 < j ∧ j < 10 ^ 60)
def cMod (_ j : Int) : Bool := decide (0 < j)
def cPow (i j : Int) : Bool := decide (0 ≤ j ∧ j ≤ 1000000 ∧ i.natAbs < 2 ^ 64)
def fDiv := fIc cDiv fun i j => .int (i / j)
def fMod := fIc cMod fun i j => .int (i % j)
def fPow := fIc cPow fun i j => .int (i ^ j.toNat)
theorem sim_div : OpSim T (rI CDivW fun i j => .int (i / j)) fDiv := sim_Ic (fun _ _ _ => .int _) fun i j h => by
  have h' := of_decide_eq_true h
  exact wide_div (b := 200) h'.1 (by
    have : (10 : Int) ^ 60 < 2 ^ 200 := by decide
    have e : ((2 : Nat) ^ 200 : Int) = (2 : Int) ^ 200 := by norm_cast
    have h2 : (j.natAbs : Int) = j := Int.natAbs_of_nonneg (by omega)
    have h3 : (j.natAbs : Int) < ((2 ^ 200 : Nat) : Int) := by rw [h2]; exact Int.lt_trans h'.2 (by decide)
    exact Int.ofNat_lt.mp h3) (by decide) (by decide)
theorem sim_mod : OpSim T (rI (fun _ j => 0 < j) fun i j => .int (i % j)) fMod := sim_Ic (fun _ _ _ => .int _) fun i j h => of_decide_eq_true h
theorem sim_pow : OpSim T (rI CPow fun i j => .int (i ^ j.toNat)) fPow := sim_Ic (fun _ _ _ => .int _) fun i j h => by
  have h' := of_decide_eq_true (show decide (0 ≤ j ∧ j ≤ 1000000 ∧ i.natAbs < 2 ^ 64) = true from h)
  exact h'
def fNeg : U → Sto → Out U := fun u st => match u with
  | .int i => .ok (.int (-i)) st
  | _ => .bad
theorem sim_neg : UnSim T (rU fun i => .int (-i)) fNeg := fun Wx c σ st H u x Q hH ru hR => by
  cases u with
  | int i =>
    cases ru.inv_int
    exact ⟨i, rfl, ResG.ret hR hH (.int _)⟩
  | _ => exact hR.elim

/-! ### what a list of the store, or one that stands still, is on the heap -/
def asLst (u : U) (st : Sto) : Option (List U) := match u with
  | .lst us => some us
  | .loc i => match st[i]? with
    | some (.lst us) => some us
    | _ => none
  | _ => none
theorem asLst_at {c : Cn} {st : Sto} {H : Hp} (h : RH T c st H) {u : U} {v : V} {us : List U} (r : Rp T c u v) (e : asLst u st = some us) : ∃ a vs, v = .ref a ∧ H a = some (.lst vs) ∧ RpL T c us vs := by
  cases u with
  | lst xs =>
    obtain ⟨a, vs, rfl, h1, h2⟩ := r.inv_lst
    cases e
    exact ⟨a, vs, rfl, h.sub _ _ h1, h2⟩
  | loc i =>
    obtain ⟨_, rfl⟩ := r.inv_loc
    dsimp only [asLst] at e
    split at e
    · rename_i us' q
      cases e
      obtain ⟨vs, h1, h2⟩ := h.at_lst q
      exact ⟨_, vs, rfl, h1, h2⟩
    · cases e
  | _ => cases e

/-! ### + -/
def fAdd : U → U → Sto → Out U := fun u w st => match u, w with
  | .int i, .int j => .ok (.int (i + j)) st
  | .str a, .str b => if a.length + b.length ≤ 16777216 then .ok (.str (a ++ b)) st else .bad
  | .tup us, .tup ws => if us.isEmpty = true ∨ ¬ us.length + ws.length ≤ 16777216 then .bad else .ok (.tup (us ++ ws)) st
  | u, w => match asLst u st, asLst w st with
    | some us, some ws => if us.length + ws.length ≤ 16777216 then .ok (.loc st.length) (st ++ [.lst (us ++ ws)]) else .bad
    | _, _ => .bad
def rAddAll (K : PySem.W.Frag) : R2 := fun x y H Q => (rI0 (fun i j => .int (i + j)) x y H Q ∨ (∃ i j, x = .str i ∧ y = .str j ∧ i.length + j.length ≤ sizeLine ∧ Q (.str (i ++ j)) H)) ∨ (rCatT K x y H Q ∨ rCat x y H Q)
theorem op_addAll : OpR X (binaryOp .Add) (rAddAll X.K) := (op_add.or op_add_str).or (op_catT.or op_cat)
theorem sim_add : OpSim T (rAddAll T.K) fAdd := fun Wx c σ st H u w x y Q hH ru rw hR => by
  have lists : ∀ {us ws : List U}, asLst u st = some us → asLst w st = some ws → ResG T Wx c σ (Rp T) (if us.length + ws.length ≤ 16777216 then .ok (.loc st.length) (st ++ [.lst (us ++ ws)]) else .bad) Q → rCat x y H Q := by
    intro us ws e1 e2 h
    obtain ⟨a, vs, rfl, ha, r1⟩ := asLst_at hH ru e1
    obtain ⟨b, zs, rfl, hb, r2⟩ := asLst_at hH rw e2
    by_cases hz : us.length + ws.length ≤ 16777216
    · rw [if_pos hz] at h
      refine ⟨a, b, vs, zs, rfl, rfl, ha, hb, ?_, new_lst hH (r1.append r2) h⟩
      rw [szl, ← r1.length, ← r2.length]; exact hz
    · rw [if_neg hz] at h
      exact h.elim
  have gen : ResG T Wx c σ (Rp T) (match asLst u st, asLst w st with | some us, some ws => if us.length + ws.length ≤ 16777216 then .ok (.loc st.length) (st ++ [.lst (us ++ ws)]) else .bad | _, _ => .bad) Q → rAddAll T.K x y H Q := fun h => by
    split at h
    · rename_i us ws e1 e2
      exact .inr (.inr (lists e1 e2 h))
    · exact h.elim
  cases u with
  | int i =>
    cases w with
    | int j =>
      cases ru.inv_int
      cases rw.inv_int
      exact .inl (.inl ⟨i, j, rfl, rfl, ResG.ret hR hH (.int _)⟩)
    | _ => exact gen hR
  | str i =>
    cases w with
    | str j =>
      cases ru.inv_str
      cases rw.inv_str
      dsimp only [fAdd] at hR
      by_cases h : i.length + j.length ≤ 16777216
      · rw [if_pos h] at hR
        exact .inl (.inr ⟨i, j, rfl, rfl, by rw [szl]; exact h, ResG.ret hR hH (.str _)⟩)
      · rw [if_neg h] at hR
        exact hR.elim
    | _ => exact gen hR
  | tup us =>
    cases w with
    | tup ws =>
      obtain ⟨a, vs, rfl, h1, r1⟩ := ru.inv_tup
      obtain ⟨b, zs, rfl, h2, r2⟩ := rw.inv_tup
      dsimp only [fAdd] at hR
      by_cases h : us.isEmpty = true ∨ ¬ us.length + ws.length ≤ 16777216
      · rw [if_pos h] at hR
        exact hR.elim
      · rw [if_neg h] at hR
        have hne : ¬ us.isEmpty = true := fun z => h (.inl z)
        have hz : us.length + ws.length ≤ 16777216 := Classical.not_not.mp fun z => h (.inr z)
        refine .inr (.inl ⟨a, b, vs, zs, rfl, rfl, sqT_up hH h1, sqT_up hH h2, fun z => ?_, by rw [szl, ← r1.length, ← r2.length]; exact hz, fun z => ?_, fun _ => new_tup hH (r1.append r2) hR⟩)
        · subst z
          cases r1
          exact hne rfl
        · subst z
          cases r2
          rw [List.append_nil] at hR
          exact ResG.ret hR hH (.tup h1 r1)
    | _ => exact gen hR
  | _ => exact gen hR

/-! ### * -/
def fMul : U → U → Sto → Out U := fun u w st => match u, w with
  | .int i, .int j => if cMul i j = true then .ok (.int (i * j)) st else .bad
  | u, .int k => match asLst u st with
    | some us => if -(2 ^ 63) ≤ k ∧ k < 2 ^ 63 ∧ us.length * k.toNat ≤ 16777216 then .ok (.loc st.length) (st ++ [.lst (List.replicate k.toNat us).flatten]) else .bad
    | none => .bad
  | _, _ => .bad
def rMulAll : R2 := fun x y H Q => rI CMul (fun i j => .int (i * j)) x y H Q ∨ rRep x y H Q
theorem op_mulAll : OpR X (binaryOp .Mult) rMulAll := op_mul.or op_rep
theorem RpL.rep {c : Cn} {us : List U} {vs : List V} (r : RpL T c us vs) : ∀ k : Nat, RpL T c (List.replicate k us).flatten (List.replicate k vs).flatten
  | 0 => by simpa using RpL.nil
  | k + 1 => by
    rw [List.replicate_succ, List.replicate_succ, List.flatten_cons, List.flatten_cons]
    exact r.append (RpL.rep r k)
theorem sim_mul : OpSim T rMulAll fMul := fun Wx c σ st H u w x y Q hH ru rw hR => by
  cases w with
  | int j =>
    cases rw.inv_int
    have gen : ResG T Wx c σ (Rp T) (match asLst u st with | some us => if -(2 ^ 63) ≤ j ∧ j < 2 ^ 63 ∧ us.length * j.toNat ≤ 16777216 then .ok (.loc st.length) (st ++ [.lst (List.replicate j.toNat us).flatten]) else .bad | none => .bad) Q → rMulAll x (.int j) H Q := fun h => by
      split at h
      · rename_i us e
        obtain ⟨a, vs, rfl, ha, r⟩ := asLst_at hH ru e
        split at h
        · rename_i hz
          exact .inr ⟨a, j, vs, rfl, rfl, ha, hz.1, hz.2.1, by rw [szl, ← r.length]; exact hz.2.2, new_lst hH (r.rep _) h⟩
        · exact h.elim
      · exact h.elim
    cases u with
    | int i =>
      cases ru.inv_int
      dsimp only [fMul] at hR
      by_cases h : cMul i j = true
      · rw [if_pos h] at hR
        have h' := of_decide_eq_true (show decide ((-(2 ^ 64) < i ∧ i < 2 ^ 64) ∨ (-(2 ^ 64) < j ∧ j < 2 ^ 64)) = true from h)
        exact .inl ⟨i, j, rfl, rfl, h', ResG.ret hR hH (.int _)⟩
      · rw [if_neg h] at hR
        exact hR.elim
    | _ => exact gen hR
  | _ => cases u <;> exact hR.elim

/-! ### is None -/
def U.isNon : U → Bool
  | .non => true
  | _ => false
def fIsN : U → U → Sto → Out U := fun u w st => match w with
  | .non => .ok (.bl u.isNon) st
  | _ => .bad
def fNotN : U → U → Sto → Out U := fun u w st => match w with
  | .non => .ok (.bl (!u.isNon)) st
  | _ => .bad
theorem Rp.non_iff {c : Cn} {u : U} {x : V} (r : Rp T c u x) : decide (x = .non) = u.isNon := by
  cases r <;> rfl
theorem sim_isN : OpSim T (fun x y H Q => y = .non ∧ Q (.bl (decide (x = .non))) H) fIsN := fun Wx c σ st H u w x y Q hH ru rw hR => by
  cases w with
  | non =>
    cases rw.inv_non
    refine ⟨rfl, ?_⟩
    rw [ru.non_iff]
    exact ResG.ret hR hH (.bl _)
  | _ => exact hR.elim
theorem sim_notN : OpSim T (fun x y H Q => y = .non ∧ Q (.bl (!decide (x = .non))) H) fNotN := fun Wx c σ st H u w x y Q hH ru rw hR => by
  cases w with
  | non =>
    cases rw.inv_non
    refine ⟨rfl, ?_⟩
    rw [ru.non_iff]
    exact ResG.ret hR hH (.bl _)
  | _ => exact hR.elim

/-! ### data: == and != -/
def allD (f : U → Option PyData) : List U → Option (List PyData)
  | [] => some []
  | u :: us => match f u, allD f us with
    | some d, some ds => some (d :: ds)
    | _, _ => none
def toD (st : Sto) : Nat → U → Option PyData
  | 0, _ => none
  | n + 1, u => match u with
    | .non => some .none
    | .bl b => some (.bool b)
    | .int i => some (.int i)
    | .str x => some (.str x)
    | .tup us => (allD (toD st n) us).map .tuple
    | .lst us => (allD (toD st n) us).map .list
    | .scr us => (allD (toD st n) us).map .list
    | .loc i => match st[i]? with
      | some (.lst us) => (allD (toD st n) us).map .list
      | _ => none
    | _ => none
theorem allD_at {K : PySem.W.Frag} {c : Cn} {H : Hp} {f : U → Option PyData} (hf : ∀ u v d, Rp T c u v → f u = some d → Dp K H v d) : ∀ {us : List U} {vs : List V} {ds : List PyData}, RpL T c us vs → allD f us = some ds → DpAll K H vs ds
  | _, _, _, .nil, e => by cases e; exact .nil
  | u :: us, v :: vs, ds, .cons r t, e => by
    dsimp only [allD] at e
    split at e
    · rename_i d ds' e1 e2
      cases e
      exact .cons (hf u v d r e1) (allD_at hf t e2)
    · cases e
theorem toD_at {c : Cn} {st : Sto} {H : Hp} (hH : RH T c st H) : ∀ (n : Nat) (u : U) (v : V) (d : PyData), Rp T c u v → toD st n u = some d → Dp T.K H v d
  | 0, _, _, _, _, e => by cases e
  | n + 1, u, v, d, r, e => by
    have ih := toD_at hH n
    cases u with
    | non => cases r.inv_non; cases e; exact .non
    | bl b => cases r.inv_bl; cases e; exact .bl b
    | int b => cases r.inv_int; cases e; exact .int b
    | str b => cases r.inv_str; cases e; exact .str b
    | tup us =>
      obtain ⟨a, vs, rfl, h1, r1⟩ := r.inv_tup
      dsimp only [toD] at e
      obtain ⟨ds, e1, rfl⟩ := Option.map_eq_some_iff.mp e
      exact .tup (sqT_up hH h1) (allD_at ih r1 e1)
    | lst us =>
      obtain ⟨a, vs, rfl, h1, r1⟩ := r.inv_lst
      dsimp only [toD] at e
      obtain ⟨ds, e1, rfl⟩ := Option.map_eq_some_iff.mp e
      exact .lst (SqL.of (hH.sub _ _ h1)) (allD_at ih r1 e1)
    | scr us =>
      obtain ⟨a, vs, rfl, h1, r1⟩ := r.inv_scr
      dsimp only [toD] at e
      obtain ⟨ds, e1, rfl⟩ := Option.map_eq_some_iff.mp e
      exact .lst (sqL_up hH h1) (allD_at ih r1 e1)
    | loc i =>
      obtain ⟨_, rfl⟩ := r.inv_loc
      dsimp only [toD] at e
      split at e
      · rename_i us q
        obtain ⟨vs, h1, r1⟩ := hH.at_lst q
        obtain ⟨ds, e1, rfl⟩ := Option.map_eq_some_iff.mp e
        exact .lst (SqL.of h1) (allD_at ih r1 e1)
      · cases e
    | _ => cases e
def fEqB (g : Bool → Bool) : U → U → Sto → Out U := fun u w st => match toD st 12 u, toD st 12 w with
  | some d, some e => if SeqAt.shaped d = true ∧ SeqAt.shaped e = true then .ok (.bl (g (PyData.eqv d e))) st else .bad
  | _, _ => .bad
def fEq := fEqB id
def fNe := fEqB not
theorem sim_eq : OpSim T (rEqD T.K) fEq := fun Wx c σ st H u w x y Q hH ru rw hR => by
  dsimp only [fEq, fEqB] at hR
  split at hR
  · rename_i d e e1 e2
    split at hR
    · rename_i hs
      exact ⟨d, e, toD_at hH _ _ _ _ ru e1, toD_at hH _ _ _ _ rw e2, hs.1, hs.2, ResG.ret hR hH (.bl _)⟩
    · exact hR.elim
  · exact hR.elim
theorem sim_ne : OpSim T (rNeD T.K) fNe := fun Wx c σ st H u w x y Q hH ru rw hR => by
  dsimp only [fNe, fEqB] at hR
  split at hR
  · rename_i d e e1 e2
    split at hR
    · rename_i hs
      exact ⟨d, e, toD_at hH _ _ _ _ ru e1, toD_at hH _ _ _ _ rw e2, hs.1, hs.2, ResG.ret hR hH (.bl _)⟩
    · exact hR.elim
  · exact hR.elim

/-! ### in, not in: flat things in a list or tuple; a sign in a text -/
def flatU : U → Bool
  | .non => true | .bl _ => true | .int _ => true | .str _ => true | _ => false
def eqU : U → U → Bool
  | .non, .non => true
  | .bl a, .bl b => a == b
  | .bl a, .int b => (if a then 1 else 0) == b
  | .int a, .bl b => a == (if b then 1 else 0)
  | .int a, .int b => a == b
  | .str a, .str b => a == b
  | _, _ => false
def inU (u : U) (us : List U) : Bool := us.any fun w => NK.eqU w u
theorem flat_rp {c : Cn} {u : U} {v : V} (r : Rp T c u v) (h : flatU u = true) : flatV v = true := by
  cases r <;> first | rfl | cases h
theorem eqU_rp {c : Cn} {u w : U} {x y : V} (r : Rp T c u x) (q : Rp T c w y) (h : flatU u = true) (g : flatU w = true) : NK.eqU u w = eqV x y := by
  cases r <;> first | (cases h; done) | (cases q <;> first | rfl | (cases g; done))
theorem all_flat {c : Cn} : ∀ {us : List U} {vs : List V}, RpL T c us vs → us.all flatU = true → vs.all flatV = true
  | _, _, .nil, _ => rfl
  | _, _, .cons r t, h => by
    rw [List.all_cons, Bool.and_eq_true] at h ⊢
    exact ⟨flat_rp r h.1, all_flat t h.2⟩
theorem in_rp {c : Cn} {u : U} {v : V} (q : Rp T c u v) (g : flatU u = true) : ∀ {us : List U} {vs : List V}, RpL T c us vs → us.all flatU = true → inU u us = inV v vs
  | _, _, .nil, _ => rfl
  | _, _, .cons r t, h => by
    rw [List.all_cons, Bool.and_eq_true] at h
    have ih := in_rp q g t h.2
    unfold inU inV at ih ⊢
    rw [List.any_cons, List.any_cons, eqU_rp r q h.1 g, ih]
def fIn (neg : Bool) : U → U → Sto → Out U := fun u w st => match items w st with
  | some us => if flatU u = true ∧ us.all flatU = true then .ok (.bl (if neg then !inU u us else inU u us)) st else .bad
  | none => .bad
theorem sim_in {neg : Bool} : OpSim T (rIn T.K neg) (fIn neg) := fun Wx c σ st H u w x y Q hH ru rw hR => by
  dsimp only [fIn] at hR
  split at hR
  · rename_i us e
    obtain ⟨a, vs, rfl, h1, r1⟩ := items_at hH rw e
    split at hR
    · rename_i hs
      refine ⟨a, vs, rfl, h1, flat_rp ru hs.1, all_flat r1 hs.2, ?_⟩
      rw [← in_rp ru hs.1 r1 hs.2]
      exact ResG.ret hR hH (.bl _)
    · exact hR.elim
  · exact hR.elim

/-! ### len, list, tuple, int, abs -/
def fLen : List U → Sto → Out U := fun us st => match us with
  | [.str z] => if z.length ≤ 16777216 then .ok (.int z.length) st else .bad
  | [u] => match items u st with
    | some xs => .ok (.int xs.length) st
    | none => .bad
  | _ => .bad
theorem sim_len : CallSim T (fun xs H Q => ∃ x n, xs = [x] ∧ LenV T.K x H n ∧ Q (.int n) H) fLen := fun Wx c σ st H us xs Q hH r hR => by
  cases r with
  | nil => exact hR.elim
  | @cons u v us vs r t =>
    cases t with
    | cons _ _ => cases u <;> exact hR.elim
    | nil =>
      have gen : ResG T Wx c σ (Rp T) (match items u st with | some xs => .ok (.int xs.length) st | none => .bad) Q → ∃ x n, [v] = [x] ∧ LenV T.K x H n ∧ Q (.int n) H := fun h => by
        split at h
        · rename_i us e
          obtain ⟨a, vs, rfl, h1, r1⟩ := items_at hH r e
          refine ⟨_, vs.length, rfl, ?_, ?_⟩
          · rcases h1 with h1 | h1
            · exact .inl ⟨vs, h1, rfl⟩
            · exact .inr ⟨vs, h1, rfl⟩
          · rw [← r1.length]
            exact ResG.ret h hH (.int _)
        · exact h.elim
      cases u with
      | str z =>
        cases r.inv_str
        dsimp only [fLen] at hR
        by_cases h : z.length ≤ 16777216
        · rw [if_pos h] at hR
          exact ⟨_, z.length, rfl, ⟨by rw [szl]; exact h, rfl⟩, ResG.ret hR hH (.int _)⟩
        · rw [if_neg h] at hR
          exact hR.elim
      | _ => exact gen hR
def fList : List U → Sto → Out U := fun us st => match us with
  | [u] => match items u st with
    | some xs => .ok (.loc st.length) (st ++ [.lst xs])
    | none => .bad
  | _ => .bad
theorem sim_list : CallSim T (fun xs H Q => ∃ p ys, xs = [.ref p] ∧ (SqL T.K H p ys ∨ SqT T.K H p ys) ∧ ∀ l, H l = none → Q (.ref l) (upd H l (.lst ys))) fList := fun Wx c σ st H us xs Q hH r hR => by
  cases r with
  | nil => exact hR.elim
  | @cons u v us vs r t =>
    cases t with
    | cons _ _ => exact hR.elim
    | nil =>
      dsimp only [fList] at hR
      split at hR
      · rename_i us e
        obtain ⟨a, vs, rfl, h1, r1⟩ := items_at hH r e
        exact ⟨a, vs, rfl, h1, new_lst hH r1 hR⟩
      · exact hR.elim
def fTuple : List U → Sto → Out U := fun us st => match us with
  | [u] => match items u st with
    | some xs => .ok (.tup xs) st
    | none => .bad
  | _ => .bad
theorem sim_tuple : CallSim T (fun xs H Q => ∃ p ys, xs = [.ref p] ∧ ((SqL T.K H p ys ∧ ∀ l, H l = none → Q (.ref l) (upd H l (.tup ys))) ∨ (SqT T.K H p ys ∧ Q (.ref p) H))) fTuple := fun Wx c σ st H us xs Q hH r hR => by
  cases r with
  | nil => exact hR.elim
  | @cons u v us vs r t =>
    cases t with
    | cons _ _ => exact hR.elim
    | nil =>
      cases u with
      | tup ws =>
        obtain ⟨a, vs, rfl, h1, r1⟩ := r.inv_tup
        exact ⟨a, vs, rfl, .inr ⟨sqT_up hH h1, ResG.ret hR hH (.tup h1 r1)⟩⟩
      | lst ws =>
        obtain ⟨a, vs, rfl, h1, r1⟩ := r.inv_lst
        exact ⟨a, vs, rfl, .inl ⟨SqL.of (hH.sub _ _ h1), new_tup hH r1 hR⟩⟩
      | scr ws =>
        obtain ⟨a, vs, rfl, h1, r1⟩ := r.inv_scr
        exact ⟨a, vs, rfl, .inl ⟨sqL_up hH h1, new_tup hH r1 hR⟩⟩
      | loc i =>
        obtain ⟨_, rfl⟩ := r.inv_loc
        dsimp only [fTuple, items] at hR
        cases e : st[i]? with
        | none => rw [e] at hR; exact hR.elim
        | some o =>
          rw [e] at hR
          cases o with
          | lst ws =>
            obtain ⟨vs, h1, r1⟩ := hH.at_lst e
            exact ⟨_, vs, rfl, .inl ⟨SqL.of h1, new_tup hH r1 hR⟩⟩
          | _ => exact hR.elim
      | _ => exact hR.elim
def fInt : List U → Sto → Out U := fun us st => match us with
  | [.int i] => .ok (.int i) st
  | [.bl k] => .ok (.int (if k then 1 else 0)) st
  | _ => .bad
theorem sim_int : CallSim T (fun xs H Q => (∃ i, xs = [.int i] ∧ Q (.int i) H) ∨ ∃ k, xs = [.bl k] ∧ Q (.int (if k then 1 else 0)) H) fInt := fun Wx c σ st H us xs Q hH r hR => by
  cases r with
  | nil => exact hR.elim
  | @cons u v us vs r t =>
    cases t with
    | cons _ _ => cases u <;> exact hR.elim
    | nil =>
      cases u with
      | int i => cases r.inv_int; exact .inl ⟨i, rfl, ResG.ret hR hH (.int _)⟩
      | bl i => cases r.inv_bl; exact .inr ⟨i, rfl, ResG.ret hR hH (.int _)⟩
      | _ => exact hR.elim
def fAbs : List U → Sto → Out U := fun us st => match us with
  | [.int i] => .ok (.int (if i < 0 then -i else i)) st
  | _ => .bad
theorem sim_abs : CallSim T (fun xs H Q => ∃ i, xs = [.int i] ∧ Q (.int (if i < 0 then -i else i)) H) fAbs := fun Wx c σ st H us xs Q hH r hR => by
  cases r with
  | nil => exact hR.elim
  | @cons u v us vs r t =>
    cases t with
    | cons _ _ => cases u <;> exact hR.elim
    | nil =>
      cases u with
      | int i => cases r.inv_int; exact ⟨i, rfl, ResG.ret hR hH (.int _)⟩
      | _ => exact hR.elim
def fMin2 : List U → Sto → Out U := fun us st => match us with
  | [.int i, .int j] => .ok (.int (if j < i then j else i)) st
  | _ => .bad
theorem sim_min2 : CallSim T (fun xs H Q => ∃ i j, xs = [.int i, .int j] ∧ Q (.int (if j < i then j else i)) H) fMin2 := fun Wx c σ st H us xs Q hH r hR => by
  unfold fMin2 at hR
  split at hR
  · rename_i i j
    obtain ⟨v, vs, rfl, r1, t⟩ := r.inv_cons
    obtain ⟨v2, vs2, rfl, r2, t2⟩ := t.inv_cons
    cases t2.inv_nil
    cases r1.inv_int
    cases r2.inv_int
    exact ⟨i, j, rfl, ResG.ret hR hH (.int _)⟩
  · exact hR.elim
def allInts : List U → Option (List Int)
  | [] => some []
  | .int i :: r => (allInts r).map (i :: ·)
  | _ :: _ => none
theorem allInts_at {c : Cn} : ∀ {us : List U} {vs : List V} {ns : List Int}, RpL T c us vs → allInts us = some ns → vs = ns.map V.int
  | _, _, _, .nil, e => by cases e; rfl
  | u :: us, v :: vs, ns, .cons r t, e => by
    cases u with
    | int i =>
      obtain ⟨ns', e1, rfl⟩ := Option.map_eq_some_iff.mp e
      cases r.inv_int
      rw [List.map_cons, allInts_at t e1]
    | _ => cases e
def fSum : List U → Sto → Out U := fun us st => match us with
  | [u] => match asLst u st with
    | some xs => match allInts xs with
      | some ns => .ok (.int ns.sum) st
      | none => .bad
    | none => .bad
  | _ => .bad
theorem sim_sum : CallSim T (rSum T.K) fSum := fun Wx c σ st H us xs Q hH r hR => by
  cases r with
  | nil => exact hR.elim
  | @cons u v us vs r t =>
    cases t with
    | cons _ _ => exact hR.elim
    | nil =>
      dsimp only [fSum] at hR
      split at hR
      · rename_i us e
        obtain ⟨a, vs, rfl, h1, r1⟩ := asLst_at hH r e
        split at hR
        · rename_i ns e2
          exact ⟨a, ns, rfl, by rw [← allInts_at r1 e2]; exact SqL.of h1, ResG.ret hR hH (.int _)⟩
        · exact hR.elim
      · exact hR.elim

/-! ### subscripts -/
theorem atI_rp {c : Cn} {us : List U} {vs : List V} (r : RpL T c us vs) {i : Int} {u : U} (e : atI us i = some u) : ∃ v, atI vs i = some v ∧ Rp T c u v := by
  unfold atI at e ⊢
  rw [← r.length]
  cases q : ixN us.length i with
  | none => rw [q] at e; cases e
  | some j =>
    rw [q] at e
    exact r.get e
def fIx : U → U → Sto → Out U := fun u w st => match w with
  | .int i => match u with
    | .str z => if z.length ≤ 16777216 then (match atI z.cps.toList i with
      | some c => .ok (.str ⟨#[c]⟩) st
      | none => .bad) else .bad
    | u => match items u st with
      | some us => (match atI us i with
        | some x => .ok x st
        | none => .bad)
      | none => .bad
  | _ => .bad
theorem sim_ix : OpSim T (rIx T.K) fIx := fun Wx c σ st H u w x y Q hH ru rw hR => by
  cases w with
  | int i =>
    cases rw.inv_int
    have gen : ResG T Wx c σ (Rp T) (match items u st with | some us => (match atI us i with | some x => .ok x st | none => .bad) | none => .bad) Q → rIx T.K x (.int i) H Q := fun h => by
      split at h
      · rename_i us e
        obtain ⟨a, vs, rfl, h1, r1⟩ := items_at hH ru e
        split at h
        · rename_i z q
          obtain ⟨v, hv, rv⟩ := atI_rp r1 q
          rcases h1 with h1 | h1
          · exact .inl ⟨a, vs, i, v, rfl, rfl, h1, hv, ResG.ret h hH rv⟩
          · exact .inr (.inl ⟨a, vs, i, v, rfl, rfl, h1, hv, ResG.ret h hH rv⟩)
        · exact h.elim
      · exact h.elim
    cases u with
    | str z =>
      cases ru.inv_str
      dsimp only [fIx] at hR
      split at hR
      · rename_i hz
        split at hR
        · rename_i c' q
          exact .inr (.inr ⟨z, i, c', rfl, rfl, by rw [szl]; exact hz, q, ResG.ret hR hH (.str _)⟩)
        · exact hR.elim
      · exact hR.elim
    | _ => exact gen hR
  | _ => exact hR.elim
end
end NK

set_option Elab.async false
set_option linter.all false
set_option maxRecDepth 100000
set_option maxHeartbeats 2000000
/-! NK4: statements, loops, comprehensions. -/
namespace NK
open PySem L2

/-! ### what is walked -/
/-- J gives the items us while the guard g holds of the store -/
def WalkM (T : Tb) (c0 : Cn) (J : It) (us : List U) (g : Sto → Prop) : Prop :=
  ∃ (G : Hp → Prop) (Y : Nat → Hp → V → Hp → Prop), Walk J us.length G Y ∧ ∀ c st H, Le c0 c → RH T c st H → g st →
    G H ∧ ∀ i x H', i < us.length → Y i H x H' → ∃ c' u, us[i]? = some u ∧ Le c c' ∧ RH T c' st H' ∧ Rp T c' u x
structure Src where
  us : List U
  g : Sto → Prop
abbrev MI := MG Src
abbrev tiOf (T : Tb) (P : Pin) (Wx : WX) (m : MI) : TI := tgOf T P Wx (fun c p J => WalkM T c J p.us p.g) m
def PIm (X : Cx) (T : Tb) (P : Pin) (Wx : WX) (tg e : Expr) (m : MI) : Prop := PI X tg e (tiOf T P Wx m)

/-- a list, a tuple, a text -/
def src (u : U) (st : Sto) : Option Src := match u with
  | .str z => some ⟨z.cps.toList.map fun k => .str ⟨#[k]⟩, fun _ => True⟩
  | .tup us => some ⟨us, fun _ => True⟩
  | .lst us => some ⟨us, fun _ => True⟩
  | .scr us => some ⟨us, fun _ => True⟩
  | .loc i => match st[i]? with
    | some (.lst us) => some ⟨us, fun s => s[i]? = some (Ob.lst us)⟩
    | _ => none
  | _ => none
def iSeq (m : ME) : MI := fun env st => (m env st).bind fun u st1 => match src u st1 with
  | some p => .ok p st1
  | none => .bad
section
variable {X : Cx} {T : Tb} {P : Pin} {Wx : WX} {tg e : Expr} {m : ME}
theorem walk_of_list {c0 : Cn} {a : Addr} {us : List U} {g : Sto → Prop} (h : ∀ c st H, Le c0 c → RH T c st H → g st → ∃ vs, SqL T.K H a vs ∧ RpL T c us vs) : WalkM T c0 (Itl T.K a) us g := by
  refine ⟨fun H => ∃ vs, SqL T.K H a vs ∧ vs.length = us.length, fun i H x H' => H' = H ∧ ∀ vs, SqL T.K H a vs → vs[i]? = some x, ⟨fun i H hi ⟨vs, h1, h2⟩ => ?_, fun H ⟨vs, h1, h2⟩ => ⟨vs, h1, Nat.le_of_eq h2⟩, fun i H x H' hi _ y => y⟩, fun c st H l hH hg => ?_⟩
  · have hi' : i < vs.length := by rw [h2]; exact hi
    exact ⟨vs, vs[i], h1, by simp [hi']⟩
  · obtain ⟨vs, h1, r⟩ := h c st H l hH hg
    refine ⟨⟨vs, h1, r.length.symm⟩, fun i x H' hi y => ?_⟩
    obtain ⟨rfl, hx⟩ := y
    obtain ⟨u, hu, ru⟩ := r.getV (hx vs h1)
    exact ⟨c, u, hu, Le.refl c, hH, ru⟩
theorem walk_of_tup {c0 : Cn} {a : Addr} {us : List U} {g : Sto → Prop} (h : ∀ c st H, Le c0 c → RH T c st H → g st → ∃ vs, SqT T.K H a vs ∧ RpL T c us vs) : WalkM T c0 (Itt T.K a) us g := by
  refine ⟨fun H => ∃ vs, SqT T.K H a vs ∧ vs.length = us.length, fun i H x H' => H' = H ∧ ∀ vs, SqT T.K H a vs → vs[i]? = some x, ⟨fun i H hi ⟨vs, h1, h2⟩ => ?_, fun H ⟨vs, h1, h2⟩ => ⟨vs, h1, Nat.le_of_eq h2⟩, fun i H x H' hi _ y => y⟩, fun c st H l hH hg => ?_⟩
  · have hi' : i < vs.length := by rw [h2]; exact hi
    exact ⟨vs, vs[i], h1, by simp [hi']⟩
  · obtain ⟨vs, h1, r⟩ := h c st H l hH hg
    refine ⟨⟨vs, h1, r.length.symm⟩, fun i x H' hi y => ?_⟩
    obtain ⟨rfl, hx⟩ := y
    obtain ⟨u, hu, ru⟩ := r.getV (hx vs h1)
    exact ⟨c, u, hu, Le.refl c, hH, ru⟩
theorem walk_of_str {c0 : Cn} {z : Str} {g : Sto → Prop} : WalkM T c0 (Its z) (z.cps.toList.map fun k => U.str ⟨#[k]⟩) g := by
  refine ⟨fun _ => True, fun i H v H' => H' = H ∧ ∃ c, z.cps[i]? = some c ∧ v = .str ⟨#[c]⟩, ?_, fun c st H l hH hg => ⟨True.intro, fun i x H' hi y => ?_⟩⟩
  · rw [List.length_map, Array.length_toList]; exact walk_str
  · obtain ⟨rfl, k, hk, rfl⟩ := y
    refine ⟨c, .str ⟨#[k]⟩, ?_, Le.refl c, hH, .str _⟩
    rw [List.getElem?_map, Array.getElem?_toList, hk]
    rfl
theorem pim_seq (hK : X.K = T.K) (h : PEm X T P Wx e m) : PIm X T P Wx tg e (iSeq m) := PI.imp (PI.or (PI.or (pi_list h) (pi_tup h)) (pi_str h)) fun σ H R ⟨c, env, st, hH, hE, hR⟩ => by
  have go := tg_bind (m := m) (R := Rp T) (Q := R) hH hE hR
  cases e1 : m env st with
  | bad =>
    unfold iSeq at hR
    rw [e1] at hR
    exact hR.elim
  | exc x st1 =>
    refine .inr ⟨c, env, st, hH, hE, ?_⟩
    unfold iSeq at hR
    rw [e1] at hR ⊢
    exact hR
  | ok u st1 =>
    unfold iSeq at hR
    rw [e1] at hR
    have tup : ∀ {us : List U}, u = .tup us → (iList X.K (teOf T P Wx m) σ H R ∨ iTup X.K (teOf T P Wx m) σ H R) ∨ iStr (teOf T P Wx m) σ H R := by
      intro us eu
      subst eu
      refine .inl (.inr ⟨c, env, st, hH, hE, ?_⟩)
      rw [e1]
      intro c1 v H1 l1 hH1 r1
      obtain ⟨a, vs, rfl, h1, r2⟩ := r1.inv_tup
      refine ⟨a, rfl, ⟨vs, by rw [hK]; exact sqT_up hH1 h1⟩, ?_⟩
      rw [hK]
      exact hR c1 _ H1 l1 hH1 (walk_of_tup fun c2 st2 H2 l2 hH2 _ => ⟨vs, sqT_up hH2 (sqT_mono l2.F h1), r2.mono l2⟩)
    have lst : ∀ {us : List U} {g : Sto → Prop}, src u st1 = some ⟨us, g⟩ → (∀ c1 v H1, Le c c1 → RH T c1 st1 H1 → Rp T c1 u v → ∃ a vs, v = .ref a ∧ SqL T.K H1 a vs ∧ ∀ c2 st2 H2, Le c1 c2 → RH T c2 st2 H2 → g st2 → ∃ vs, SqL T.K H2 a vs ∧ RpL T c2 us vs) →
        (iList X.K (teOf T P Wx m) σ H R ∨ iTup X.K (teOf T P Wx m) σ H R) ∨ iStr (teOf T P Wx m) σ H R := by
      intro us g es k
      refine .inl (.inl ⟨c, env, st, hH, hE, ?_⟩)
      rw [e1]
      intro c1 v H1 l1 hH1 r1
      obtain ⟨a, vs, rfl, h1, kk⟩ := k c1 v H1 l1 hH1 r1
      refine ⟨a, rfl, ⟨vs, by rw [hK]; exact h1⟩, ?_⟩
      rw [hK]
      change ResG T Wx c σ _ (match src u st1 with | some p => .ok p st1 | none => .bad) R at hR
      rw [es] at hR
      exact hR c1 _ H1 l1 hH1 (walk_of_list kk)
    cases u with
    | tup us => exact tup rfl
    | lst us =>
      refine lst (us := us) (g := fun _ => True) rfl fun c1 v H1 l1 hH1 r1 => ?_
      obtain ⟨a, vs, rfl, h1, r2⟩ := r1.inv_lst
      exact ⟨a, vs, rfl, SqL.of (hH1.sub _ _ h1), fun c2 st2 H2 l2 hH2 _ => ⟨vs, SqL.of (hH2.sub _ _ (l2.F _ _ h1)), r2.mono l2⟩⟩
    | scr us =>
      refine lst (us := us) (g := fun _ => True) rfl fun c1 v H1 l1 hH1 r1 => ?_
      obtain ⟨a, vs, rfl, h1, r2⟩ := r1.inv_scr
      exact ⟨a, vs, rfl, sqL_up hH1 h1, fun c2 st2 H2 l2 hH2 _ => ⟨vs, sqL_up hH2 (sqL_mono l2.F h1), r2.mono l2⟩⟩
    | loc i =>
      cases es : st1[i]? with
      | none =>
        change ResG T Wx c σ _ (match (match st1[i]? with | some (.lst us) => some (Src.mk us fun s => s[i]? = some (Ob.lst us)) | _ => none) with | some p => .ok p st1 | none => .bad) R at hR
        rw [es] at hR
        exact hR.elim
      | some o =>
        cases o with
        | lst us =>
          refine lst (us := us) (g := fun s => s[i]? = some (Ob.lst us)) (by dsimp only [src]; rw [es]) fun c1 v H1 l1 hH1 r1 => ?_
          obtain ⟨hi, rfl⟩ := r1.inv_loc
          obtain ⟨vs, h1, r2⟩ := hH1.at_lst es
          refine ⟨_, vs, rfl, SqL.of h1, fun c2 st2 H2 l2 hH2 hg => ?_⟩
          obtain ⟨ws, h3, r3⟩ := hH2.at_lst hg
          rw [l2.ρ i hi] at h3
          exact ⟨ws, SqL.of h3, r3⟩
        | _ =>
          change ResG T Wx c σ _ (match (match st1[i]? with | some (.lst us) => some (Src.mk us fun s => s[i]? = some (Ob.lst us)) | _ => none) with | some p => .ok p st1 | none => .bad) R at hR
          rw [es] at hR
          exact hR.elim
    | str z =>
      refine .inr ⟨c, env, st, hH, hE, ?_⟩
      rw [e1]
      intro c1 v H1 l1 hH1 r1
      cases r1.inv_str
      exact ⟨z, rfl, hR c1 _ H1 l1 hH1 walk_of_str⟩
    | _ => exact hR.elim

/-! ### range, enumerate, zip -/
def iRng1 (ma : MA) : MI := fun env st => (ma env st).bind fun us st1 => match us with
  | [.int j] => if -(2 ^ 62) ≤ j ∧ j < 2 ^ 62 then .ok ⟨(List.range j.toNat).map fun (i : Nat) => .int (0 + (i : Int)), fun _ => True⟩ st1 else .bad
  | _ => .bad
def iRng2 (ma : MA) : MI := fun env st => (ma env st).bind fun us st1 => match us with
  | [.int i, .int j] => if -(2 ^ 62) ≤ i ∧ i < 2 ^ 62 ∧ -(2 ^ 62) ≤ j ∧ j < 2 ^ 62 then .ok ⟨(List.range (j - i).toNat).map fun (k : Nat) => .int (i + (k : Int)), fun _ => True⟩ st1 else .bad
  | _ => .bad
theorem walk_of_range {c0 : Cn} {lo : Int} {n : Nat} {g : Sto → Prop} : WalkM T c0 (Itr lo n) ((List.range n).map fun (i : Nat) => U.int (lo + (i : Int))) g := by
  refine ⟨fun _ => True, YFn fun i => .int (lo + i), ?_, fun c st H l hH hg => ⟨True.intro, fun i x H' hi y => ?_⟩⟩
  · rw [List.length_map, List.length_range]; exact walk_range
  · obtain ⟨rfl, rfl⟩ := y
    rw [List.length_map, List.length_range] at hi
    exact ⟨c, .int (lo + (i : Int)), by rw [List.getElem?_map, List.getElem?_range hi]; rfl, Le.refl c, hH, .int _⟩
variable {a b : Expr} {ma : MA} {p pos tpos : Pos}
theorem pim_range1 (hg : Gl X "range") (hm : X.mg "range" = none) (ha : PAm X T P Wx [a] ma) (hs : starEach [a] X.env = [(false, eval a X.env)] := by rfl) : PIm X T P Wx tg (.Call (.Name "range" p) [a] [] pos) (iRng1 ma) :=
  PI.imp (pi_range1 hg hm ha hs) fun σ H R ⟨c, env, st, hH, hE, hR⟩ => by
    refine (tg_bind hH hE hR).mono fun vs H1 ⟨us, c1, st1, l1, hH1, hE1, r1, hR1⟩ => ?_
    split at hR1
    · rename_i j
      obtain ⟨v, vs', rfl, r, t⟩ := r1.inv_cons
      cases t.inv_nil
      cases r.inv_int
      split at hR1
      · rename_i hj
        exact ⟨j, rfl, hj.1, hj.2, ResG.ret hR1 hH1 walk_of_range⟩
      · exact hR1.elim
    · exact hR1.elim
theorem pim_range2 (hg : Gl X "range") (hm : X.mg "range" = none) (ha : PAm X T P Wx [a, b] ma) (hs : starEach [a, b] X.env = [(false, eval a X.env), (false, eval b X.env)] := by rfl) (hs2 : starEach [b] X.env = [(false, eval b X.env)] := by rfl) :
    PIm X T P Wx tg (.Call (.Name "range" p) [a, b] [] pos) (iRng2 ma) :=
  PI.imp (pi_range2 hg hm ha hs hs2) fun σ H R ⟨c, env, st, hH, hE, hR⟩ => by
    refine (tg_bind hH hE hR).mono fun vs H1 ⟨us, c1, st1, l1, hH1, hE1, r1, hR1⟩ => ?_
    split at hR1
    · rename_i i j
      obtain ⟨v, vs', rfl, r, t⟩ := r1.inv_cons
      obtain ⟨v2, vs2, rfl, r2, t2⟩ := t.inv_cons
      cases t2.inv_nil
      cases r.inv_int
      cases r2.inv_int
      split at hR1
      · rename_i hj
        exact ⟨i, j, rfl, hj, ResG.ret hR1 hH1 walk_of_range⟩
      · exact hR1.elim
    · exact hR1.elim
def enumFrom : Nat → List U → List U
  | _, [] => []
  | n, u :: us => .tup [.int (n : Int), u] :: enumFrom (n + 1) us
theorem enum_len : ∀ (n : Nat) (us : List U), (enumFrom n us).length = us.length
  | _, [] => rfl
  | n, u :: us => by
    show (enumFrom (n + 1) us).length + 1 = us.length + 1
    rw [enum_len (n + 1) us]
theorem enum_get : ∀ (n : Nat) (us : List U) (i : Nat) (u : U), us[i]? = some u → (enumFrom n us)[i]? = some (.tup [.int ((n + i : Nat) : Int), u])
  | _, [], _, _, h => by simp at h
  | n, a :: us, 0, u, h => by
    cases h
    rfl
  | n, a :: us, i + 1, u, h => by
    have ih := enum_get (n + 1) us i u (by simpa using h)
    show (enumFrom (n + 1) us)[i]? = _
    rw [ih]
    have e : n + 1 + i = n + (i + 1) := by omega
    rw [e]
/-- a new pair of what is known -/
theorem new_pair {c : Cn} {st : Sto} {H : Hp} (hH : RH T c st H) {u w : U} {x y : V} (r : Rp T c u x) (q : Rp T c w y) {t : Addr} (ht : H t = none) :
    Le c (c.still t (.tup [x, y])) ∧ RH T (c.still t (.tup [x, y])) st (upd H t (.tup [x, y])) ∧ Rp T (c.still t (.tup [x, y])) (.tup [u, w]) (.ref t) :=
  let l := le_still hH ht (.tup [x, y])
  ⟨l, hH.still ht _, .tup (SqT.of upd_same) (.cons (r.mono l) (.cons (q.mono l) .nil))⟩
def iEnum (ma : MA) : MI := fun env st => (ma env st).bind fun us st1 => match us with
  | [.lst us] => .ok ⟨enumFrom 0 us, fun _ => True⟩ st1
  | [.scr us] => .ok ⟨enumFrom 0 us, fun _ => True⟩ st1
  | [.loc i] => match st1[i]? with
    | some (.lst us) => .ok ⟨enumFrom 0 us, fun s => s[i]? = some (Ob.lst us)⟩ st1
    | _ => .bad
  | _ => .bad
theorem walk_of_enum {c0 : Cn} {a : Addr} {us : List U} {g : Sto → Prop} (h : ∀ c st H, Le c0 c → RH T c st H → g st → ∃ vs, SqL T.K H a vs ∧ RpL T c us vs) : WalkM T c0 (Ite T.K a) (enumFrom 0 us) g := by
  refine ⟨fun H => ∃ vs, SqL T.K H a vs ∧ vs.length = us.length, fun i H v H' => ∃ t x, v = .ref t ∧ H t = none ∧ H' = upd H t (.tup [.int (i : Nat), x]) ∧ ∀ xs, SqL T.K H a xs → xs[i]? = some x, ⟨fun i H hi ⟨vs, h1, h2⟩ => ?_, fun H ⟨vs, h1, h2⟩ => ⟨vs, h1, ?_⟩, fun i H x H' hi _ y => y⟩, fun c st H l hH hg => ?_⟩
  · have hi' : i < vs.length := by rw [h2, ← enum_len 0 us]; exact hi
    exact ⟨vs, vs[i], h1, by simp [hi']⟩
  · rw [enum_len, h2]; exact Nat.le_refl _
  · obtain ⟨vs, h1, r⟩ := h c st H l hH hg
    refine ⟨⟨vs, h1, r.length.symm⟩, fun i x H' hi y => ?_⟩
    obtain ⟨t, z, rfl, ht, rfl, hx⟩ := y
    obtain ⟨u, hu, ru⟩ := r.getV (hx vs h1)
    obtain ⟨n1, n2, n3⟩ := new_pair hH (.int (i : Int)) ru ht
    refine ⟨_, _, enum_get 0 us i u hu, n1, n2, ?_⟩
    rw [Nat.zero_add]
    exact n3
theorem pim_enum {elts : List Expr} {kk : Nat} (hK : X.K = T.K) (hg : Gl X "enumerate") (hm : X.mg "enumerate" = none) (ha : PAm X T P Wx [e] ma) (hs : starEach [e] X.env = [(false, eval e X.env)] := by rfl) :
    PIm X T P Wx (.Tuple elts kk tpos) (.Call (.Name "enumerate" p) [e] [] pos) (iEnum ma) :=
  PI.imp (pi_enum hg hm ha hs) fun σ H R ⟨c, env, st, hH, hE, hR⟩ => by
    refine (tg_bind hH hE hR).mono fun vs H1 ⟨us, c1, st1, l1, hH1, hE1, r1, hR1⟩ => ?_
    split at hR1
    · rename_i us'
      obtain ⟨v, vs', rfl, r, t⟩ := r1.inv_cons
      cases t.inv_nil
      obtain ⟨a, ws, rfl, h1, r2⟩ := r.inv_lst
      refine ⟨a, ws, rfl, by rw [hK]; exact SqL.of (hH1.sub _ _ h1), ?_⟩
      rw [hK]
      exact ResG.ret hR1 hH1 (walk_of_enum fun c2 st2 H2 l2 hH2 _ => ⟨ws, SqL.of (hH2.sub _ _ (l2.F _ _ h1)), r2.mono l2⟩)
    · rename_i us'
      obtain ⟨v, vs', rfl, r, t⟩ := r1.inv_cons
      cases t.inv_nil
      obtain ⟨a, ws, rfl, h1, r2⟩ := r.inv_scr
      refine ⟨a, ws, rfl, by rw [hK]; exact sqL_up hH1 h1, ?_⟩
      rw [hK]
      exact ResG.ret hR1 hH1 (walk_of_enum fun c2 st2 H2 l2 hH2 _ => ⟨ws, sqL_up hH2 (sqL_mono l2.F h1), r2.mono l2⟩)
    · rename_i i
      obtain ⟨v, vs', rfl, r, t⟩ := r1.inv_cons
      cases t.inv_nil
      obtain ⟨hi, rfl⟩ := r.inv_loc
      split at hR1
      · rename_i us' es
        obtain ⟨ws, h1, r2⟩ := hH1.at_lst es
        refine ⟨_, ws, rfl, by rw [hK]; exact SqL.of h1, ?_⟩
        rw [hK]
        refine ResG.ret hR1 hH1 (walk_of_enum fun c2 st2 H2 l2 hH2 hg => ?_)
        obtain ⟨zs, h3, r3⟩ := hH2.at_lst hg
        rw [l2.ρ i hi] at h3
        exact ⟨zs, SqL.of h3, r3⟩
      · exact hR1.elim
    · exact hR1.elim
end

/-! ### targets -/
abbrev MGt := U → Env → Sto → Option Env
def gN (i : Nat) : MGt := fun u env _ => some (env.set i (some u))
/-- (a, b, ..) by name -/
def setAll : List Nat → List U → Env → Option Env
  | [], [], env => some env
  | i :: is, u :: us, env => setAll is us (env.set i (some u))
  | _, _, _ => none
def gT (is : List Nat) : MGt := fun u env _ => match u with
  | .tup us => setAll is us env
  | _ => none
/-- the target's reading: the names are set, the heap is as it was -/
def tgtOf (T : Tb) (P : Pin) (g : MGt) : TG := fun v σ H Q => ∃ c env st u env', RH T c st H ∧ RE T P c env σ ∧ Rp T c u v ∧ g u env st = some env' ∧ ∀ σ', RE T P c env' σ' → Q σ' H
def PGm (X : Cx) (T : Tb) (P : Pin) (tg : Expr) (g : MGt) : Prop := PG X tg (tgtOf T P g)
theorem PG.imp {X : Cx} {tg : Expr} {t t' : TG} (h : PG X tg t) (k : ∀ v σ H Q, t' v σ H Q → t v σ H Q) : PG X tg t' := ⟨fun pins s σ H v u Q I r q => h.run pins s σ H v u Q I r (k v σ H Q q)⟩
section
variable {X : Cx} {T : Tb} {P : Pin} {pos : Pos}
theorem pgm_name {tg : Expr} {i : Nat} (h : PG X tg (gName i)) (hp : pinned P i = false := by rfl) : PGm X T P tg (gN i) := PG.imp h fun v σ H Q ⟨c, env, st, u, env', hH, hE, r, e, k⟩ => by
  cases e
  exact k _ (hE.set r i hp)
/-- several names -/
inductive PGN (X : Cx) (P : Pin) : List Expr → List Nat → TGs → Prop
  | nil : PGN X P [] [] gNil
  | cons {e : Expr} {es : List Expr} {i : Nat} {is : List Nat} {t : TGs} : PG X e (gName i) → pinned P i = false → PGN X P es is t → (assignEach (e :: es) X.env).map (·.2) = assign e X.env :: (assignEach es X.env).map (·.2) → PGN X P (e :: es) (i :: is) (gCons (gName i) t)
theorem PGN.pgs {es : List Expr} {is : List Nat} {t : TGs} (h : PGN X P es is t) : PGs X es t := by
  induction h with
  | nil => exact pgs_nil
  | cons a _ _ b ih => exact pgs_cons a ih b
theorem PGN.run {es : List Expr} {is : List Nat} {t : TGs} (h : PGN X P es is t) : ∀ {c : Cn} {env env' : Env} {σ : L2.St} {H : Hp} {us : List U} {vs : List V} {Q : L2.St → Hp → Prop}, RE T P c env σ → RpL T c us vs → setAll is us env = some env' → (∀ σ', RE T P c env' σ' → Q σ' H) → t vs σ H Q := by
  induction h with
  | nil =>
    intro c env env' σ H us vs Q hE r e k
    cases us with
    | nil =>
      cases e
      cases r
      exact ⟨rfl, k _ hE⟩
    | cons _ _ => cases e
  | @cons e es i is t a hp _ b ih =>
    intro c env env' σ H us vs Q hE r e k
    cases us with
    | nil => cases e
    | cons u us =>
      obtain ⟨v, vs', rfl, r1, r2⟩ := r.inv_cons
      exact ⟨v, vs', rfl, ih (hE.set r1 i hp) r2 e k⟩
theorem set_len : ∀ {is : List Nat} {us : List U} {env env' : Env}, setAll is us env = some env' → us.length = is.length
  | [], [], _, _, _ => rfl
  | i :: is, u :: us, env, env', h => by
    have := set_len (is := is) (us := us) h
    simp [this]
  | [], _ :: _, _, _, h => by cases h
  | _ :: _, [], _, _, h => by cases h
theorem pgm_tup {es : List Expr} {kk : Nat} {is : List Nat} {t : TGs} (hK : X.K = T.K) (hc : X.calm = true) (h : PGN X P es is t) (hn : (assignEach es X.env).length = is.length := by rfl) (hst : (assignEach es X.env).findIdx? (·.1) = none := by rfl) : PGm X T P (.Tuple es kk pos) (gT is) :=
  PG.imp (pg_tup hc h.pgs hn hst) fun v σ H Q ⟨c, env, st, u, env', hH, hE, r, e, k⟩ => by
    cases u with
    | tup us =>
      obtain ⟨a, vs, rfl, h1, r1⟩ := r.inv_tup
      refine ⟨a, vs, rfl, by rw [hK]; exact sqT_up hH h1, ?_, h.run hE r1 e k⟩
      rw [← r1.length]
      exact set_len e
    | _ => cases e
end
end NK

set_option Elab.async false
set_option linter.all false
set_option maxRecDepth 100000
set_option maxHeartbeats 2000000
/-! NK5: statements, loops, comprehensions. -/
namespace NK
open PySem L2

/-- a statement's outcome -/
inductive SO where
  | next (env : Env) (st : Sto)
  | ret (u : U) (st : Sto)
  | brk (env : Env) (st : Sto)
  | cont (env : Env) (st : Sto)
  | exc (x : Ex) (env : Env) (st : Sto)
  | bad
abbrev MS := Env → Sto → SO
def ResS (T : Tb) (P : Pin) (Wx : WX) (c : Cn) (r : SO) (D : Ends) : Prop := match r with
  | .next env st => ∀ c' σ' H', Le c c' → RH T c' st H' → RE T P c' env σ' → D.nx σ' H'
  | .ret u st => ∀ c' v H', Le c c' → RH T c' st H' → Rp T c' u v → D.rt v H'
  | .brk env st => ∀ c' σ' H', Le c c' → RH T c' st H' → RE T P c' env σ' → D.bk σ' H'
  | .cont env st => ∀ c' σ' H', Le c c' → RH T c' st H' → RE T P c' env σ' → D.ct σ' H'
  | .exc x env st => ∀ c' cls d σ' H', Le c c' → RH T c' st H' → RE T P c' env σ' → RX T c' x cls d → Wx cls d σ' H'
  | .bad => False
def tsOf (T : Tb) (P : Pin) (Wx : WX) (m : MS) : TS := fun D σ H => ∃ c env st, RH T c st H ∧ RE T P c env σ ∧ ResS T P Wx c (m env st) D
def PSm (X : Cx) (T : Tb) (P : Pin) (Wx : WX) (s : Stmt) (m : MS) : Prop := PS X s (tsOf T P Wx m)
def PSsm (X : Cx) (T : Tb) (P : Pin) (Wx : WX) (s : List Stmt) (m : MS) : Prop := PSs X s (tsOf T P Wx m)

def SO.bind (r : SO) (k : MS) : SO := match r with
  | .next env st => k env st
  | .ret u st => .ret u st
  | .brk env st => .brk env st
  | .cont env st => .cont env st
  | .exc x env st => .exc x env st
  | .bad => .bad
/-- an expression within a statement -/
def Out.st {α : Type} (r : Out α) (env : Env) (k : α → Sto → SO) : SO := match r with
  | .ok a st => k a st
  | .exc x st => .exc x env st
  | .bad => .bad

section
variable {T : Tb} {P : Pin} {Wx : WX} {c c' : Cn} {r : SO} {D D' : Ends} {σ : L2.St} {H : Hp}
theorem ResS.later (l : Le c c') (h : ResS T P Wx c r D) : ResS T P Wx c' r D := by
  cases r with
  | next env st => exact fun c2 σ' H' a b d => h c2 σ' H' (l.trans a) b d
  | ret u st => exact fun c2 σ' H' a b d => h c2 σ' H' (l.trans a) b d
  | brk env st => exact fun c2 σ' H' a b d => h c2 σ' H' (l.trans a) b d
  | cont env st => exact fun c2 σ' H' a b d => h c2 σ' H' (l.trans a) b d
  | exc x env st => exact fun c2 cls d σ' H' a b e f => h c2 cls d σ' H' (l.trans a) b e f
  | bad => exact h
theorem ResS.mono (h : ResS T P Wx c r D) (n : ∀ σ H, D.nx σ H → D'.nx σ H) (rt : ∀ v H, D.rt v H → D'.rt v H) (b : ∀ σ H, D.bk σ H → D'.bk σ H) (ct : ∀ σ H, D.ct σ H → D'.ct σ H) : ResS T P Wx c r D' := by
  cases r with
  | next env st => exact fun c2 σ' H' a e d => n _ _ (h c2 σ' H' a e d)
  | ret u st => exact fun c2 σ' H' a e d => rt _ _ (h c2 σ' H' a e d)
  | brk env st => exact fun c2 σ' H' a e d => b _ _ (h c2 σ' H' a e d)
  | cont env st => exact fun c2 σ' H' a e d => ct _ _ (h c2 σ' H' a e d)
  | exc x env st => exact h
  | bad => exact h
/-- a mirrored expression first, then the rest of the statement -/
theorem ts_bind {α β : Type} {R : Cn → α → β → Prop} {m : MG α} {k : α → Sto → SO} {env : Env} {st : Sto} (hH : RH T c st H) (hE : RE T P c env σ) (hR : ResS T P Wx c ((m env st).st env k) D) :
    tgOf T P Wx R m σ H fun x H1 => ∃ u c1 st1, Le c c1 ∧ RH T c1 st1 H1 ∧ RE T P c1 env σ ∧ R c1 u x ∧ ResS T P Wx c1 (k u st1) D := by
  refine ⟨c, env, st, hH, hE, ?_⟩
  cases e : m env st with
  | ok u st1 =>
    rw [e] at hR
    exact fun c1 v H1 l h r => ⟨u, c1, st1, l, h, hE.mono l, r, ResS.later l hR⟩
  | exc x st1 =>
    rw [e] at hR
    exact fun c1 cls d H1 l h r => hR c1 cls d σ H1 l h (hE.mono l) r
  | bad =>
    rw [e] at hR
    exact hR
theorem ResS.go {env : Env} {st : Sto} (h : ResS T P Wx c (.next env st) D) (hH : RH T c st H) (hE : RE T P c env σ) : D.nx σ H := h c σ H (Le.refl c) hH hE
end

/-! ### mirrors of statements -/
def sNext : MS := fun env st => .next env st
def sSeq (a b : MS) : MS := fun env st => (a env st).bind b
def sDrop (m : ME) : MS := fun env st => (m env st).st env fun _ st1 => .next env st1
def sRet (m : ME) : MS := fun env st => (m env st).st env fun u st1 => .ret u st1
def sRetN : MS := fun env st => .ret .non st
def sBrk : MS := fun env st => .brk env st
def sCont : MS := fun env st => .cont env st
def sAsg (m : ME) (g : MGt) : MS := fun env st => (m env st).st env fun u st1 => match g u env st1 with
  | some env' => .next env' st1
  | none => .bad
def sIf (mt : MT) (a b : MS) : MS := fun env st => (mt env st).st env fun k st1 => if k = true then a env st1 else b env st1
/-- the turns of a for -/
noncomputable def forM (g : Sto → Prop) (gt : MGt) (b : MS) : List U → MS
  | [], env, st => open Classical in if g st then .next env st else .bad
  | u :: us, env, st => open Classical in if g st then (match gt u env st with
    | none => .bad
    | some env1 => match b env1 st with
      | .next env2 st2 => forM g gt b us env2 st2
      | .cont env2 st2 => forM g gt b us env2 st2
      | .brk env2 st2 => .next env2 st2
      | .ret u st2 => .ret u st2
      | .exc x env2 st2 => .exc x env2 st2
      | .bad => .bad) else .bad
noncomputable def sFor (mi : MI) (gt : MGt) (b : MS) : MS := fun env st => (mi env st).st env fun p st1 => forM p.g gt b p.us env st1

section
variable {X : Cx} {T : Tb} {P : Pin} {Wx : WX} {s : Stmt} {rest : List Stmt} {e : Expr} {ma mb : MS} {m : ME} {pos : Pos}
theorem pssm_nil : PSsm X T P Wx [] sNext := PSs.imp pss_nil fun D σ H ⟨c, env, st, hH, hE, hR⟩ => ResS.go (D := D) hR hH hE
theorem seq_run {t u : TS} (h1 : ∀ D σ H, tsOf T P Wx ma D σ H → t D σ H) (h2 : ∀ D σ H, tsOf T P Wx mb D σ H → u D σ H) (D : Ends) (σ : L2.St) (H : Hp) (h : tsOf T P Wx (sSeq ma mb) D σ H) : tSeq t u D σ H := by
  obtain ⟨c, env, st, hH, hE, hR⟩ := h
  refine h1 _ _ _ ⟨c, env, st, hH, hE, ?_⟩
  unfold sSeq at hR
  cases q : ma env st with
  | next env1 st1 =>
    rw [q] at hR
    exact fun c1 σ1 H1 l1 hH1 hE1 => h2 _ _ _ ⟨c1, env1, st1, hH1, hE1, ResS.later l1 hR⟩
  | ret u st1 => rw [q] at hR; exact hR
  | brk env1 st1 => rw [q] at hR; exact hR
  | cont env1 st1 => rw [q] at hR; exact hR
  | exc x env1 st1 => rw [q] at hR; exact hR
  | bad => rw [q] at hR; exact hR
theorem pssm_cons (h1 : PSm X T P Wx s ma) (h2 : PSsm X T P Wx rest mb) : PSsm X T P Wx (s :: rest) (sSeq ma mb) := PSs.imp (pss_cons h1 h2) (seq_run (fun _ _ _ h => h) fun _ _ _ h => h)
theorem pssm_one (h1 : PSm X T P Wx s ma) : PSsm X T P Wx [s] ma := pss_one h1
theorem psm_pass : PSm X T P Wx (.Pass pos) sNext := PS.imp ps_pass fun D σ H ⟨c, env, st, hH, hE, hR⟩ => ResS.go (D := D) hR hH hE
theorem psm_brk : PSm X T P Wx (.Break pos) sBrk := PS.imp ps_break fun D σ H ⟨c, env, st, hH, hE, hR⟩ => hR c σ H (Le.refl c) hH hE
theorem psm_cont : PSm X T P Wx (.Continue pos) sCont := PS.imp ps_continue fun D σ H ⟨c, env, st, hH, hE, hR⟩ => hR c σ H (Le.refl c) hH hE
theorem psm_expr (h : PEm X T P Wx e m) (hs : swapsWith e none pos.line X.env = pure false := by rfl) : PSm X T P Wx (.Expr e pos) (sDrop m) := PS.imp (ps_expr h hs) fun D σ H ⟨c, env, st, hH, hE, hR⟩ =>
  (ts_bind hH hE hR).mono fun x H1 ⟨u, c1, st1, l1, hH1, hE1, r1, hR1⟩ => ResS.go (D := D) hR1 hH1 hE1
theorem psm_ret (h : PEm X T P Wx e m) : PSm X T P Wx (.Return (some e) pos) (sRet m) := PS.imp (ps_ret h) fun D σ H ⟨c, env, st, hH, hE, hR⟩ =>
  (ts_bind hH hE hR).mono fun x H1 ⟨u, c1, st1, l1, hH1, hE1, r1, hR1⟩ => hR1 c1 x H1 (Le.refl c1) hH1 r1
theorem psm_retN : PSm X T P Wx (.Return none pos) sRetN := PS.imp ps_retN fun D σ H ⟨c, env, st, hH, hE, hR⟩ => hR c .non H (Le.refl c) hH .non
theorem asg_run {tg : TG} {g : MGt} (hg : ∀ v σ H Q, tgtOf T P g v σ H Q → tg v σ H Q) (D : Ends) (σ : L2.St) (H : Hp) (h : tsOf T P Wx (sAsg m g) D σ H) : tAsg (teOf T P Wx m) tg D σ H := by
  obtain ⟨c, env, st, hH, hE, hR⟩ := h
  refine (ts_bind hH hE hR).mono fun x H1 ⟨u, c1, st1, l1, hH1, hE1, r1, hR1⟩ => ?_
  split at hR1
  · rename_i env' q
    exact hg _ _ _ _ ⟨c1, env, st1, u, env', hH1, hE1, r1, q, fun σ' hE' => ResS.go (D := D) hR1 hH1 hE'⟩
  · exact hR1.elim
theorem psm_asg {tg : Expr} {g : MGt} (h : PEm X T P Wx e m) (hg : PGm X T P tg g) (hs : swapsWithSole [tg] e pos.line X.env = pure false := by rfl) (hw : swappedStores [tg] e X.env = pure none := by rfl)
    (h1 : (assignEach [tg] X.env).map (·.2) = [assign tg X.env] := by rfl) : PSm X T P Wx (.Assign [tg] e pos) (sAsg m g) := PS.imp (ps_asg h hg hs hw h1) (asg_run fun _ _ _ _ h => h)
theorem psm_set {i : Nat} {x : Str} {pos' : Pos} (hN : X.N.Nodup) (hi : X.N[i]? = some x) (hx : Loc X.env.scope x) (h : PEm X T P Wx e m) (hs : swapsWith e (some (.Name x pos')) pos.line X.env = pure false := by rfl) (hp : pinned P i = false := by rfl)
    (hf : X.fn x = true ∨ X.env.scope.names.lookup x = some .local := by first | exact .inl rfl | exact .inr rfl | assumption) : PSm X T P Wx (.Assign [.Name x pos'] e pos) (sAsg m (gN i)) :=
  PS.imp (ps_set hN hi hx h hs hf) (asg_run fun v σ H Q ⟨c, env, st, u, env', hH, hE, r, q, k⟩ => by
    cases q
    exact k _ (hE.set r i hp))
theorem psm_if {c : Expr} {a b : List Stmt} {mt : MT} (hc : PTm X T P Wx c mt) (ha : PSsm X T P Wx a ma) (hb : PSsm X T P Wx b mb) : PSm X T P Wx (.If c a b pos) (sIf mt ma mb) :=
  PS.imp (ps_if hc ha hb) fun D σ H ⟨c, env, st, hH, hE, hR⟩ => (ts_bind hH hE hR).mono fun k H1 ⟨u, c1, st1, l1, hH1, hE1, r1, hR1⟩ => by
    cases (show u = k from r1)
    cases k with
    | true => exact ⟨c1, env, st1, hH1, hE1, hR1⟩
    | false => exact ⟨c1, env, st1, hH1, hE1, hR1⟩
/-- the turns -/
theorem for_run {J : It} {us : List U} {g : Sto → Prop} {gt : MGt} {tg : TG} {tb : TS} {c0 : Cn} {D : Ends} (hw : WalkM T c0 J us g) (hg : ∀ v σ H Q, tgtOf T P gt v σ H Q → tg v σ H Q) (hb : ∀ D σ H, tsOf T P Wx ma D σ H → tb D σ H)
    {c : Cn} {env : Env} {st : Sto} {σ : L2.St} {H : Hp} (l : Le c0 c) (hH : RH T c st H) (hE : RE T P c env σ) (hR : ResS T P Wx c (forM g gt ma us env st) D) :
    ∃ W : Nat → Nat → L2.St → Hp → Prop, (∃ m, W 0 m σ H) ∧ ∀ i m σ H, W i m σ H →
      (J.stop i H ∧ D.nx σ H) ∨ (J.go i H ∧ ∃ N : L2.St → Hp → Prop, (∀ σ' H', N σ' H' → ∃ m', m' < m ∧ W (i + 1) m' σ' H') ∧ ∀ x H', J.yld i H x H' → tg x σ H' fun σ2 H2 => tb { D with nx := N, ct := N, bk := D.nx } σ2 H2) := by
  obtain ⟨G, Y, w, k⟩ := hw
  refine for_it w (fun i σ H => i ≤ us.length ∧ ∃ c env st, Le c0 c ∧ RH T c st H ∧ RE T P c env σ ∧ ResS T P Wx c (forM g gt ma (us.drop i) env st) D) ⟨Nat.zero_le _, c, env, st, l, hH, hE, hR⟩ ?_ ?_ ?_
  · rintro i σ H hi ⟨_, c, env, st, l, hH, hE, hR⟩
    have hg' : g st := by
      cases q : us.drop i with
      | nil =>
        rw [q] at hR
        unfold forM at hR
        split at hR
        · assumption
        · exact hR.elim
      | cons u r =>
        rw [q] at hR
        unfold forM at hR
        split at hR
        · assumption
        · exact hR.elim
    exact (k c st H l hH hg').1
  · rintro i x σ H H' hi ⟨_, c, env, st, l, hH, hE, hR⟩ y
    have hd : us.drop i = us[i] :: us.drop (i + 1) := List.drop_eq_getElem_cons hi
    rw [hd] at hR
    unfold forM at hR
    split at hR
    · rename_i hg'
      obtain ⟨c1, u, hu, l1, hH1, r1⟩ := (k c st H l hH hg').2 i x H' hi y
      have eu : us[i] = u := by
        rw [List.getElem?_eq_getElem hi] at hu
        exact Option.some.inj hu
      rw [eu] at hR
      split at hR
      · exact hR.elim
      · rename_i env1 q
        refine hg _ _ _ _ ⟨c1, env, st, u, env1, hH1, hE.mono l1, r1, q, fun σ1 hE1 => hb _ _ _ ⟨c1, env1, st, hH1, hE1, ?_⟩⟩
        have l2 := l.trans l1
        cases qb : ma env1 st with
        | next env2 st2 =>
          rw [qb] at hR
          exact fun c2 σ2 H2 l3 hH2 hE2 => ⟨hi, c2, env2, st2, l2.trans l3, hH2, hE2, ResS.later (l1.trans l3) hR⟩
        | cont env2 st2 =>
          rw [qb] at hR
          exact fun c2 σ2 H2 l3 hH2 hE2 => ⟨hi, c2, env2, st2, l2.trans l3, hH2, hE2, ResS.later (l1.trans l3) hR⟩
        | brk env2 st2 =>
          rw [qb] at hR
          exact fun c2 σ2 H2 l3 hH2 hE2 => hR c2 σ2 H2 (l1.trans l3) hH2 hE2
        | ret u2 st2 =>
          rw [qb] at hR
          exact fun c2 v H2 l3 hH2 r2 => hR c2 v H2 (l1.trans l3) hH2 r2
        | exc x2 env2 st2 =>
          rw [qb] at hR
          exact fun c2 cls d σ2 H2 l3 hH2 hE2 r2 => hR c2 cls d σ2 H2 (l1.trans l3) hH2 hE2 r2
        | bad =>
          rw [qb] at hR
          exact hR.elim
    · exact hR.elim
  · rintro σ H ⟨_, c, env, st, l, hH, hE, hR⟩
    rw [List.drop_length] at hR
    unfold forM at hR
    split at hR
    · exact ResS.go (D := D) hR hH hE
    · exact hR.elim
theorem psm_for {tg iter : Expr} {body : List Stmt} {mi : MI} {gt : MGt} (hp : PassesOwn (model X.prog X.w) X.A X.env X.xe) (hc : X.calm = true) (hi : PIm X T P Wx tg iter mi) (hg : PGm X T P tg gt) (hb : PSsm X T P Wx body ma)
    (hs : ∀ x, foldedSetIterable iter X.env x = pure x := by intro _; rfl) : PSm X T P Wx (.For tg iter body [] pos) (sFor mi gt ma) :=
  PS.imp (ps_for hp hc hi hg hb hs) fun D σ H ⟨c, env, st, hH, hE, hR⟩ => (ts_bind hH hE hR).mono fun J H1 ⟨p, c1, st1, l1, hH1, hE1, r1, hR1⟩ =>
    for_run r1 (fun _ _ _ _ h => h) (fun _ _ _ h => h) (Le.refl c1) hH1 hE1 hR1
end
end NK

set_option Elab.async false
set_option linter.all false
set_option maxRecDepth 100000
set_option maxHeartbeats 2000000
/-! NK6: comprehensions, scopes, lists' methods, stores. -/
namespace NK
open PySem L2

/-! ### places below n -/
mutual
def U.under (n : Nat) : U → Bool
  | .loc i => decide (i < n)
  | .tup us => U.underL n us
  | .lst us => U.underL n us
  | .scr us => U.underL n us
  | .ins _ us => U.underL n us
  | _ => true
def U.underL (n : Nat) : List U → Bool
  | [] => true
  | u :: us => U.under n u && U.underL n us
end
def Ob.under (n : Nat) : Ob → Bool
  | .lst us => U.underL n us
  | .dK kvs => U.underL n (kvs.map (·.2))
  | .ins _ us => U.underL n us
  | .iset _ => true
  | .dead => true
section
variable {T : Tb} {c c2 : Cn}
mutual
theorem Rp.under : ∀ {u : U} {v : V}, Rp T c u v → u.under c.n = true
  | _, _, .non => rfl
  | _, _, .bl _ => rfl
  | _, _, .int _ => rfl
  | _, _, .str _ => rfl
  | _, _, .ty _ => rfl
  | _, _, .cls _ => rfl
  | _, _, .tup _ r => RpL.under r
  | _, _, .lst _ r => RpL.under r
  | _, _, .scr _ r => RpL.under r
  | _, _, .ins _ _ r => RpL.under r
  | _, _, .loc h => by
    unfold U.under
    exact decide_eq_true h
theorem RpL.under : ∀ {us : List U} {vs : List V}, RpL T c us vs → U.underL c.n us = true
  | _, _, .nil => rfl
  | _, _, .cons r t => by
    unfold U.underL
    rw [Rp.under r, RpL.under t]
    rfl
end
theorem RpK.under : ∀ {us : List (Key × U)} {vs : List (Key × V)}, RpK T c us vs → U.underL c.n (us.map (·.2)) = true
  | _, _, .nil => rfl
  | _, _, .cons r t => by
    show U.underL c.n (_ :: _) = true
    unfold U.underL
    rw [Rp.under r, RpK.under t]
    rfl
theorem RO.under {o : Ob} {a : Addr} {h : HO} (r : RO T c o a h) : o.under c.n = true := by
  cases o with
  | lst us => obtain ⟨vs, _, r⟩ := r; exact r.under
  | dK us => obtain ⟨vs, _, r⟩ := r; exact r.under
  | ins k us => obtain ⟨dx, vs, _, _, r⟩ := r; exact r.under
  | iset ks => rfl
  | dead => rfl
/-- the places from n on forgotten -/
def Cn.cut (c : Cn) (n : Nat) : Cn := { c with n := n }
mutual
theorem Rp.cut {n : Nat} : ∀ {u : U} {v : V}, Rp T c u v → u.under n = true → Rp T (c.cut n) u v
  | _, _, .non, _ => .non
  | _, _, .bl b, _ => .bl b
  | _, _, .int i, _ => .int i
  | _, _, .str x, _ => .str x
  | _, _, .ty n, _ => .ty n
  | _, _, .cls k, _ => .cls k
  | _, _, .tup e r, h => .tup e (RpL.cut r h)
  | _, _, .lst e r, h => .lst e (RpL.cut r h)
  | _, _, .scr e r, h => .scr e (RpL.cut r h)
  | _, _, .ins e l r, h => .ins e l (RpL.cut r h)
  | _, _, .loc (i := i) hi, h => by
    unfold U.under at h
    exact .loc (c := c.cut n) (of_decide_eq_true h)
theorem RpL.cut {n : Nat} : ∀ {us : List U} {vs : List V}, RpL T c us vs → U.underL n us = true → RpL T (c.cut n) us vs
  | _, _, .nil, _ => .nil
  | _, _, .cons r t, h => by
    unfold U.underL at h
    rw [Bool.and_eq_true] at h
    exact .cons (Rp.cut r h.1) (RpL.cut t h.2)
end
theorem RpK.cut {n : Nat} : ∀ {us : List (Key × U)} {vs : List (Key × V)}, RpK T c us vs → U.underL n (us.map (·.2)) = true → RpK T (c.cut n) us vs
  | _, _, .nil, _ => .nil
  | _, _, .cons r t, h => by
    have h' : (U.under n _ && U.underL n _) = true := h
    rw [Bool.and_eq_true] at h'
    exact .cons (Rp.cut r h'.1) (RpK.cut t h'.2)
theorem RO.cut {n : Nat} {o : Ob} {a : Addr} {h : HO} (r : RO T c o a h) (b : o.under n = true) : RO T (c.cut n) o a h := by
  cases o with
  | lst us => obtain ⟨vs, e, r⟩ := r; exact ⟨vs, e, r.cut b⟩
  | dK us => obtain ⟨vs, e, r⟩ := r; exact ⟨vs, e, r.cut b⟩
  | ins k us => obtain ⟨dx, vs, e, z, r⟩ := r; exact ⟨dx, vs, e, z, r.cut b⟩
  | iset ks => exact r
  | dead => exact r.elim
/-- the old part of the store: as it was, or without places -/
def oldOk (st st' : Sto) : Prop := st.length ≤ st'.length ∧ ∀ i, i < st.length → st'[i]? = st[i]? ∨ ∃ o, st'[i]? = some o ∧ o.under 0 = true
mutual
theorem U.under_mono {n m : Nat} (h : n ≤ m) : ∀ {u : U}, u.under n = true → u.under m = true
  | .loc i, e => by unfold U.under at e ⊢; exact decide_eq_true (Nat.lt_of_lt_of_le (of_decide_eq_true e) h)
  | .tup us, e => U.underL_mono h (us := us) e
  | .lst us, e => U.underL_mono h (us := us) e
  | .scr us, e => U.underL_mono h (us := us) e
  | .ins _ us, e => U.underL_mono h (us := us) e
  | .non, _ => rfl
  | .bl _, _ => rfl
  | .int _, _ => rfl
  | .str _, _ => rfl
  | .ty _, _ => rfl
  | .cls _, _ => rfl
theorem U.underL_mono {n m : Nat} (h : n ≤ m) : ∀ {us : List U}, U.underL n us = true → U.underL m us = true
  | [], _ => rfl
  | u :: us, e => by
    unfold U.underL at e ⊢
    rw [Bool.and_eq_true] at e ⊢
    exact ⟨U.under_mono h e.1, U.underL_mono h e.2⟩
end
theorem Ob.under_mono {n m : Nat} (h : n ≤ m) {o : Ob} (e : o.under n = true) : o.under m = true := by
  cases o with
  | lst us => exact U.underL_mono h (us := us) e
  | dK us =>
    have e' : U.underL n (us.map fun p => p.2) = true := e
    exact U.underL_mono h e'
  | ins k us => exact U.underL_mono h (us := us) e
  | iset ks => rfl
  | dead => rfl
/-- what was laid since st is forgotten -/
theorem scope_cut {st st2 : Sto} {H H2 : Hp} (hH : RH T c st H) (l : Le c c2) (hH2 : RH T c2 st2 H2) (old : oldOk st st2) : Le c (c2.cut c.n) ∧ RH T (c2.cut c.n) (st2.take st.length) H2 := by
  refine ⟨⟨Nat.le_refl _, fun i hi => l.ρ i hi, l.F⟩, ?_, hH2.sub, fun i o e d => ?_, fun i j a b ea da eb db q => ?_⟩
  · show c.n = _
    rw [hH.n, List.length_take]
    have := old.1
    omega
  · have hi : i < st.length := by
      have := (List.getElem?_eq_some_iff.mp e).1
      rw [List.length_take] at this
      omega
    rw [List.getElem?_take_of_lt hi] at e
    obtain ⟨h, h1, h2, h3⟩ := hH2.act i o e d
    refine ⟨h, h1, h2.cut ?_, h3⟩
    rcases old.2 i hi with q | ⟨o', q, b⟩
    · rw [e] at q
      obtain ⟨h', _, h2', _⟩ := hH.act i o q.symm d
      exact h2'.under
    · rw [e] at q
      cases q
      exact Ob.under_mono (Nat.zero_le _) b
  · have hi : i < st.length := by
      have := (List.getElem?_eq_some_iff.mp ea).1
      rw [List.length_take] at this
      omega
    have hj : j < st.length := by
      have := (List.getElem?_eq_some_iff.mp eb).1
      rw [List.length_take] at this
      omega
    rw [List.getElem?_take_of_lt hi] at ea
    rw [List.getElem?_take_of_lt hj] at eb
    exact hH2.inj i j a b ea da eb db q
end

/-- the answer stands still, what was laid on the way is forgotten -/
noncomputable def scopeOut (st : Sto) (r : Out U) : Out U := (r.bind frz).bind fun u st2 => open Classical in if u.under st.length = true ∧ oldOk st st2 then .ok u (st2.take st.length) else .bad
noncomputable def eScope (m : ME) : ME := fun env st => scopeOut st (m env st)
section
variable {X : Cx} {T : Tb} {P : Pin} {Wx : WX} {e : Expr} {m : ME} {pos : Pos}
/-- what freezing does, as a step of relations -/
theorem frz_at {c : Cn} {st : Sto} {H : Hp} {u u2 : U} {v : V} {st2 : Sto} (hH : RH T c st H) (r : Rp T c u v) (e : frz u st = .ok u2 st2) : ∃ c2, Le c c2 ∧ RH T c2 st2 H ∧ Rp T c2 u2 v := by
  cases u with
  | loc i =>
    obtain ⟨hi, rfl⟩ := r.inv_loc
    dsimp only [frz] at e
    split at e
    · rename_i us q
      cases e
      obtain ⟨vs, h1, h2⟩ := hH.at_lst q
      have l := le_freeze (x := .lst vs) hH q (fun z => nomatch z)
      exact ⟨_, l, hH.freeze q (fun z => nomatch z) h1, .lst upd_same (h2.mono l)⟩
    · rename_i k us q
      cases e
      obtain ⟨dx, vs, h1, hz, h2⟩ := hH.at_ins q
      have l := le_freeze (x := .ins (T.cls k) dx ((T.fld k).zip vs)) hH q (fun z => nomatch z)
      exact ⟨_, l, hH.freeze q (fun z => nomatch z) h1, .ins upd_same hz (h2.mono l)⟩
    · cases e
  | _ => cases e; exact ⟨c, Le.refl c, hH, r⟩
theorem frz_noexc {u : U} {st : Sto} {x : Ex} {st2 : Sto} : frz u st ≠ .exc x st2 := by
  intro h
  cases u with
  | loc i =>
    dsimp only [frz] at h
    split at h <;> cases h
  | _ => cases h
theorem scope_res {c : Cn} {σ : L2.St} {st : Sto} {H : Hp} {r : Out U} {Q : VK} (hH : RH T c st H) (h : ResG T Wx c σ (Rp T) (scopeOut st r) Q) : ResG T Wx c σ (Rp T) r Q := by
  cases r with
  | ok u st1 =>
    intro c1 v H1 l1 hH1 r1
    unfold scopeOut at h
    cases q : frz u st1 with
    | ok u2 st2 =>
      obtain ⟨c2, l2, hH2, r2⟩ := frz_at hH1 r1 q
      change ResG T Wx c σ (Rp T) ((frz u st1).bind _) Q at h
      rw [q] at h
      change ResG T Wx c σ (Rp T) (open Classical in if u2.under st.length = true ∧ oldOk st st2 then .ok u2 (st2.take st.length) else .bad) Q at h
      split at h
      · rename_i hs
        obtain ⟨l3, hH3⟩ := scope_cut hH (l1.trans l2) hH2 hs.2
        rw [← hH.n] at hs
        exact h _ _ _ l3 hH3 (r2.cut hs.1)
      · exact h.elim
    | exc x st2 => exact absurd q frz_noexc
    | bad =>
      change ResG T Wx c σ (Rp T) ((frz u st1).bind _) Q at h
      rw [q] at h
      exact h.elim
  | exc x st1 => exact h
  | bad => exact h
theorem pem_scope (h : PEm X T P Wx e m) : PEm X T P Wx e (eScope m) := PE.imp h fun σ H Q ⟨c, env, st, hH, hE, hR⟩ => ⟨c, env, st, hH, hE, scope_res hH hR⟩

/-! ### comprehensions -/
def wipeE (env : Env) : List Nat → Env
  | [] => env
  | v :: vs => (wipeE env vs).set v none
theorem RE.wipe {c : Cn} {env : Env} {σ : L2.St} (r : RE T P c env σ) : ∀ vs : List Nat, (∀ i ∈ vs, pinned P i = false) → RE T P c (wipeE env vs) (L2.wipe σ vs)
  | [], _ => r
  | v :: vs, h => by
    show RE T P c ((wipeE env vs).set v none) ((L2.wipe σ vs).set v none)
    exact (RE.wipe r vs fun i hi => h i (List.mem_cons_of_mem _ hi)).unset v (h v (List.mem_cons_self ..))
noncomputable def compM (g : Sto → Prop) (gt : MGt) (mt : MT) (me : ME) (D : Nat) (env : Env) : List U → Sto → Out U
  | [], st => open Classical in if g st then .ok (.loc D) st else .bad
  | u :: us, st => open Classical in if g st then (match gt u env st with
    | none => .bad
    | some env1 => match mt env1 st with
      | .ok true st1 => (match me env1 st1 with
        | .ok w st2 => match st2[D]? with
          | some (.lst acc) => if acc.length < 16777216 then compM g gt mt me D env us (st2.set D (.lst (acc ++ [w]))) else .bad
          | _ => .bad
        | _ => .bad)
      | .ok false st1 => compM g gt mt me D env us st1
      | _ => .bad) else .bad
def tYes : MT := fun _ st => .ok true st
noncomputable def eComp (mi : MI) (gt : MGt) (mt : MT) (me : ME) (vs : List Nat) : ME := fun env st => (mi env st).bind fun p st1 => compM p.g gt mt me st1.length (wipeE env vs) p.us (st1 ++ [.lst []])
/-- in a comprehension's block nothing is raised -/
def Wx0 : WX := fun _ _ _ _ => False
/-- the targets of a comprehension store its own names alone -/
def GW (tg : TG) (vs : List Nat) : Prop := ∀ (v : V) (σ : L2.St) (H : Hp) (Q : L2.St → Hp → Prop), (tg v (L2.wipe σ vs) H fun σ3 H3 => L2.wipe σ3 vs = L2.wipe σ vs → Q σ3 H3) → tg v (L2.wipe σ vs) H fun σ3 H3 => L2.wipe σ3 vs = L2.wipe σ vs ∧ Q σ3 H3
theorem comp_run {J : It} {us : List U} {g : Sto → Prop} {gt : MGt} {tg : TG} {mt : MT} {me : ME} {tt : TT} {te : TE} {vs : List Nat} {c0 : Cn} {Q : VK} {σ : L2.St} (hw : WalkM T c0 J us g)
    (hg : ∀ v σ H Q, tgtOf T P gt v σ H Q → tg v σ H Q) (ht : ∀ σ H Q, ttOf T P Wx0 mt σ H Q → tt σ H Q) (he : ∀ σ H Q, teOf T P Wx0 me σ H Q → te σ H Q)
    (hp : ∀ i ∈ vs, pinned P i = false) (hgw : GW tg vs)
    {c : Cn} {env : Env} {st : Sto} {H : Hp} (l : Le c0 c) (hH : RH T c st H) (hE : RE T P c env σ) {D : Addr} (hD : H D = none) (hR : ResG T Wx c σ (Rp T) (compM g gt mt me st.length (wipeE env vs) us (st ++ [.lst []])) Q) :
    ∃ W : Nat → Nat → Hp → Prop, (∃ m, W 0 m (upd H D (.lst []))) ∧ ∀ i m H, W i m H →
      (J.stop i H ∧ Q (.ref D) H) ∨ (J.go i H ∧ ∃ Nx : Hp → Prop, (∀ H', Nx H' → ∃ m', m' < m ∧ W (i + 1) m' H') ∧ ∀ x H', J.yld i H x H' → tg x (L2.wipe σ vs) H' fun σ2 H2 => L2.wipe σ2 vs = L2.wipe σ vs ∧ tt σ2 H2 fun b H3 =>
        if b = true then te σ2 H3 fun y H4 => ∃ acc, H4 D = some (.lst acc) ∧ acc.length < sizeLine ∧ Nx (upd H4 D (.lst (acc ++ [y]))) else Nx H3) := by
  obtain ⟨G, Y, w, k⟩ := hw
  have start := hH.new hD (o := .lst []) (x := .lst []) ⟨[], rfl, .nil⟩
  have hpos : (c.new D).ρ st.length = D := by rw [← hH.n, new_self]
  have hlt : st.length < (c.new D).n := by show _ < c.n + 1; rw [hH.n]; exact Nat.lt_succ_self _
  have lD := le_new c D
  have hE0 : RE T P c (wipeE env vs) (L2.wipe σ vs) := hE.wipe vs hp
  generalize hn : st.length = n at hR hpos hlt
  refine lc_it w (fun i H => i ≤ us.length ∧ ∃ c1 st1, Le (c.new D) c1 ∧ RH T c1 st1 H ∧ ResG T Wx c σ (Rp T) (compM g gt mt me n (wipeE env vs) (us.drop i) st1) Q) ⟨Nat.zero_le _, _, _, Le.refl _, start, hR⟩ ?_ ?_ ?_
  · rintro i H hi ⟨_, c1, st1, l1, hH1, hR1⟩
    have hg' : g st1 := by
      cases q : us.drop i with
      | nil =>
        rw [q] at hR1
        unfold compM at hR1
        split at hR1
        · assumption
        · exact hR1.elim
      | cons u r =>
        rw [q] at hR1
        unfold compM at hR1
        split at hR1
        · assumption
        · exact hR1.elim
    exact (k c1 st1 H ((l.trans lD).trans l1) hH1 hg').1
  · rintro i x H H' hi ⟨_, c1, st1, l1, hH1, hR1⟩ y
    have hd : us.drop i = us[i] :: us.drop (i + 1) := List.drop_eq_getElem_cons hi
    rw [hd] at hR1
    unfold compM at hR1
    split at hR1
    · rename_i hg'
      obtain ⟨c2, u, hu, l2, hH2, r2⟩ := (k c1 st1 H ((l.trans lD).trans l1) hH1 hg').2 i x H' hi y
      have eu : us[i] = u := by
        rw [List.getElem?_eq_getElem hi] at hu
        exact Option.some.inj hu
      rw [eu] at hR1
      have hE2 : RE T P c2 (wipeE env vs) (L2.wipe σ vs) := hE0.mono ((lD.trans l1).trans l2)
      split at hR1
      · exact hR1.elim
      · rename_i env1 q
        refine hgw x σ _ _ (hg _ _ _ _ ⟨c2, wipeE env vs, st1, u, env1, hH2, hE2, r2, q, fun σ1 hE1 _ => ?_⟩)
        refine ht _ _ _ ⟨c2, env1, st1, hH2, hE1, ?_⟩
        split at hR1
        · rename_i st2 qt
          rw [qt]
          intro c3 b H3 l3 hH3 eb
          cases (show true = b from eb)
          rw [if_pos rfl]
          refine he _ _ _ ⟨c3, env1, st2, hH3, hE1.mono l3, ?_⟩
          split at hR1
          · rename_i w' st3 qe
            rw [qe]
            intro c4 z H4 l4 hH4 r4
            split at hR1
            · rename_i acc qa
              obtain ⟨vacc, h1, ra⟩ := hH4.at_lst qa
              have hl4 := ((l1.trans l2).trans l3).trans l4
              have e4 : c4.ρ n = D := (hl4.ρ n hlt).trans hpos
              rw [e4] at h1
              split at hR1
              · rename_i hz
                refine ⟨vacc, h1, by rw [szl, ← ra.length]; exact hz, hi, c4, _, hl4, ?_, hR1⟩
                have := hH4.set qa (fun z => nomatch z) (o' := .lst (acc ++ [w'])) (x := .lst (vacc ++ [z])) ⟨_, rfl, ra.append (.one r4)⟩
                rw [e4] at this
                exact this
              · exact hR1.elim
            · exact hR1.elim
          · exact hR1.elim
        · rename_i st2 qt
          rw [qt]
          intro c3 b H3 l3 hH3 eb
          cases (show false = b from eb)
          rw [if_neg Bool.false_ne_true]
          exact ⟨hi, c3, st2, (l1.trans l2).trans l3, hH3, hR1⟩
        · exact hR1.elim
    · exact hR1.elim
  · rintro H ⟨_, c1, st1, l1, hH1, hR1⟩
    rw [List.drop_length] at hR1
    unfold compM at hR1
    split at hR1
    · have e : V.ref D = V.ref (c1.ρ n) := by rw [l1.ρ n hlt, hpos]
      rw [e]
      exact hR1 c1 _ H (lD.trans l1) hH1 (.loc (Nat.lt_of_lt_of_le hlt l1.n))
    · exact hR1.elim
theorem wipe_get : ∀ (ws : List Nat) (ρ : L2.St) (j : Nat), (L2.wipe ρ ws)[j]? = if j ∈ ws then (ρ[j]?).map fun _ => none else ρ[j]? := by
  intro ws
  induction ws with
  | nil => intro ρ j; simp [L2.wipe]
  | cons w ws ih =>
    intro ρ j
    show ((L2.wipe ρ ws).set w none)[j]? = _
    by_cases h : w = j
    · subst h
      rw [List.getElem?_set]
      simp only [if_true, List.mem_cons, true_or, L2.wipe_length]
      by_cases hl : w < ρ.length
      · simp [hl]
      · simp [hl]
    · rw [List.getElem?_set_ne h, ih]
      have h' : ¬ j = w := fun z => h z.symm
      simp [h']
theorem wipe_set {σ : L2.St} {i : Nat} {x : Option V} {vs : List Nat} (hi : i ∈ vs) : L2.wipe (σ.set i x) vs = L2.wipe σ vs := by
  apply List.ext_getElem?
  intro j
  rw [wipe_get, wipe_get vs σ]
  by_cases hj : j ∈ vs
  · simp only [hj, if_true]
    by_cases h : i = j
    · subst h
      rw [List.getElem?_set]
      simp only [if_true]
      by_cases hl : i < σ.length
      · simp [hl]
      · simp [hl]
    · rw [List.getElem?_set_ne h]
  · have h : i ≠ j := fun z => hj (z ▸ hi)
    rw [if_neg hj, if_neg hj, List.getElem?_set_ne h]
theorem wipe_wipe {σ : L2.St} {vs : List Nat} : L2.wipe (L2.wipe σ vs) vs = L2.wipe σ vs := by
  apply List.ext_getElem?
  intro j
  rw [wipe_get, wipe_get]
  by_cases hj : j ∈ vs
  · simp only [hj, if_true]
    cases σ[j]? <;> rfl
  · rw [if_neg hj]
theorem gw_name {i : Nat} {vs : List Nat} (hi : i ∈ vs) : GW (gName i) vs := fun v σ H Q h =>
  have e : L2.wipe ((L2.wipe σ vs).set i (some v)) vs = L2.wipe σ vs := (wipe_set hi).trans wipe_wipe
  ⟨e, h e⟩
def GWs (t : TGs) (vs : List Nat) : Prop := ∀ (xs : List V) (σ σ' : L2.St) (H : Hp) (Q : L2.St → Hp → Prop), L2.wipe σ' vs = L2.wipe σ vs → (t xs σ' H fun σ3 H3 => L2.wipe σ3 vs = L2.wipe σ vs → Q σ3 H3) → t xs σ' H fun σ3 H3 => L2.wipe σ3 vs = L2.wipe σ vs ∧ Q σ3 H3
theorem gw_nil {vs : List Nat} : GWs gNil vs := fun xs σ σ' H Q e h => ⟨h.1, e, h.2 e⟩
theorem gw_cons {i : Nat} {vs : List Nat} {t : TGs} (hi : i ∈ vs) (ht : GWs t vs) : GWs (gCons (gName i) t) vs := fun xs σ σ' H Q e ⟨v, r, ev, h⟩ => ⟨v, r, ev, ht r σ _ H Q ((wipe_set hi).trans e) h⟩
theorem gw_tup {K : PySem.W.Frag} {n : Nat} {vs : List Nat} {t : TGs} (ht : GWs t vs) : GW (gTup K n t) vs := fun v σ H Q ⟨a, xs, e1, h1, h2, h⟩ => ⟨a, xs, e1, h1, h2, ht xs σ _ H Q wipe_wipe h⟩
/-- the reading of a comprehension -/
theorem lc_run {wi : TI} {tg : TG} {tt : TT} {te : TE} {mi : MI} {gt : MGt} {mt : MT} {me : ME} {vs : List Nat} (hi : ∀ σ H R, tiOf T P Wx mi σ H R → wi σ H R) (hg : ∀ v σ H Q, tgtOf T P gt v σ H Q → tg v σ H Q) (ht : ∀ σ H Q, ttOf T P Wx0 mt σ H Q → tt σ H Q) (he : ∀ σ H Q, teOf T P Wx0 me σ H Q → te σ H Q)
    (hgw : GW tg vs) (hp : ∀ i ∈ vs, pinned P i = false) (σ : L2.St) (H : Hp) (Q : VK) (h : teOf T P Wx (eComp mi gt mt me vs) σ H Q) : tLc wi tg tt te vs σ H Q := by
  obtain ⟨c, env, st, hH, hE, hR⟩ := h
  refine hi σ H _ ((tg_bind hH hE hR).mono fun J H1 ⟨p, c1, st1, l1, hH1, hE1, r1, hR1⟩ D hD => ?_)
  exact comp_run r1 hg ht he hp hgw (Le.refl c1) hH1 hE1 hD hR1
theorem pem_comp {elt tg iter : Expr} {ifs : List Expr} {scope : Scope} {own : List (Str × Nat)} {tgr : TG} {mi : MI} {gt : MGt} {mt : MT} {me : ME} (hc : X.calm = true) (hN : X.N.Nodup) (hi : PIm X T P Wx tg iter mi) (ok : BlkOk X.N X.env.scope scope own)
    (hg : ∀ (s : Shared) (H : Hp) (C : Addr) (cl : List (Str × Addr)) (fp : List Addr), PG (X.blk s H scope (compEnvC scope cl C X.env) fp) tg tgr) (hgr : ∀ v σ H Q, tgtOf T P gt v σ H Q → tgr v σ H Q) (hgw : GW tgr (own.map (·.2)))
    (ht : ∀ (s : Shared) (H : Hp) (C : Addr) (cl : List (Str × Addr)) (fp : List Addr), PTs (X.blk s H scope (compEnvC scope cl C X.env) fp) ifs (ttOf T P Wx0 mt))
    (he : ∀ (s : Shared) (H : Hp) (C : Addr) (cl : List (Str × Addr)) (fp : List Addr), PEm (X.blk s H scope (compEnvC scope cl C X.env) fp) T P Wx0 elt me) (hp : ∀ i ∈ own.map (·.2), pinned P i = false := by intro i _; rfl) (hs : ∀ x, foldedSetIterable iter X.env x = pure x := by intro _; rfl) :
    PEm X T P Wx (.ListComp elt [⟨tg, iter, ifs, 0⟩] scope pos) (eComp mi gt mt me (own.map (·.2))) :=
  PE.imp (pe_lc hc hN hi ok hg ht he hs) (lc_run (fun _ _ _ h => h) hgr (fun _ _ _ h => h) (fun _ _ _ h => h) hgw hp)
/-- name = [..] on one line: with the answer as it is (f id) or standing still (f scoped) -/
theorem psm_setLc {i : Nat} {y : Str} {py spos : Pos} {elt tg iter : Expr} {ifs : List Expr} {scope : Scope} {own : List (Str × Nat)} {tgr : TG} {mi : MI} {gt : MGt} {mt : MT} {me : ME} {m' : ME} (hm : ∀ σ H Q, teOf T P Wx m' σ H Q → teOf T P Wx (eComp mi gt mt me (own.map (·.2))) σ H Q)
    (hc : X.calm = true) (hN : X.N.Nodup) (hy : X.N[i]? = some y) (hyl : X.env.scope.names.lookup y = some .local)
    (hsw : swapsWith (.ListComp elt [⟨tg, iter, ifs, 0⟩] scope pos) (some (.Name y py)) spos.line X.env = pure true) (hi : PIm X T P Wx tg iter mi) (ok : BlkOk X.N X.env.scope scope own)
    (hg : ∀ (s : Shared) (H : Hp) (C : Addr) (cl : List (Str × Addr)) (fp : List Addr), PG (X.blk s H scope (compEnvC scope cl C X.env) fp) tg tgr) (hgr : ∀ v σ H Q, tgtOf T P gt v σ H Q → tgr v σ H Q) (hgw : GW tgr (own.map (·.2)))
    (ht : ∀ (s : Shared) (H : Hp) (C : Addr) (cl : List (Str × Addr)) (fp : List Addr), PTs (X.blk s H scope (compEnvC scope cl C X.env) fp) ifs (ttOf T P Wx0 mt))
    (he : ∀ (s : Shared) (H : Hp) (C : Addr) (cl : List (Str × Addr)) (fp : List Addr), PEm (X.blk s H scope (compEnvC scope cl C X.env) fp) T P Wx0 elt me) (hp : ∀ i ∈ own.map (·.2), pinned P i = false := by intro i _; rfl) (hpi : pinned P i = false := by rfl) (hs : ∀ x, foldedSetIterable iter X.env x = pure x := by intro _; rfl) :
    PSm X T P Wx (.Assign [.Name y py] (.ListComp elt [⟨tg, iter, ifs, 0⟩] scope pos) spos) (sAsg m' (gN i)) :=
  PS.imp (ps_setLc hc hN hy hyl hsw hi ok hg ht he hs) fun D σ H h => lc_run (fun _ _ _ h => h) hgr (fun _ _ _ h => h) (fun _ _ _ h => h) hgw hp σ H _ (hm σ H _ (asg_run (tg := gName i) (fun v σ H Q ⟨c, env, st, u, env', hH, hE, r, q, k⟩ => by
    cases q
    exact k _ (hE.set r i hpi)) D σ H h))
theorem scope_hm {m : ME} (σ : L2.St) (H : Hp) (Q : VK) (h : teOf T P Wx (eScope m) σ H Q) : teOf T P Wx m σ H Q := by
  obtain ⟨c, env, st, hH, hE, hR⟩ := h
  exact ⟨c, env, st, hH, hE, scope_res hH hR⟩
theorem ptsm_nil {σ : Unit} : PTs X [] (ttOf T P Wx0 tYes) := ⟨fun pins s σ H Q I h => by
  obtain ⟨c, env, st, hH, hE, hR⟩ := h
  exact pts_nil.run pins s σ H Q I (show L2.tYes σ H Q from ResG.ret (u := true) hR hH rfl)⟩
theorem ptsm_one {c : Expr} {mt : MT} (h : PTm X T P Wx0 c mt) : PTs X [c] (ttOf T P Wx0 mt) := pts_one h
end
end NK

set_option Elab.async false
set_option linter.all false
set_option maxRecDepth 100000
set_option maxHeartbeats 2000000
/-! NK7: methods of lists, stores, fields, defs and their calls, instances. -/
namespace NK
open PySem L2

/-! ### xs.append(e) -/
def fApp : U → List U → Sto → Out U := fun u ws st => match u with
  | .loc i => match ws, st[i]? with
    | [w], some (.lst us) => if us.length < 16777216 then .ok .non (st.set i (.lst (us ++ [w]))) else .bad
    | _, _ => .bad
  | _ => .bad
def isLoc : U → Sto → Bool := fun u st => match u with
  | .loc i => match st[i]? with
    | some (.lst _) => true
    | _ => false
  | _ => false
/-- o.m(..), o a list of the store -/
def eBM (f : U → List U → Sto → Out U) (mo : ME) (ma : MA) : ME := fun env st => (mo env st).bind fun x st1 => if isLoc x st1 = true then (ma env st1).bind fun ws st2 => f x ws st2 else .bad
def MtSim (T : Tb) (r : V → List V → Hp → VK → Prop) (f : U → List U → Sto → Out U) : Prop :=
  ∀ (Wx : WX) (c : Cn) (σ : L2.St) (st : Sto) (H : Hp) (u : U) (x : V) (us : List U) (xs : List V) (Q : VK), RH T c st H → Rp T c u x → RpL T c us xs → ResG T Wx c σ (Rp T) (f u us st) Q → r x xs H Q
section
variable {X : Cx} {T : Tb} {P : Pin} {Wx : WX} {o e : Expr} {es : List Expr} {mo m mi : ME} {ma : MA} {apos cpos pos : Pos}
theorem sim_app : MtSim T rAppend fApp := fun Wx c σ st H u x us xs Q hH ru r hR => by
  cases u with
  | loc i =>
    obtain ⟨hi, rfl⟩ := ru.inv_loc
    dsimp only [fApp] at hR
    split at hR
    · rename_i w us' es'
      obtain ⟨v, vs, rfl, r1, t⟩ := r.inv_cons
      cases t.inv_nil
      obtain ⟨ws, h1, r2⟩ := hH.at_lst es'
      split at hR
      · rename_i hz
        refine ⟨c.ρ i, ws, v, rfl, rfl, h1, by rw [szl, ← r2.length]; exact hz, ?_⟩
        exact hR c _ _ (Le.refl c) (hH.set es' (fun z => nomatch z) ⟨_, rfl, r2.append (.one r1)⟩) .non
      · exact hR.elim
    · exact hR.elim
  | _ => exact hR.elim
theorem pem_bm {r : V → List V → Hp → VK → Prop} {f : U → List U → Sto → Out U} (hs : MtSim T r f) (h : PE X e (tBM X.K "list" r (teOf T P Wx mo) (taOf T P Wx ma))) : PEm X T P Wx e (eBM f mo ma) :=
  PE.imp h fun σ H Q ⟨c, env, st, hH, hE, hR⟩ => by
    refine (tg_bind hH hE hR).mono fun x H1 ⟨u, c1, st1, l1, hH1, hE1, r1, hR1⟩ => ?_
    split at hR1
    · rename_i hl
      cases u with
      | loc i =>
        obtain ⟨hi, rfl⟩ := r1.inv_loc
        refine ⟨?_, ?_⟩
        · dsimp only [isLoc] at hl
          split at hl
          · rename_i us es'
            obtain ⟨vs, h1, _⟩ := hH1.at_lst es'
            exact .inl ⟨rfl, vs, SqL.of h1⟩
          · cases hl
        · refine (tg_bind hH1 hE1 hR1).mono fun ws H2 ⟨us, c2, st2, l2, hH2, hE2, r2, hR2⟩ => ?_
          exact hs Wx c2 σ st2 H2 (.loc i) _ us ws Q hH2 (r1.mono l2) r2 hR2
      | _ => cases hl
    · exact hR1.elim

/-! ### o[i] = e -/
def setIx (o i w : U) (st : Sto) : Option Sto := match o, i with
  | .loc n, .int k => match st[n]? with
    | some (.lst us) => match ixN us.length k with
      | some j => some (st.set n (.lst (us.set j w)))
      | none => none
    | _ => none
  | _, _ => none
def sSetIx (mo mi m : ME) : MS := fun env st => (m env st).st env fun w st1 => (mo env st1).st env fun o st2 => (mi env st2).st env fun i st3 => match setIx o i w st3 with
  | some st4 => .next env st4
  | none => .bad
theorem psm_setIx {s : Stmt} (h : PS X s (tAsg (teOf T P Wx m) (gSub (teOf T P Wx mo) (teOf T P Wx mi) rSetL))) : PSm X T P Wx s (sSetIx mo mi m) :=
  PS.imp h fun D σ H ⟨c, env, st, hH, hE, hR⟩ => by
    refine (ts_bind hH hE hR).mono fun x H1 ⟨w, c1, st1, l1, hH1, hE1, r1, hR1⟩ => ?_
    refine (ts_bind hH1 hE1 hR1).mono fun y H2 ⟨o, c2, st2, l2, hH2, hE2, r2, hR2⟩ => ?_
    refine (ts_bind hH2 hE2 hR2).mono fun z H3 ⟨i, c3, st3, l3, hH3, hE3, r3, hR3⟩ => ?_
    split at hR3
    · rename_i st4 q
      unfold setIx at q
      split at q
      · rename_i n k
        obtain ⟨hi, rfl⟩ := (r2.mono l3).inv_loc
        cases r3.inv_int
        split at q
        · rename_i us es'
          split at q
          · rename_i j ej
            cases q
            obtain ⟨vs, h1, r4⟩ := hH3.at_lst es'
            refine ⟨_, vs, _, j, rfl, rfl, h1, by rw [← r4.length]; exact ej, ?_⟩
            exact ResS.go (D := D) hR3 (hH3.set es' (fun z => nomatch z) ⟨_, rfl, r4.set j ((r1.mono l2).mono l3)⟩) hE3
          · cases q
        · cases q
      · cases q
    · exact hR3.elim

/-! ### fields -/
/-- what a class of the text must have for its field at place j -/
structure FldOk (T : Tb) (k j : Nat) (f : Str) : Prop where
  cl : Cls T.K (T.cls k)
  na : NoAttr T.K (T.cls k) f
  nm : (T.fld k)[j]? = some f
  nd : (T.fld k).Nodup
  sz : (T.fld k).length ≤ 900
theorem zip_lookup : ∀ {ns : List Str} {vs : List V} {j : Nat} {f : Str} {v : V}, ns.Nodup → ns[j]? = some f → vs[j]? = some v → (ns.zip vs).lookup f = some v
  | [], _, _, _, _, _, h, _ => by simp at h
  | _ :: _, [], _, _, _, _, _, h => by simp at h
  | n :: ns, w :: vs, 0, f, v, nd, h1, h2 => by
    simp at h1 h2
    subst h1 h2
    simp [List.lookup]
  | n :: ns, w :: vs, j + 1, f, v, nd, h1, h2 => by
    have nd' := List.nodup_cons.mp nd
    have h1' : ns[j]? = some f := by simpa using h1
    have ne : (f == n) = false := by
      rw [beq_eq_false_iff_ne]
      rintro rfl
      exact nd'.1 (List.mem_of_getElem? h1')
    simp only [List.zip_cons_cons, List.lookup, ne]
    exact zip_lookup nd'.2 h1' (by simpa using h2)
theorem zip_put : ∀ {ns : List Str} {vs : List V} {j : Nat} {f : Str} {y : V}, ns.Nodup → ns[j]? = some f → j < vs.length → putF f y (ns.zip vs) = ns.zip (vs.set j y)
  | [], _, _, _, _, _, h, _ => by simp at h
  | _ :: _, [], _, _, _, _, _, h => by simp at h
  | n :: ns, w :: vs, 0, f, y, nd, h1, h2 => by
    simp at h1
    subst h1
    simp [putF]
  | n :: ns, w :: vs, j + 1, f, y, nd, h1, h2 => by
    have nd' := List.nodup_cons.mp nd
    have h1' : ns[j]? = some f := by simpa using h1
    have ne : ¬ n = f := by
      rintro rfl
      exact nd'.1 (List.mem_of_getElem? h1')
    simp only [List.zip_cons_cons, List.set_cons_succ, putF, if_neg ne]
    rw [zip_put nd'.2 h1' (by simpa using h2)]
theorem zip_new : ∀ {ns : List Str} {vs : List V} {f : Str} {y : V}, ns.Nodup → ns[vs.length]? = some f → putF f y (ns.zip vs) = ns.zip (vs ++ [y])
  | [], vs, _, _, _, h => by simp at h
  | n :: ns, [], f, y, nd, h1 => by
    simp at h1
    subst h1
    simp [putF]
  | n :: ns, w :: vs, f, y, nd, h1 => by
    have nd' := List.nodup_cons.mp nd
    have h1' : ns[vs.length]? = some f := by simpa using h1
    have ne : ¬ n = f := by
      rintro rfl
      exact nd'.1 (List.mem_of_getElem? h1')
    simp only [List.zip_cons_cons, List.cons_append, putF, if_neg ne]
    rw [zip_new nd'.2 h1']
/-- an instance, still in the store or not -/
def asIns (u : U) (st : Sto) : Option (Nat × List U) := match u with
  | .ins k us => some (k, us)
  | .loc i => match st[i]? with
    | some (.ins k us) => some (k, us)
    | _ => none
  | _ => none
theorem asIns_at {c : Cn} {st : Sto} {H : Hp} (h : RH T c st H) {u : U} {v : V} {k : Nat} {us : List U} (r : Rp T c u v) (e : asIns u st = some (k, us)) : ∃ a dx vs, v = .ref a ∧ H a = some (.ins (T.cls k) dx ((T.fld k).zip vs)) ∧ vs.length ≤ (T.fld k).length ∧ RpL T c us vs := by
  cases u with
  | ins k' xs =>
    obtain ⟨a, dx, vs, rfl, h1, h2, h3⟩ := r.inv_ins
    cases e
    exact ⟨a, dx, vs, rfl, h.sub _ _ h1, h2, h3⟩
  | loc i =>
    obtain ⟨_, rfl⟩ := r.inv_loc
    dsimp only [asIns] at e
    split at e
    · rename_i k' us' q
      cases e
      obtain ⟨dx, vs, h1, h2, h3⟩ := h.at_ins q
      exact ⟨_, dx, vs, rfl, h1, h2, h3⟩
    · cases e
  | _ => cases e
def getF (k j : Nat) (u : U) (st : Sto) : Option U := match asIns u st with
  | some (k', us) => if k' = k then us[j]? else none
  | none => none
def eFld (k j : Nat) (m : ME) : ME := fun env st => (m env st).bind fun u st1 => match getF k j u st1 with
  | some w => .ok w st1
  | none => .bad
theorem pem_fld {f : Str} {k j : Nat} (hK : X.K = T.K) (F : FldOk T k j f) (h : PE X e (tFld X.K (teOf T P Wx m) f)) : PEm X T P Wx e (eFld k j m) := PE.imp h fun σ H Q ⟨c, env, st, hH, hE, hR⟩ => by
  refine (tg_bind hH hE hR).mono fun x H1 ⟨u, c1, st1, l1, hH1, hE1, r1, hR1⟩ => ?_
  split at hR1
  · rename_i w q
    unfold getF at q
    split at q
    · rename_i k' us e1
      split at q
      · rename_i ek
        subst ek
        obtain ⟨a, dx, vs, rfl, h1, h2, h3⟩ := asIns_at hH1 r1 e1
        obtain ⟨v, hv, rv⟩ := h3.get q
        rw [hK]
        exact ⟨a, _, dx, _, v, rfl, h1, F.cl, F.na, zip_lookup F.nd F.nm hv, hR1.ret hH1 rv⟩
      · cases q
    · cases q
  · exact hR1.elim
/-- o.f = e -/
def putFld (k j : Nat) (o w : U) (st : Sto) : Option Sto := match o with
  | .loc i => match st[i]? with
    | some (.ins k' us) => if k' = k then (if j < us.length then some (st.set i (.ins k (us.set j w))) else if j = us.length then some (st.set i (.ins k (us ++ [w]))) else none) else none
    | _ => none
  | _ => none
def sFld (k j : Nat) (mo m : ME) : MS := fun env st => (m env st).st env fun w st1 => (mo env st1).st env fun o st2 => match putFld k j o w st2 with
  | some st3 => .next env st3
  | none => .bad
theorem psm_fld {s : Stmt} {f : Str} {k j : Nat} (hK : X.K = T.K) (F : FldOk T k j f) (h : PS X s (L2.sFld X.K (teOf T P Wx mo) (teOf T P Wx m) f)) : PSm X T P Wx s (NK.sFld k j mo m) := PS.imp h fun D σ H ⟨c, env, st, hH, hE, hR⟩ => by
  refine (ts_bind hH hE hR).mono fun x H1 ⟨w, c1, st1, l1, hH1, hE1, r1, hR1⟩ => ?_
  refine (ts_bind hH1 hE1 hR1).mono fun y H2 ⟨o, c2, st2, l2, hH2, hE2, r2, hR2⟩ => ?_
  split at hR2
  · rename_i st3 q
    unfold putFld at q
    split at q
    · rename_i i
      obtain ⟨hi, rfl⟩ := r2.inv_loc
      split at q
      · rename_i k' us es'
        split at q
        · rename_i ek
          subst ek
          obtain ⟨dx, vs, h1, h2, h3⟩ := hH2.at_ins es'
          have hl : ((T.fld k').zip vs).length < 1000 := by
            have := F.sz
            rw [List.length_zip]
            omega
          have hj : j < (T.fld k').length := (List.getElem?_eq_some_iff.mp F.nm).1
          rw [hK]
          refine ⟨c2.ρ i, _, dx, _, rfl, h1, F.cl, F.na, hl, ?_⟩
          split at q
          · rename_i hlt
            cases q
            rw [zip_put F.nd F.nm (by rw [← h3.length]; exact hlt)]
            exact ResS.go (D := D) hR2 (hH2.set es' (fun z => nomatch z) ⟨dx, _, rfl, by rw [List.length_set]; exact h2, h3.set j (r1.mono l2)⟩) hE2
          · split at q
            · rename_i _ hje
              cases q
              rw [zip_new F.nd (by rw [← h3.length, ← hje]; exact F.nm)]
              exact ResS.go (D := D) hR2 (hH2.set es' (fun z => nomatch z) ⟨dx, _, rfl, by rw [List.length_append, List.length_singleton, ← h3.length, ← hje]; exact hj, h3.append (.one (r1.mono l2))⟩) hE2
            · cases q
        · cases q
      · cases q
    · cases q
  · exact hR2.elim

/-! ### defs and their calls -/
abbrev MF := List U → Sto → Out U
/-- what a mirrored def promises -/
def spOf (T : Tb) (n : Nat) (mf : MF) : Sp := fun vs H Q E => vs.length = n ∧ ∃ c us st, RH T c st H ∧ RpL T c us vs ∧ ResG T (fun cls d _ H => E cls d H) c [] (Rp T) (mf us st) Q
def runF (n : Nat) (mb : MS) : MF := fun us st => match mb (us.map some ++ List.replicate (n - us.length) none) st with
  | .ret u st' => .ok u st'
  | .next _ st' => .ok .non st'
  | .exc x _ st' => .exc x st'
  | _ => .bad
open PyProof.Rows (envOfC) in
theorem start_RE {c : Cn} {us : List U} {vs : List V} {N : List Str} (r : RpL T c us vs) : RE T none c (us.map some ++ List.replicate (N.length - us.length) none) (L2.start N vs) := by
  unfold L2.start
  refine ⟨by simp [r.length], fun i u h => ?_, fun p e => by cases e⟩
  by_cases hi : i < us.length
  · rw [List.getElem?_append_left (by simpa using hi), List.getElem?_map] at h
    cases q : us[i]? with
    | none => rw [q] at h; cases h
    | some w =>
      rw [q] at h
      cases h
      obtain ⟨v, hv, rv⟩ := r.get q
      exact ⟨v, by rw [List.getElem?_append_left (by rw [List.length_map, ← r.length]; exact hi), List.getElem?_map, hv]; rfl, rv⟩
  · rw [List.getElem?_append_right (by simpa using hi), List.getElem?_replicate] at h
    split at h <;> cases h
open PyProof.Rows (envOfC) in
theorem fun_okm {Pg : Program} {w : World} {K : PySem.W.Frag} {mg : Str → Option Value} {base : Heap} {x qual : Str} {st : Stmt} {f : Addr} {fd : FuncData} {N ps : List Str} {k : Nat} {mb : MS} (F : Fun K x qual st f fd) (S : FnScope N ps (defScope st))
    (hb : ∀ (cdv : Value) (A : Around) (outer : List PySem.Env) (s : Shared) (H : Hp) (E : XK), Room k (A.deeper (envOfC qual (defScope st) s.heap.objs.size f cdv)) →
      PSsm (cxOf (L2.CX Pg w) Pg w K mg base N qual (defScope st) f cdv A outer s H E) T none (fun cls d _ H => E cls d H) (defBody st) mb) : FnOk Pg w K mg base (L2.CX Pg w) (k + 1) f fd ps (spOf T ps.length (runF N.length mb)) := by
  refine F.okX S (fun vs H Q E h => h.1) (fun cdv A outer s H vs Q E hr h => ⟨_, hb cdv A outer s H E hr, ?_⟩)
  obtain ⟨hl, c, us, st0, hH, r, hR⟩ := h
  refine ⟨c, _, st0, hH, start_RE r, ?_⟩
  unfold runF at hR
  cases q : mb (us.map some ++ List.replicate (N.length - us.length) none) st0 with
  | ret u st' => rw [q] at hR; exact fun c' v H' a b d => hR c' v H' a b d
  | next env st' => rw [q] at hR; exact fun c' σ' H' a b d => hR c' .non H' a b .non
  | exc x' env st' => rw [q] at hR; exact fun c' cls d σ' H' a b _ e => hR c' cls d H' a b e
  | brk env st' => rw [q] at hR; exact hR.elim
  | cont env st' => rw [q] at hR; exact hR.elim
  | bad => rw [q] at hR; exact hR.elim
/-- the answer stands still, what the def laid is forgotten -/
noncomputable def fScope (mf : MF) : MF := fun us st => scopeOut st (mf us st)
theorem spOf_scope {n : Nat} {mf : MF} (vs : List V) (H : Hp) (Q : VK) (E : XK) (h : spOf T n (fScope mf) vs H Q E) : spOf T n mf vs H Q E := by
  obtain ⟨hl, c, us, st0, hH, r, hR⟩ := h
  exact ⟨hl, c, us, st0, hH, r, scope_res hH hR⟩
/-- another mirror of the same def -/
theorem spOf_eq {n : Nat} {mf mf' : MF} (h : ∀ us st, mf' us st = .bad ∨ mf' us st = mf us st) (vs : List V) (H : Hp) (Q : VK) (E : XK) (g : spOf T n mf' vs H Q E) : spOf T n mf vs H Q E := by
  obtain ⟨hl, c, us, st0, hH, r, hR⟩ := g
  refine ⟨hl, c, us, st0, hH, r, ?_⟩
  rcases h us st0 with q | q
  · rw [q] at hR; exact hR.elim
  · rw [q] at hR; exact hR
/-- f(e, ..) with the defaults dus behind -/
def eCall (n : Nat) (mf : MF) (dus : List U) (ma : MA) : ME := fun env st => (ma env st).bind fun us st1 => if (us ++ dus).length = n then mf (us ++ dus) st1 else .bad
theorem ResG.wish {α β : Type} {R : Cn → α → β → Prop} {c : Cn} {σ σ' : L2.St} {r : Out α} {Q : β → Hp → Prop} {W W' : WX} (h : ResG T W c σ R r Q) (k : ∀ cls d H, W cls d σ H → W' cls d σ' H) : ResG T W' c σ' R r Q := by
  cases r with
  | ok u st => exact h
  | exc x st => exact fun c' cls d H' a b e => k _ _ _ (h c' cls d H' a b e)
  | bad => exact h
theorem pem_call {k n : Nat} {f : Addr} {fd : FuncData} {ps : List Str} {mf : MF} {dus : List U} {dvs : List V} {ds : List Value} {x : Str} {p : Pos} (tk : Takes X Wx) (F : FnOk X.prog X.w X.K X.mg X.base (L2.CX X.prog X.w) k f fd ps (spOf T n mf)) (hr : Room k X.A) (hg : Gl X x) (hm : X.mg x = some (.ref f)) (hk : PySem.W.keepIn X.K (.ref f) = true) (hb : Binds X.K fd ps ds) (hd : Vals dvs ds)
    (hdr : ∀ c, RpL T c dus dvs) (hn : ps.length = n) (ha : PAm X T P Wx (e :: es) ma) (hdb : (x == ("__debug__" : Str)) = false := by decide) (he : starEach (e :: es) X.env = (false, eval e X.env) :: starEach es X.env := by rfl) (hpl : (backTo pos (starEach es X.env)).any (·.1) = false := by rfl) :
    PEm X T P Wx (.Call (.Name x p) (e :: es) [] pos) (eCall n mf dus ma) :=
  PE.imp (pe_callSD (E := fun σ cls d H => Wx cls d σ H) F hr hg hm hk hb hd (fun σ => passAt tk σ) ha hdb he hpl) fun σ H Q ⟨c, env, st, hH, hE, hR⟩ => by
    refine (tg_bind hH hE hR).mono fun vs H1 ⟨us, c1, st1, l1, hH1, hE1, r1, hR1⟩ => ?_
    split at hR1
    · rename_i hl
      have r2 := r1.append (hdr c1)
      exact ⟨by rw [← r2.length]; exact hl, c1, _, st1, hH1, r2, hR1.wish fun cls d H h => h⟩
    · exact hR1.elim
end
end NK

set_option Elab.async false
set_option linter.all false
set_option maxRecDepth 100000
set_option maxHeartbeats 2000000
/-! NK8: an own exception whose __init__ says super().__init__(..) and then stores its parameters. -/
namespace NK
open PySem L2

/-- ValueError.__init__ bound to an exception, called -/
theorem call_mw {P : Program} {w : World} {A : Around} {E : Value → Shared → Prop} {h : Heap} {g : Array GenState} {d : Drawn} {tk : Nat} {os : OsState} {x C t u N' : Addr} {nm qn : Str} {bs bm : List Value} {hdct : Bool} {sn : List Str} {sub : List Value} {ab : Bool} {col : Option Bool}
    {dd : Option Addr} {k0 k1 k2 k3 k5 : Option Value} {rest : List Value} {Q : Value → Shared → Prop} (hC : h.get? C = some (excClassObj nm qn C N' bs bm hdct sn sub ab col dd k0 k1 k2 k3 k5 "ValueError.__new__"))
    (hu : h.get? u = some (PySem.W.kxs_mw "ValueError.__init__" x)) (he : h.get? x = some (PySem.W.excObj C t none .none)) (hz : rest.length ≤ sizeLine)
    (fin : ∀ h' t', (∀ b o, b ≠ x → h.get? b = some o → h'.get? b = some o) → h'.get? x = some (PySem.W.excObj C t' none .none) → Q .none ⟨h', g, d, tk, os⟩) :
    wpAny (model P w) A (call (.ref u) rest) Q E ⟨h, g, d, tk, os⟩ := by
  refine wpAny_call (codeAny_of_tree ?_)
  show wpAny _ A.in1 (callAny (.ref u) ⟨rest, []⟩) _ _ _
  simp only [callAny]
  refine wpAny_bind (wpAny_load hu ?_)
  simp only [PySem.W.kxs_mw, show (Value.type "method-wrapper" == Value.type "method" || Value.type "method-wrapper" == Value.type "builtin_function_or_method" || Value.type "method-wrapper" == Value.type "method-wrapper") = true by decide, if_true]
  refine PySem.W.KFB.if_so (by decide) ?_
  refine wpAny_bind (PySem.W.check_bound_init F.excBase_ValueError.toExcCallFacts hC he rfl ?_)
  refine wpAny_bind (wpAny_pure (wpAny_pure ?_))
  refine ⟨plainId_quiet F.excBase_ValueError.init.plain _, codeAny_builtin F.excBase_ValueError.initEntry ?_⟩
  exact PySem.W.exc_init_tree (cls := .ref C) (t0 := t) (dv := none) (c2 := .none) (c3 := .none) (b4 := .bool false) he hz fun h' k e' _ => fin h' _ k e'

/-- the context of such an __init__'s body -/
def icx (P : Program) (w : World) (K : PySem.W.Frag) (mg : Str → Option Value) (base : Heap) (N : List Str) (qual : Str) (scope : Scope) (f : Addr) (cd : Value) (cc : Addr) (A : Around) (outer : List PySem.Env) (s : Shared) (H : Hp) (E : XK) : Cx where
  prog := P
  w := w
  K := K
  mg := mg
  base := base
  A := A.deeper (PySem.W.ksEnv qual scope s.heap.objs.size f cd cc)
  N := N
  s_0 := s
  H_0 := H
  env := PySem.W.ksEnv qual scope s.heap.objs.size f cd cc
  outer := outer
  stack := PySem.W.ksEnv qual scope s.heap.objs.size f cd cc :: outer
  ex := []
  calm := true
  fn := fun _ => false
  pn := []
  xe := fun e s' => wpAny (model P w) (A.deeper (PySem.W.ksEnv qual scope s.heap.objs.size f cd cc)) (leaving (PySem.W.ksEnv qual scope s.heap.objs.size f cd cc) e) (fun _ s'' => L2.CX P w outer H s E e s'') (fun e' s'' => L2.CX P w outer H s E e' s'') s'

/-- what the text must say of such an __init__ -/
structure Sup (P : Program) (K : PySem.W.Frag) (mg : Str → Option Value) (N ps : List Str) (sc : Scope) (C cda cc : Addr) : Prop where
  kind : sc.kind = .function
  co : sc.isCoroutine = false
  gen : sc.isGenerator = false
  nd : N.Nodup
  pre : N.take ps.length = ps
  par : ∀ x ∈ ps, sc.names.lookup x = some .local
  nocell : ∀ y ∈ sc.names, y.2 ≠ .cell
  free : ∀ y, sc.names.lookup y = some .free → y = ("__class__" : Str)
  ksup : sc.names.lookup ("super" : Str) = some .globalImplicit
  kcls : sc.names.lookup ("__class__" : Str) = some .free
  code : ∃ ccl cdd vs ccs file tf, K.lookup cda = some ⟨ccl, cdd, .fields vs, ccs⟩ ∧ vs[2]? = some (.str file tf) ∧ ((P.main.file : Str) == file) = true
  cell : ∃ cl cld csl, K.lookup cc = some ⟨cl, cld, .cell (some (.ref C)), csl⟩
  T : OexC K C
  sup : PySem.W.ks_superIn K C C "__init__" = some (some (.builtin "ValueError.__init__"))
  isV : PySem.W.subIn K (.ref C) (.type "ValueError") = some true
  self : PySem.W.mroIn K C (.ref C) = some true
  opq : PySem.W.nsIn K cStatics "thirdparty.any" = some none
  msup : mg "super" = none
  top : (P.main.scope.names.lookup ("super" : Str)).isSome = false

theorem zip_rev_lookup : ∀ {ps : List Str} {us : List Value} {i : Nat} {x : Str} {u : Value}, ps.Nodup → ps[i]? = some x → us[i]? = some u → (ps.zip us).reverse.lookup x = some u := by
  intro ps us i x u nd h1 h2
  have key : ∀ {l : List (Str × Value)} {r : List (Str × Value)}, (∀ v, (x, v) ∉ l) → (l ++ r).lookup x = r.lookup x := by
    intro l r
    induction l with
    | nil => intro _; rfl
    | cons a l ih =>
      intro h
      obtain ⟨y, v⟩ := a
      have ne : (x == y) = false := by
        rw [beq_eq_false_iff_ne]
        rintro rfl
        exact h v List.mem_cons_self
      simp only [List.cons_append, List.lookup, ne]
      exact ih fun v hv => h v (List.mem_cons_of_mem _ hv)
  induction ps generalizing us i with
  | nil => simp at h1
  | cons p ps ih =>
    cases us with
    | nil => simp at h2
    | cons w us =>
      have nd' := List.nodup_cons.mp nd
      simp only [List.zip_cons_cons, List.reverse_cons]
      cases i with
      | zero =>
        simp at h1 h2
        subst h1 h2
        rw [key fun v hv => nd'.1 (List.of_mem_zip (List.mem_reverse.mp hv)).1]
        simp [List.lookup]
      | succ i =>
        have q := ih (us := us) (i := i) nd'.2 (by simpa using h1) (by simpa using h2)
        have e : ∀ {l r : List (Str × Value)}, l.lookup x = some u → (l ++ r).lookup x = some u := by
          intro l r
          induction l with
          | nil => intro h; cases h
          | cons a l ih2 =>
            intro h
            obtain ⟨y, v⟩ := a
            simp only [List.cons_append, List.lookup] at h ⊢
            split
            · rename_i hh; rw [hh] at h; exact h
            · rename_i hh; rw [hh] at h; exact ih2 h
        exact e q

section
variable {P : Program} {w : World} {K : PySem.W.Frag} {mg : Str → Option Value} {base : Heap} {N ps : List Str} {qual : Str} {scope : Scope} {f cda cc C : Addr} {A : Around} {outer : List PySem.Env} {s : Shared} {H : Hp} {E : XK} {us : List Value} {vs : List V}
theorem inv_init {h1 : Heap} {tk : Nat} (S : Sup P K mg N ps scope C cda cc) (hd : A.handled = none) (e0 : Env0 P w K mg base A outer s H) (hl : vs.length = ps.length) (r : Vals vs us)
    (hns : h1.Ns s.heap.objs.size (fun x => (ps.zip us).reverse.lookup x)) (hk : ∀ b o, s.heap.get? b = some o → h1.get? b = some o) :
    Inv (icx P w K mg base N qual scope f (.ref cda) cc A outer s H E) [] (L2.start N vs) H { s with heap := h1, toks := tk } := by
  have hpl : ps.length ≤ N.length := by have := congrArg List.length S.pre; rw [List.length_take] at this; omega
  have noA : ∀ b : Addr, b ∉ (icx P w K mg base N qual scope f (.ref cda) cc A outer s H E).ex := fun b z => absurd (show b ∈ ([] : List Addr) from z) (by simp)
  have one : ∀ {x : Str} {c : Addr}, ([("__class__", cc)] : List (Str × Addr)).lookup x = some c → x = "__class__" ∧ c = cc := fun {x c} h => by
    simp only [List.lookup] at h
    split at h
    · rename_i hh
      exact ⟨beq_iff_eq.mp hh, (Option.some.inj h).symm⟩
    · cases h
  obtain ⟨cl, cld, csl, hcell⟩ := S.cell
  have cin : base.get? cc = some ⟨cl, cld, .cell (some (.ref C)), csl⟩ := e0.mod.kin _ _ hcell
  refine ⟨⟨e0.mod, S.kind, rfl, rfl, Nat.le_refl _, fun y z c h1 h2 => (one h1).1.trans (one h2).1.symm, fun y hy => ?_, fun y c h => (nomatch h), fun _ => hd, Around.frames_deeper e0.frames, .inr ⟨rfl, rfl⟩, fun b z => absurd z (noA b), e0.bs, e0.bsz, fun b _ _ => noA b, fun b z => absurd z (noA b), e0.funs, e0.frf⟩,
    rfl, e0.bare, Un.kept hk, ⟨_, hns, fun i y v h1 h2 h3 => ?_⟩, fun y c h => ?_, e0.hok.fresh (Nat.le_refl _), fun y c h => ?_, fun p hp => absurd (show p ∈ ([] : List (Addr × Obj)) from hp) (by simp), e0.hok.kept hk, ?_⟩
  · have hy : scope.names.lookup y = some .cell ∨ scope.names.lookup y = some .free := hy
    rcases hy with hy | hy
    · exact absurd rfl (S.nocell _ (PySem.mem_of_lookup hy))
    · rw [S.free y hy]
      exact ⟨cc, by show ([("__class__", cc)] : List (Str × Addr)).lookup ("__class__" : Str) = some cc; simp [List.lookup]⟩
  · have hi : i < vs.length := by
      unfold L2.start at h2
      by_cases hi : i < vs.length
      · exact hi
      · rw [List.getElem?_append_right (by simpa using hi)] at h2
        rw [List.getElem?_replicate] at h2
        split at h2 <;> cases h2
    have ha : vs[i]? = some v := by
      unfold L2.start at h2
      rw [List.getElem?_append_left (by simpa using hi), List.getElem?_map] at h2
      cases e : vs[i]? with
      | none => rw [e] at h2; cases h2
      | some a => rw [e] at h2; cases h2; rfl
    obtain ⟨u, hu, rv⟩ := r.get ha
    have hp : ps[i]? = some y := by
      rw [← S.pre, List.getElem?_take_of_lt (by omega)]; exact h1
    have ndP : ps.Nodup := by rw [← S.pre]; exact S.nd.sublist (List.take_sublist _ _)
    exact ⟨u, rv, .inl ⟨S.par y (List.mem_of_getElem? hp), zip_rev_lookup ndP hp hu⟩⟩
  · rw [(one h).2]
    exact ⟨_, _, hk _ _ (e0.bs _ _ cin).1, rfl⟩
  · rw [(one h).2]
    exact (e0.bs _ _ cin).2
  · unfold L2.start
    show _ = N.length
    rw [List.length_append, List.length_map, List.length_replicate]
    omega
end

/-- the exception that is being made, its fields so far -/
def IniAt (H0 : Hp) (a C : Addr) (fs : List (Str × V)) (H : Hp) : Prop :=
  (fs = [] ∧ H = upd H0 a (exo a C none)) ∨ ∃ d, H0 d = none ∧ d ≠ a ∧ H = upd (upd H0 d (exd d fs)) a (exo a C (some d))
/-- such an __init__'s promise: field j is parameter j -/
def spIni (C : Addr) (fs : List Str) : Sp := fun vs H Q _ => vs.length = fs.length + 1 ∧ ∃ a ws H0, vs = .ref a :: ws ∧ H0 a = none ∧ H = upd H0 a (exo a C none) ∧
  ∀ d, H0 d = none → d ≠ a → Q .non (upd (upd H0 d (exd d (fs.zip ws).reverse)) a (exo a C (some d)))
/-- the stores behind super().__init__(..) -/
inductive IniSts (X : Cx) (C : Addr) : Nat → List Stmt → List Str → Prop where
  | nil {i : Nat} : IniSts X C i [] []
  | cons {i : Nat} {f : Str} {fs : List Str} {eo ev : Expr} {p' pos : Pos} {r : List Stmt} (h1 : PE X eo (tVar 0)) (h2 : PE X ev (tVar i)) (h3 : PySem.W.findIn X.K (.ref C) f = some none)
      (hs : swapsWith ev (some (.Attribute eo f p')) pos.line X.env = pure false) (h : IniSts X C (i + 1) r fs) : IniSts X C i (.Assign [.Attribute eo f p'] ev pos :: r) (f :: fs)
def tIni (K : PySem.W.Frag) (C : Addr) (i : Nat) (fs : List Str) : TS := fun D σ H => ∃ a H0 done ws, σ[0]? = some (some (.ref a)) ∧ OexC K C ∧ H0 a = none ∧ IniAt H0 a C done H ∧ done.length + fs.length ≤ 900 ∧ ws.length = fs.length ∧
  (∀ j v, ws[j]? = some v → σ[i + j]? = some (some v)) ∧ ∀ H', IniAt H0 a C ((fs.zip ws).reverse ++ done) H' → D.nx σ H'
theorem ini_sts {X : Cx} {C : Addr} {i : Nat} {sts : List Stmt} {fs : List Str} (h : IniSts X C i sts fs) : PSs X sts (tIni X.K C i fs) := by
  induction h with
  | nil =>
    refine PSs.imp pss_nil fun D σ H ⟨a, H0, done, ws, _, _, _, h4, _, h6, _, h8⟩ => ?_
    exact h8 H (by simpa using h4)
  | @cons i f fs eo ev p' pos r h1 h2 h3 hs h ih =>
    refine PSs.imp (pss_cons (ps_ost h1 h2 hs) ih) fun D σ H ⟨a, H0, done, ws, q1, q2, q3, q4, q5, q6, q7, q8⟩ => ?_
    obtain ⟨v, ws', rfl⟩ : ∃ v ws', ws = v :: ws' := by
      cases ws with
      | nil => simp at q6
      | cons v ws' => exact ⟨v, ws', rfl⟩
    have qv := q7 0 v rfl
    refine ⟨v, by simpa using qv, .ref a, q1, a, C, rfl, q2, h3, ?_⟩
    have more : ∀ H', IniAt H0 a C ((f, v) :: done) H' → tIni X.K C (i + 1) fs D σ H' := fun H' k => by
      refine ⟨a, H0, _, ws', q1, q2, q3, k, by simp at q5 ⊢; omega, by simpa using q6, fun j u e => ?_, fun H2 k2 => q8 H2 ?_⟩
      · have := q7 (j + 1) u (by simpa using e)
        rw [← this]
        congr 1
        omega
      · simpa [List.append_assoc] using k2
    rcases q4 with ⟨rfl, rfl⟩ | ⟨d, n1, n2, rfl⟩
    · refine .inl ⟨upd_same, fun dx nd ne => more _ (.inr ⟨dx, ?_, ne, ?_⟩)⟩
      · rwa [upd_ne ne] at nd
      · funext b
        by_cases hb : b = a
        · rw [hb, upd_same, upd_same]
        · rw [upd_ne hb, upd_ne hb]
          by_cases hd : b = dx
          · rw [hd, upd_same, upd_same]
          · rw [upd_ne hd, upd_ne hd, upd_ne hb]
    · refine .inr ⟨d, done, upd_same, by rw [upd_ne n2, upd_same], by simp at q5; omega, more _ (.inr ⟨d, n1, n2, ?_⟩)⟩
      funext b
      by_cases hd : b = d
      · rw [hd, upd_same, upd_ne n2, upd_same]
      · rw [upd_ne hd]
        by_cases hb : b = a
        · rw [hb, upd_same, upd_same]
        · rw [upd_ne hb, upd_ne hb, upd_ne hd, upd_ne hd]

/-- values that ask for nothing -/
def Tot (n : Nat) (t : TA) : Prop := ∀ (σ : L2.St) (H : Hp) (Q : List V → Hp → Prop), (∀ i, i < n → ∃ v, σ[i]? = some (some v)) → (∀ vs, vs.length ≤ 1000 → Q vs H) → t σ H Q

theorem init_ok {P : Program} {w : World} {K : PySem.W.Frag} {mg : Str → Option Value} {base : Heap} {N ps fs : List Str} {k : Nat} {name qual : Str} {params : Arguments} {scope : Scope} {dV kV doc pm ct oc : Value} {an od : Option Addr} {osl : Array (Option Value)} {f cda cc C : Addr}
    {e : Expr} {es : List Expr} {p0 p1 p2 p3 p4 : Pos} {rest : List Stmt} {ar : Arg}
    (lk : K.lookup f = some ⟨oc, od, .func (PySem.W.ksFn name qual params (.Expr (.Call (.Attribute (.Call (.Name "super" p0) [] [] p1) "__init__" p2) (e :: es) [] p3) p4 :: rest) scope dV kV doc pm an (.ref cda) ct cc), osl⟩)
    (hcd : PySem.W.codeIn K (.ref cda) qual = true) (S : Sup P K mg N ps scope C cda cc) (har : (params.posonlyargs ++ params.args).head? = some ar) (hself : N[0]? = some ar.arg) (hnf : ps.length = fs.length + 1) (hfs : fs.length ≤ 900) (hne : fs ≠ [])
    (hargs : ∀ (A : Around) (outer : List PySem.Env) (s : Shared) (H : Hp) (E : XK), ∃ t, PA (icx P w K mg base N qual scope f (.ref cda) cc A outer s H E) (e :: es) t ∧ Tot ps.length t)
    (hrest : ∀ (A : Around) (outer : List PySem.Env) (s : Shared) (H : Hp) (E : XK), IniSts (icx P w K mg base N qual scope f (.ref cda) cc A outer s H E) C 1 rest fs)
    (he : ∀ L, starEach (e :: es) (PySem.W.ksEnv qual scope L f (.ref cda) cc) = (false, eval e (PySem.W.ksEnv qual scope L f (.ref cda) cc)) :: starEach es (PySem.W.ksEnv qual scope L f (.ref cda) cc) := by intro _; rfl)
    (hpl : ∀ L, (backTo p3 (starEach es (PySem.W.ksEnv qual scope L f (.ref cda) cc))).any (·.1) = false := by intro _; rfl)
    (hsw : ∀ L, swapsWith (.Call (.Attribute (.Call (.Name "super" p0) [] [] p1) "__init__" p2) (e :: es) [] p3) none p4.line (PySem.W.ksEnv qual scope L f (.ref cda) cc) = pure false := by intro _; rfl)
    {pl : Sem Bool} (hev : ∀ L, eval (.Call (.Attribute (.Call (.Name "super" p0) [] [] p1) "__init__" p2) (e :: es) [] p3) (PySem.W.ksEnv qual scope L f (.ref cda) cc) = (do
      let ov ← attributeBase (.Call (.Name "super" p0) [] [] p1) "__init__" (PySem.W.ksEnv qual scope L f (.ref cda) cc) (eval (.Call (.Name "super" p0) [] [] p1) (PySem.W.ksEnv qual scope L f (.ref cda) cc))
      standAt p2.atName
      let (f', first) ← holding [ov] (getMethod ov "__init__" pl)
      callWith p3 f' first (backTo p3 (starEach (e :: es) (PySem.W.ksEnv qual scope L f (.ref cda) cc))) []) := by intro _; rfl) :
    FnOk P w K mg base (L2.CX P w) (k + 1) f (PySem.W.ksFn name qual params (.Expr (.Call (.Attribute (.Call (.Name "super" p0) [] [] p1) "__init__" p2) (e :: es) [] p3) p4 :: rest) scope dV kV doc pm an (.ref cda) ct cc) ps (spIni C fs) := by
  refine ⟨fun vs H Q E h => h.1.trans hnf.symm, fun A outer s H args us vs Q E hr e0 hb r hsp => ?_⟩
  obtain ⟨hlen, a, ws, H0, rfl, n0, rfl, hq⟩ := hsp
  have hl : (V.ref a :: ws).length = ps.length := hlen.trans hnf.symm
  have KX : K.In s.heap := e0.mod.kin.keeps fun b o e => (e0.bs b o e).1
  have lim : s.heap.NoLimit := e0.mod.nolimit.keeps fun b o e => (e0.bs b o e).1
  obtain ⟨ccl, cdd, cvs, ccs, file, tf, hcode, hvs, hfile⟩ := S.code
  obtain ⟨cl, cld, csl, hcell⟩ := S.cell
  obtain ⟨nm, q, Nc, bs, bm, sn, sub, ab, col, dd, k0, k1, k2, k3, k5, hC, hbm⟩ := id S.T.cls
  have hcl : PySem.W.clsIn K C = some { name := nm, bases := bs, mro := .ref C :: bm, ns := Nc, qualname := q, hasDict := true, slotNames := sn, subclasses := sub, abstract := ab, collection := col, hasDel := false } := by unfold PySem.W.clsIn; rw [hC] <;> rfl
  refine ks_codeAny_call_defAt (fd := PySem.W.ksFn name qual params (.Expr (.Call (.Attribute (.Call (.Name "super" p0) [] [] p1) "__init__" p2) (e :: es) [] p3) p4 :: rest) scope dV kV doc pm an (.ref cda) ct cc) hr.depth (KX _ _ lk) rfl lim (PySem.W.codeRec_of KX hcd) rfl hb S.nocell
    (fun y hy => S.par y.1 (List.of_mem_zip hy).1) (fun h1 hns hk => ?_) S.co S.gen S.kind
  have I : Inv (icx P w K mg base N qual scope f (.ref cda) cc A outer s (upd H0 a (exo a C none)) E) [] (L2.start N (.ref a :: ws)) (upd H0 a (exo a C none)) { s with heap := h1, toks := s.toks + (ps.zip us).length } := inv_init S hr.hd e0 hl r hns hk
  have self_at : ∃ m, h1.Ns s.heap.objs.size m ∧ m ar.arg = some (.ref a) := by
    cases r with
    | @cons _ u0 _ ur ra rw' =>
      obtain rfl : u0 = Value.ref a := ra
      refine ⟨_, hns, zip_rev_lookup (i := 0) (by rw [← S.pre]; exact S.nd.sublist (List.take_sublist _ _)) ?_ rfl⟩
      rw [← S.pre, List.getElem?_take_of_lt (by omega)]
      exact hself
  have hps : ar.arg ∈ ps := by
    have : ps[0]? = some ar.arg := by rw [← S.pre, List.getElem?_take_of_lt (by omega)]; exact hself
    exact List.mem_of_getElem? this
  obtain ⟨hp0, g0, d0, t0, os0⟩ := s
  have KX1 : K.In h1 := KX.keeps hk
  obtain ⟨tx, hx1⟩ := exo_at I.hok (upd_same (a := a))
  have IA : PySem.W.InstAt h1 a _ C none := ⟨hx1, rfl, rfl, trivial⟩
  obtain ⟨oD, hD1, hD2⟩ : ∃ oD, h1.get? C = some oD ∧ oD.data = .cls { name := nm, bases := bs, mro := .ref C :: bm, ns := Nc, qualname := q, hasDict := true, slotNames := sn, subclasses := sub, abstract := ab, collection := col, hasDel := false } := ⟨_, KX1 _ _ hC, rfl⟩
  obtain ⟨ms, hms, hmself⟩ := self_at
  obtain ⟨mb, hb1, hb2⟩ := I.mod.blt
  have hint : interactive (PySem.W.ksEnv qual scope hp0.objs.size f (.ref cda) cc) = false := by
    unfold interactive
    show (scope.kind == _ && _) = false
    rw [S.kind]
    rfl
  refine ks_wpAt_execs_cons (ks_wpAt_Expr_any (ks_wpAt_MethodCall (pl := pl) ?_ (hev _)) hint (hsw _))
  refine ks_wpAt_super_base (env := PySem.W.ksEnv qual scope hp0.objs.size f (.ref cda) cc) S.ksup S.kcls (by decide) rfl (KX1 _ _ lk) rfl har rfl (KX1 _ _ hcode) rfl hvs hfile S.top ?_
  refine PySem.W.ks_loadName_global S.kind S.ksup (PySem.Calls.loadGlobal_builtin (env := PySem.W.ksEnv qual scope hp0.objs.size f (.ref cda) cc) (I.mod.glob.keeps I.bk) S.msup (hb1.keeps I.bk) ((hb2 _ (by decide +kernel)).trans PyProof.Rows.Boot.«super») ⟨rfl, ?_⟩)
  refine wpAny_loadName_free S.kind S.kcls rfl ⟨_, KX1 _ _ hcell, rfl⟩ ?_
  refine wpAny_loadName_local S.kind (S.par _ hps) hms hmself ?_
  refine ks_wpAny_isType_cls hD1 hD2 ⟨rfl, ?_⟩
  refine ks_wpAny_call_super hD1 hD2 IA.at_ IA.cls (fun c e => by cases e) (PySem.W.looks_mroIn KX1 S.self) (fun h2 e2 k2 => ?_)
  have KX2 : K.In h2 := KX1.keeps k2
  have I2 := I.kept (t' := t0 + (ps.zip us).length) k2
  have IA2 : PySem.W.InstAt h2 a _ C none := ⟨k2 _ _ hx1, rfl, rfl, trivial⟩
  have hm := S.sup
  unfold PySem.W.ks_superIn at hm
  rw [hcl] at hm
  refine PySem.W.kxs_getMethod PySem.W.kxs_ValueError e2 (PySem.W.looks_opaque KX2 S.opq) (l₀ := .ref C :: bm) (fun A Q E s k q => wpAny_bind ((PySem.W.looks_clsIn KX2 hcl) A _ E s k (wpAny_pure q))) rfl KX2 hm (IA2.type.andThen (PySem.W.looks_subIn KX2 S.isV)) (PySem.W.ks_ne KX2 IA2 hcl) (by decide) ?_
  have I3 := I2.kept (t' := t0 + (ps.zip us).length + 1) (h' := h2.push (PySem.W.kxs_mw "ValueError.__init__" a)) fun b o z => Heap.get?_push_of_some _ z
  have hu : (h2.push (PySem.W.kxs_mw "ValueError.__init__" a)).get? h2.objs.size = some (PySem.W.kxs_mw "ValueError.__init__" a) := Heap.get?_push_at rfl rfl
  have I4 := I3.pins_of (pins' := [(h2.objs.size, PySem.W.kxs_mw "ValueError.__init__" a)]) (fun p hp => by
    rcases List.mem_singleton.mp hp with rfl
    refine ⟨hu, I2.hok.fresh (Nat.le_refl _), (Nat.ne_of_lt I2.lt).symm, I2.nofs (Nat.le_refl _), fun v z => by cases z⟩)
  obtain ⟨ta, hta, htot⟩ := hargs A outer ⟨hp0, g0, d0, t0, os0⟩ (upd H0 a (exo a C none)) E
  show wpAny _ _ (callWith p3 (.ref h2.objs.size) [] (backTo p3 (starEach (e :: es) (PySem.W.ksEnv qual scope hp0.objs.size f (.ref cda) cc))) []) _ _ _
  have slots : ∀ i, i < ps.length → ∃ v, (L2.start N (.ref a :: ws))[i]? = some (some v) := fun i hi => by
    have hi' : i < (V.ref a :: ws).length := by omega
    refine ⟨(V.ref a :: ws)[i], ?_⟩
    unfold L2.start
    rw [List.getElem?_append_left (by simpa using hi'), List.getElem?_map, List.getElem?_eq_getElem hi']
    rfl
  have hrun := hta.run p3 _ _ _ _ (fun vs H1 => vs.length ≤ 1000 ∧ H1 = upd H0 a (exo a C none)) I4 (htot _ _ _ slots fun vs z => ⟨z, rfl⟩)
  have heE : starEach (e :: es) (icx P w K mg base N qual scope f (.ref cda) cc A outer ⟨hp0, g0, d0, t0, os0⟩ (upd H0 a (exo a C none)) E).env = _ := he hp0.objs.size
  rw [he]
  rw [heE] at hrun
  refine PySem.W.kxs_callWith (i := "ValueError.__init__") (x := a) (by show (false || (backTo p3 (starEach es _)).any (·.1)) = false; rw [hpl]; rfl) (PySem.Calls.evalArgs_plain (wpAny_mono hrun (fun vs s2 hv => ?_) fun _ _ x => x))
  obtain ⟨xs, H2, I5, rv, hz, rfl⟩ := hv
  have pin := (I5.pin (h2.objs.size, PySem.W.kxs_mw "ValueError.__init__" a) (List.mem_append_right _ (List.mem_singleton.mpr rfl))).1
  refine ⟨pin, ?_⟩
  obtain ⟨t5, hx5⟩ := exo_at I5.hok (upd_same (a := a))
  obtain ⟨h5, g5, d5, tk5, os5⟩ := s2
  refine call_mw (I5.kIn _ _ hC) pin hx5 (by show List.length _ ≤ sizeLine; rw [List.nil_append, ← Paired.length rv, sizeLine_eq]; omega) fun h6 t6 k6 hx6 => ?_
  have J := I5.write (t' := tk5) (x := a) (e := a) (o := exo a C none) (by rw [upd_same]; exact True.intro) (.inl rfl) k6 ⟨_, hx6⟩ (exo_ok hx6)
  have eu : upd (upd H0 a (exo a C none)) a (exo a C none) = upd H0 a (exo a C none) := by
    funext b
    by_cases hb : b = a
    · rw [hb, upd_same, upd_same]
    · rw [upd_ne hb, upd_ne hb]
  rw [eu] at J
  have J' := J.pins_of (pins' := []) fun p hp => absurd hp (by simp)
  have J0 : Inv (icx P w K mg base N qual scope f (.ref cda) cc A outer ⟨hp0, g0, d0, t0, os0⟩ (upd H0 a (exo a C none)) E) [] (L2.start N (.ref a :: ws)) (upd H0 a (exo a C none)) ⟨h6, g5, d5, tk5, os5⟩ :=
    ⟨J.ok, J.os, J.bare, J.base, J.loc, J.cell, J.free, J.freeC, fun p hp => absurd (show p ∈ ([] : List (Addr × Obj)) from hp) (by simp), J.hok, J.len⟩
  have hread : tIni K C 1 fs { nx := fun _ H' => Q .non H', rt := Q } (L2.start N (.ref a :: ws)) (upd H0 a (exo a C none)) := by
    refine ⟨a, H0, [], ws, ?_, S.T, n0, .inl ⟨rfl, rfl⟩, by simpa using hfs, by simpa using hlen, fun j v e => ?_, fun H' k => ?_⟩
    · unfold L2.start
      rfl
    · have hj : 1 + j < (V.ref a :: ws).length := by
        have := (List.getElem?_eq_some_iff.mp e).1
        simp
        omega
      unfold L2.start
      rw [List.getElem?_append_left (by simpa using hj), List.getElem?_map, Nat.add_comm, List.getElem?_cons_succ, e]
      rfl
    · rcases k with ⟨z, rfl⟩ | ⟨d, n1, n2, rfl⟩
      · exfalso
        have wl : ws.length = fs.length := by simpa using hlen
        cases fs with
        | nil => exact hne rfl
        | cons y ys =>
          cases ws with
          | nil => simp at wl
          | cons z2 zs => simp at z
      · simpa using hq d n1 n2
  refine wpAt_of_wpAny (wpAny_mono ((ini_sts (hrest A outer ⟨hp0, g0, d0, t0, os0⟩ (upd H0 a (exo a C none)) E)).run [] _ _ _ _ J0 hread) (fun fl s' hs => ?_) fun e s' hs => hs)
  have fin : ∀ {σ' : L2.St} {H' : Hp} {v : V} {u : Value}, Inv (icx P w K mg base N qual scope f (.ref cda) cc A outer ⟨hp0, g0, d0, t0, os0⟩ (upd H0 a (exo a C none)) E) [] σ' H' s' → RelV v u → Q v H' → CE outer P w (upd H0 a (exo a C none)) ⟨hp0, g0, d0, t0, os0⟩ Q u s' :=
    fun {σ' H' v u} J rv q => ⟨v, H', J.os, J.bare, J.base, J.hok, rv, q⟩
  cases fl with
  | ret u =>
    obtain ⟨v, σ', H', J, rv, q⟩ := hs
    exact fin J rv q
  | next =>
    obtain ⟨σ', H', J, q⟩ := hs
    exact fin (v := V.non) (u := Value.none) J rfl q
  | brk =>
    obtain ⟨_, _, _, q⟩ := hs
    exact False.elim q
  | cont =>
    obtain ⟨_, _, _, q⟩ := hs
    exact False.elim q
end NK

set_option Elab.async false
set_option linter.all false
set_option maxRecDepth 100000
set_option maxHeartbeats 2000000
namespace PySem.W
open PySem PySem.Spec PySem.Calls PyProof.Rows
section
variable {prog : Program} {w : World} {A : Around} {E : Value → Shared → Prop} {s : Shared} {K : Frag} {x D : Addr} {ox od : Obj}
theorem nk_kin_classE {Q : Option Value → Shared → Prop} (hga : findIn K (.ref D) "__getattribute__" = some (some (.builtin "BaseException.__getattribute__"))) (hgt : findIn K (.ref D) "__getattr__" = some none) (hsub : subIn K (.ref D) (.type "BaseException") = some true)
    (hdct : hasDictIn K D = true) (ha : findIn K (.ref D) "__class__" = some (some (.builtin "object.__class__")))
    (hn : specialIn K (.builtin "object.__class__") "__get__" = some (some (.builtin "getset_descriptor.__get__"))) (htk : takesIn K (.builtin "object.__class__") = some true) (hm : mroIn K D (.type "object") = some true)
    (X : K.In s.heap) (I : InstAt s.heap x ox D (some od)) (h : Q (some (.ref D)) { s with toks := s.toks + 1 }) : wpAny (model prog w) A (getAttr? (.ref x) "__class__") Q E s := by
  have hf : findObj K D (some od) "__class__" = some (.bind (.builtin "getset_descriptor.__get__") (.builtin "object.__class__")) := findObj_data (by obtain ⟨cd, hc, _⟩ := any_some hdct; rw [hc]; rfl) ha hn htk
  obtain ⟨hp, g, d, t, os⟩ := s
  have L0 := I.type (M := model prog w)
  have L1 := looks_findIn (M := model prog w) X hga
  have L2 := looks_findIn (M := model prog w) X hgt
  have L3 := looks_find (M := model prog w) X I hf
  have sub : Looks (model prog w) hp (isInstance (.ref x) (.type "BaseException")) true := L0.andThen (looks_subIn X hsub)
  have hx0 : (false && onTheHeap (Value.builtin "BaseException.__getattribute__")) = false := rfl
  have hx2 : (Value.builtin "BaseException.__getattribute__" == Value.builtin "object.__getattribute__") = false := by decide +kernel
  have hx1 : (onTheHeap (Value.ref D) && Value.builtin "BaseException.__getattribute__" == Value.builtin "object.__getattribute__") = false := by rw [hx2]; rfl
  unfold getAttr? getAttrBy? getAttrBy
  refine wpAny_bind (wpAny_mkText (wpAny_bind (wpAny_attempt (wpAny_holding (wpAny_bind (L0.at (wpAny_bind (L1.at ?_))))))))
  show wpAny _ _ (if (onTheHeap (Value.ref D) && Value.builtin "BaseException.__getattribute__" == Value.builtin "object.__getattribute__") = true then _ else _) _ _ _
  rw [hx1, if_neg Bool.false_ne_true]
  unfold getAttrByItsOwn hookBefore
  refine wpAny_bind ?_
  rw [if_pos (show onTheHeap (Value.ref D) = true from rfl)]
  refine L2.at ?_
  refine wpAny_bind (wpAny_attempt (wpAny_holding ?_))
  unfold callGetattribute
  rw [hx0, if_neg Bool.false_ne_true]
  unfold boundAndCalled
  rw [PySem.F.excAttr_ValueError.ga.bind (.ref x)]
  refine wpAny_bind (wpAny_pure ?_)
  show wpAny _ _ (call (.builtin "BaseException.__getattribute__") [.ref x, .str "__class__" t]) _ _ _
  refine wpAny_call (codeAny_call_builtin PySem.F.excAttr_ValueError.ga.plain PySem.F.entry_bexc_ga ?_)
  refine @check_slot (model prog w) _ _ ⟨hp, g, d, t + 1, os⟩ "BaseException.__getattribute__" "BaseException" "__getattribute__" (.ref x) [.str "__class__" t] [] _ (by decide +kernel) (by decide +kernel) sub (PySem.F.args_bexc_ga (.ref x) (.str "__class__" t)) ?_
  unfold Builtin.«object.__getattribute__»
  refine wpAny_bind (wpAny_of_eq (a := ((Value.ref x : Value), [Value.str "__class__" t])) (by first | rfl | (simp only [slotArgs]; rfl)) ?_)
  refine wpAny_bind (wpAny_pure (wpAny_bind (L0.at (wpAny_bind (L3.at ?_)))))
  show wpAny _ _ (holding [Value.builtin "object.__class__"] (call (.builtin "getset_descriptor.__get__") [.builtin "object.__class__", .ref x, .ref D]) >>= ret) _ _ _
  refine wpAny_bind (wpAny_holding (wpAny_call (class_get (s := ⟨hp, g, d, t + 1, os⟩) (ox := ox) (od := some od) X I hm ?_)))
  refine wpAny_pure ?_
  show wpAny _ _ (handedOut (.ref D)) _ _ _
  rw [handedOut_of (v := .ref D) rfl]
  first
    | exact wpAny_pure (wpAny_pure h)
    | exact wpAny_pure h
    | exact wpAny_pure (wpAny_bind (wpAny_pure (wpAny_pure h)))
theorem nk_kitx_exc (hga : findIn K (.ref D) "__getattribute__" = some (some (.builtin "BaseException.__getattribute__"))) (hgt : findIn K (.ref D) "__getattr__" = some none) (hsub : subIn K (.ref D) (.type "BaseException") = some true) (hdct : hasDictIn K D = true) (ha : findIn K (.ref D) "__class__" = some (some (.builtin "object.__class__")))
    (hn : specialIn K (.builtin "object.__class__") "__get__" = some (some (.builtin "getset_descriptor.__get__"))) (htk : takesIn K (.builtin "object.__class__") = some true) (hm : mroIn K D (.type "object") = some true) :
    KitX K (.ref x) (.ref D) (fun h => InstAt h x ox D (some od)) where
  ty := fun _ _ _ I => I.type
  it := fun _ _ X _ => by
    obtain ⟨cdD, hcD, _⟩ := any_some hdct
    unfold clsIn at hcD
    split at hcD
    · rename_i c' d' cd' sl' ho
      intro A' Q' E' s' k q
      unfold isType loadHead
      exact wpAny_bind (wpAny_loadPart (k _ _ (X _ _ ho)) (wpAny_pure q))
    · cases hcD
  ne := fun h tp dd its n sl X htp => by
    obtain ⟨cdD, hcD, _⟩ := any_some hdct
    refine Bool.eq_false_iff.mpr fun q => ?_
    have e : D = tp := Value.ref.inj (beq_iff_eq.mp q)
    subst e
    unfold clsIn at hcD
    split at hcD
    · rename_i c' d' cd' sl' ho
      have z := (X _ _ ho).symm.trans htp
      cases z
    · cases hcD
  ca := fun X I k => nk_kin_classE hga hgt hsub hdct ha hn htk hm X I k
end
end PySem.W
/-! NK9: raise, try, what the suite asks of the exception. -/
namespace NK
open PySem L2

def sRaise (k n : Nat) (ma : MA) : MS := fun env st => (ma env st).st env fun us st1 => if us.length = n then .exc ⟨k, us⟩ env st1 else .bad
section
variable {X : Cx} {T : Tb} {P : Pin} {Wx : WX} {e : Expr} {es : List Expr} {ma : MA} {pos pos' p : Pos}
theorem upd_del {H : Hp} {a d : Addr} {o1 o2 o3 : HO} (ha : H a = none) (hd : d ≠ a) : upd (del (upd (upd H d o1) a o2) a) d o3 = upd H d o3 := by
  funext b
  by_cases hb : b = d
  · rw [hb, upd_same, upd_same]
  · rw [upd_ne hb, upd_ne hb]
    by_cases hc : b = a
    · rw [hc, del_same, ha]
    · rw [del_ne hc, upd_ne hc, upd_ne hb]
theorem psm_raise {k kk n : Nat} {x : Str} {fI : Addr} {fd : FuncData} {ps : List Str} (hc : X.calm = true) (tk : Takes X Wx) (OT : OexC X.K (T.cls k)) (iC : PySem.W.findIn X.K (.ref (T.cls k)) "__init__" = some (some (.ref fI))) (tI : PySem.W.typeIn X.K (.ref fI) = some (.type "function"))
    (F1 : FnOk X.prog X.w X.K X.mg X.base (L2.CX X.prog X.w) kk fI fd ps (spIni (T.cls k) (T.fld k))) (hr : Room (kk + 1) X.A) (hb : Binds X.K fd ps []) (hg : Gl X x) (hm : X.mg x = some (.ref (T.cls k))) (hn : (T.fld k).length = n) (hsz : n ≤ 900) (ha : PAm X T P Wx (e :: es) ma)
    (hdb : (x == ("__debug__" : Str)) = false := by decide) (he : starEach (e :: es) X.env = (false, eval e X.env) :: starEach es X.env := by rfl) (hpl : (backTo pos (starEach es X.env)).any (·.1) = false := by rfl) :
    PSm X T P Wx (.Raise (some (.Call (.Name x p) (e :: es) [] pos)) none pos') (sRaise k n ma) :=
  PS.imp (ps_raise hc tk (pmk_oex OT iC tI F1 hr hb .nil (passes_call tk fun _ _ _ _ h => h.elim) hg hm ha hdb he hpl)) fun D σ H ⟨c, env, st, hH, hE, hR⟩ => by
    refine (ts_bind hH hE hR).mono fun vs H1 ⟨us, c1, st1, l1, hH1, hE1, r1, hR1⟩ => ?_
    split at hR1
    · rename_i hl
      have hvl : vs.length = n := by rw [← r1.length]; exact hl
      refine ⟨by omega, fun a na => ⟨by rw [List.append_nil, List.length_cons, hvl, hn], a, vs, H1, by rw [List.append_nil], na, rfl, fun d nd ne => ⟨rfl, d, _, upd_same, by rw [upd_ne ne, upd_same], nd, ?_⟩⟩⟩
      rw [upd_del na ne]
      refine hR1 (c1.still d _) _ _ σ _ (le_still hH1 nd _) (hH1.still nd _) (hE1.mono (le_still hH1 nd _)) ⟨rfl, d, vs, rfl, ?_, by rw [hvl, hn], r1.mono (le_still hH1 nd _)⟩
      show upd c1.F d _ d = _
      rw [upd_same]
    · exact hR1.elim

/-! ### try: .. except C as x: .. -/
def SO.unI (r : SO) (i : Nat) : SO := match r with
  | .next env st => .next (env.set i none) st
  | .ret u st => .ret u st
  | .brk env st => .brk (env.set i none) st
  | .cont env st => .cont (env.set i none) st
  | .exc _ _ _ => .bad
  | .bad => .bad
/-- isK: of each class of the text, is it caught -/
def sTry (mb : MS) (isK : List Bool) (i : Nat) (suite : Ex → MS) : MS := fun env st => match mb env st with
  | .exc x env1 st1 => match isK[x.k]? with
    | some true => if i < env1.length then (suite x (env1.set i none) st1).unI i else .bad
    | some false => .exc x env1 st1
    | none => .bad
  | .next env st => .next env st
  | .ret u st => .ret u st
  | .brk env st => .brk env st
  | .cont env st => .cont env st
  | .bad => .bad
theorem psm_try {x n : Str} {C : Addr} {i : Nat} {body suite : List Stmt} {b₀ : Stmt} {np : Pos} {mb : MS} {ms : Ex → MS} {isK : List Bool} (hs : X.stack = X.env :: X.outer) (hf : X.env.frame = some X.env.locals) (hN : X.N.Nodup) (hi : X.N[i]? = some n) (hln : X.env.kindOf n = some .local) (hc : Names X x (.ref C)) (tk : Takes X Wx)
    (hex : ∀ (k : Nat) (b : Bool), isK[k]? = some b → PySem.W.exmOne X.K (.ref (T.cls k)) (.ref C) = some b)
    (hb : ∀ (W : WX) (pn : List (Addr × Obj)) (xe : Value → Shared → Prop), Takes (X.tr pn xe) W → PassesOwn (model X.prog X.w) X.A X.env xe → PSsm (X.tr pn xe) T none W body mb)
    (hsu : ∀ (a : Addr) (oe : Obj) (cls : Value) (d : Option Addr) (pn : List (Addr × Obj)) (x : Ex), Zc cls d oe → (∃ vs, oe.data = .fields vs) → PSsm (X.suite a ((a, oe) :: pn)) T (some ⟨i, a, x, cls, d⟩) Wx0 (b₀ :: suite) (ms x)) :
    PSm X T none Wx (.Try body [.ExceptHandler (some (.Name x np)) (some n) (b₀ :: suite) pos'] [] [] pos) (sTry mb isK i ms) :=
  PS.imp (ps_try_as (tb := fun W => tsOf T none W mb) (ts := fun a cls d D σ H => ∃ x, tsOf T (some ⟨i, a, x, cls, d⟩) Wx0 (ms x) D σ H) hs hf hN hi hln hc tk (fun W pn xe t o => hb W pn xe t o)
    (fun a oe cls d pn hz hv => ⟨fun pins s σ H D I ⟨x, h⟩ => (hsu a oe cls d pn x hz hv).run pins s σ H D I h⟩)) fun D σ H ⟨c, env, st, hH, hE, hR⟩ => by
    refine ⟨c, env, st, hH, hE, ?_⟩
    unfold sTry at hR
    cases q : mb env st with
    | next env1 st1 => rw [q] at hR; exact hR
    | ret u st1 => rw [q] at hR; exact hR
    | brk env1 st1 => rw [q] at hR; exact hR
    | cont env1 st1 => rw [q] at hR; exact hR
    | bad => rw [q] at hR; exact hR
    | exc x1 env1 st1 =>
      rw [q] at hR
      intro c1 cls d σ1 H1 l1 hH1 hE1 rx
      cases qk : isK[x1.k]? with
      | none => simp only [qk] at hR; exact hR.elim
      | some b =>
        simp only [qk] at hR
        obtain ⟨e1, e2⟩ := id rx
        refine ⟨b, by rw [e1]; exact hex _ _ qk, fun hb' a na => ?_, fun hb' => ?_⟩
        · subst hb'
          dsimp only at hR
          split at hR
          · rename_i hi'
            have hi2 : i < σ1.length := by rw [← hE1.len]; exact hi'
            refine ⟨x1, c1, env1.set i none, st1, hH1, ⟨by simp [hE1.len], fun j u e => ?_, fun p hp => ?_⟩, ?_⟩
            · by_cases hj : i = j
              · subst hj
                rw [List.getElem?_set_self hi'] at e
                cases e
              · rw [List.getElem?_set_ne hj] at e
                rw [List.getElem?_set_ne hj]
                exact hE1.get j u e
            · cases hp
              exact ⟨by rw [List.getElem?_set_self hi2], rx⟩
            · have back : ∀ {c' : Cn} {env' : Env} {σ' : L2.St}, RE T (some ⟨i, a, x1, cls, d⟩) c' env' σ' → RE T none c' (env'.set i none) (σ'.set i none) := fun {c' env' σ'} r => by
                refine ⟨by simp [r.len], fun j u e => ?_, fun p hp => by cases hp⟩
                by_cases hj : i = j
                · subst hj
                  have hj2 : i < env'.length := by
                    have := (List.getElem?_eq_some_iff.mp e).1
                    simpa using this
                  rw [List.getElem?_set_self hj2] at e
                  cases e
                · rw [List.getElem?_set_ne hj] at e
                  rw [List.getElem?_set_ne hj]
                  exact r.get j u e
              cases qs : ms x1 (env1.set i none) st1 with
              | next env2 st2 => rw [qs] at hR; exact fun c2 σ2 H2 l2 hH2 hE2 => hR c2 _ H2 (l1.trans l2) hH2 (back hE2)
              | ret u st2 => rw [qs] at hR; exact fun c2 v H2 l2 hH2 r2 => hR c2 v H2 (l1.trans l2) hH2 r2
              | brk env2 st2 => rw [qs] at hR; exact fun c2 σ2 H2 l2 hH2 hE2 => hR c2 _ H2 (l1.trans l2) hH2 (back hE2)
              | cont env2 st2 => rw [qs] at hR; exact fun c2 σ2 H2 l2 hH2 hE2 => hR c2 _ H2 (l1.trans l2) hH2 (back hE2)
              | exc x2 env2 st2 => rw [qs] at hR; exact hR.elim
              | bad => rw [qs] at hR; exact hR.elim
          · exact hR.elim
        · subst hb'
          exact hR c1 cls d σ1 H1 l1 hH1 hE1 rx

/-! ### within the suite -/
theorem zrl : ∀ {ps : List Str} {us : List V} {i : Nat} {x : Str} {u : V}, ps.Nodup → ps[i]? = some x → us[i]? = some u → (ps.zip us).reverse.lookup x = some u := by
  intro ps us i x u nd h1 h2
  have key : ∀ {l : List (Str × V)} {r : List (Str × V)}, (∀ v, (x, v) ∉ l) → (l ++ r).lookup x = r.lookup x := by
    intro l r
    induction l with
    | nil => intro _; rfl
    | cons a l ih =>
      intro h
      obtain ⟨y, v⟩ := a
      have ne : (x == y) = false := by
        rw [beq_eq_false_iff_ne]
        rintro rfl
        exact h v List.mem_cons_self
      simp only [List.cons_append, List.lookup, ne]
      exact ih fun v hv => h v (List.mem_cons_of_mem _ hv)
  induction ps generalizing us i with
  | nil => simp at h1
  | cons p ps ih =>
    cases us with
    | nil => simp at h2
    | cons w us =>
      have nd' := List.nodup_cons.mp nd
      simp only [List.zip_cons_cons, List.reverse_cons]
      cases i with
      | zero =>
        simp at h1 h2
        subst h1 h2
        rw [key fun v hv => nd'.1 (List.of_mem_zip (List.mem_reverse.mp hv)).1]
        simp [List.lookup]
      | succ i =>
        have q := ih (us := us) (i := i) nd'.2 (by simpa using h1) (by simpa using h2)
        have e : ∀ {l r : List (Str × V)}, l.lookup x = some u → (l ++ r).lookup x = some u := by
          intro l r
          induction l with
          | nil => intro h; cases h
          | cons a l ih2 =>
            intro h
            obtain ⟨y, v⟩ := a
            simp only [List.cons_append, List.lookup] at h ⊢
            split
            · rename_i hh; rw [hh] at h; exact h
            · rename_i hh; rw [hh] at h; exact ih2 h
        exact e q
/-- x.f, x the caught exception: its field j -/
def eExf (k j : Nat) (x : Ex) : ME := fun _ st => if x.k = k then (match x.us[j]? with
  | some u => .ok u st
  | none => .bad) else .bad
theorem pem_exf {k j i : Nat} {a : Addr} {oe : Obj} {cls : Value} {d : Option Addr} {pn : List (Addr × Obj)} {x : Ex} {f : Str} (hK : X.K = T.K) (XT : XfC X.K (T.cls k)) (nm : (T.fld k)[j]? = some f) (nd : (T.fld k).Nodup) (hno : PySem.W.findIn X.K (.ref (T.cls k)) f = some none)
    (hz : Zc cls d oe) (hf : ∃ vs, oe.data = .fields vs) (he : PE (X.suite a ((a, oe) :: pn)) e (tVar i)) (hb : attributeBase e f X.env (eval e X.env) = eval e X.env := by rfl) : PEm (X.suite a ((a, oe) :: pn)) T (some ⟨i, a, x, cls, d⟩) Wx (.Attribute e f pos) (eExf k j x) :=
  PE.imp (pe_xf XT hno hz hf he hb) fun σ H Q ⟨c, env, st, hH, hE, hR⟩ => by
    obtain ⟨h1, e1, dx, vs, e2, e3, e4, e5⟩ := hE.pin _ rfl
    unfold eExf at hR
    split at hR
    · rename_i hk
      split at hR
      · rename_i u q
        obtain ⟨v, hv, rv⟩ := e5.get q
        dsimp only at e1 e2 e3 e4 hv rv h1 hk
        rw [hk] at e1 e3
        refine ⟨.ref a, h1, rfl, e1, dx, _, v, e2, hH.sub _ _ e3, zrl nd nm hv, hR.ret hH rv⟩
      · exact hR.elim
    · exact hR.elim
/-- isinstance(x, C), x the caught exception -/
def rIsE2 (K : PySem.W.Frag) (a : Addr) (cls : Value) (d : Option Addr) : List V → Hp → VK → Prop := fun xs H Q => ∃ (D C dd : Addr) (fs : List (Str × V)) (b : Bool), xs = [.ref a, .ref C] ∧ cls = .ref D ∧ ExcC K D ∧ d = some dd ∧ H dd = some (.xd fs) ∧ PySem.W.kitOne K (.ref D) (.ref C) = some b ∧ Q (.bl b) H
theorem call_isE2 {a : Addr} {cls : Value} {d : Option Addr} {oe : Obj} {pn : List (Addr × Obj)} (hz : Zc cls d oe) (hf : ∃ vs, oe.data = .fields vs) : CallR (X.suite a ((a, oe) :: pn)) (.builtin "isinstance") (rIsE2 X.K a cls d) := by
  intro pins s σ H xs us Q I r h
  obtain ⟨D, C', dd, fs, b, rfl, rfl, C, rfl, ea, e, q⟩ := h
  cases r with
  | cons rx rr =>
    cases rr with
    | cons rt rr =>
      cases rr
      cases rx
      cases rt
      obtain ⟨hget, _⟩ := I.pin (a, oe) (List.mem_append.mpr (.inl List.mem_cons_self))
      obtain ⟨vs, hv⟩ := hf
      have hx : ObjOk X.prog X.w H s.heap dd (.xd fs) := I.hok dd _ ea
      obtain ⟨mA, hns, hr⟩ := hx
      obtain ⟨od, ho, hl⟩ := lookIn_ns hns
      have J : PySem.W.InstAt s.heap a oe D (some od) := ⟨hget, hz.1, by unfold PySem.W.notCls; rw [hv] <;> rfl, by rw [hz.2]; exact ho⟩
      exact PySem.W.kia_one (PySem.W.nk_kitx_exc C.hg C.hk C.hs C.hd C.ha C.hn C.ht C.hm) I.kIn J e (fun z => nomatch z) fun tk => ⟨.bl b, H, I.tok tk, rfl, q⟩
def eIsE (isK : List Bool) (x : Ex) : ME := fun _ st => match isK[x.k]? with
  | some b => .ok (.bl b) st
  | none => .bad
theorem pem_isE {i : Nat} {a C : Addr} {oe : Obj} {cls : Value} {d : Option Addr} {pn : List (Addr × Obj)} {x : Ex} {e2 : Expr} {isK : List Bool} (hex : ∀ (k : Nat) (b : Bool), isK[k]? = some b → ExcC X.K (T.cls k) ∧ PySem.W.kitOne X.K (.ref (T.cls k)) (.ref C) = some b)
    (hz : Zc cls d oe) (hf : ∃ vs, oe.data = .fields vs) (he : PE (X.suite a ((a, oe) :: pn)) e (tVar i)) (he2 : PE (X.suite a ((a, oe) :: pn)) e2 (tC (.ref C))) (hg : Gl (X.suite a ((a, oe) :: pn)) "isinstance") (hm : X.mg "isinstance" = none)
    (hs : starEach [e, e2] X.env = (false, eval e X.env) :: starEach [e2] X.env := by rfl) (hs2 : starEach [e2] X.env = (false, eval e2 X.env) :: starEach [] X.env := by rfl) (hpl : (backTo pos (starEach [e2] X.env)).any (·.1) = false := by rfl) :
    PEm (X.suite a ((a, oe) :: pn)) T (some ⟨i, a, x, cls, d⟩) Wx (.Call (.Name "isinstance" p) [e, e2] [] pos) (eIsE isK x) :=
  PE.imp (pe_callB (call_isE2 hz hf) hg hm PyProof.Rows.Boot.«isinstance» (pa_cons he (pa_cons he2 pa_nil hs2) hs) (by decide) (by decide) hs hpl) fun σ H Q ⟨c, env, st, hH, hE, hR⟩ => by
    obtain ⟨h1, e1, dx, vs, e2, e3, e4, e5⟩ := hE.pin _ rfl
    unfold eIsE at hR
    split at hR
    · rename_i b q
      obtain ⟨k1, k2⟩ := hex _ _ q
      exact ⟨.ref a, h1, T.cls x.k, C, dx, _, b, rfl, e1, k1, e2, hH.sub _ _ e3, k2, hR.ret hH (.bl b)⟩
    · exact hR.elim
end
end NK

set_option Elab.async false
set_option linter.all false
set_option maxRecDepth 100000
set_option maxHeartbeats 4000000
/-! NK10: set comprehensions of ints (after HandS.SetBool's rule for truth values). -/
namespace NK
section
open PySem PySem.Spec PyProof.Rows L2 PpSet
theorem addO_ok {X : Cx} {pins : List (Addr × Obj)} {σ : L2.St} {H : Hp} {s : Shared} {E : Value → Shared → Prop} {D : Addr} {S : Int → Bool} {n : Nat} {y : Int} {tk : Tok} {Q : Value → Shared → Prop} (I : Inv X pins σ H s) (hD : H D = some (SetO X.w D S n)) (room : n + 1 < scanBound)
    (h : ∀ s', Inv X pins σ (L2.upd H D (SetO X.w D (fun j => S j || decide (j = y)) (if S y = true then n else n + 1))) s' → Q .none s') : wpAny (model X.prog X.w) X.A (call (.builtin "set.add") [.ref D, .int y tk]) Q E s := by
  have R := setO_get I hD
  refine setR_add R room fun h' sb new => ?_
  have he : ∃ u, h'.get? D = some u := by
    have ⟨o, _, _, _, ho, _⟩ := new
    exact ⟨o, ho⟩
  exact h _ (I.write (e := D) (t' := s.toks + 1) (by rw [hD]; trivial) (.inl rfl) (fun b u hb hu => (sb.2 b hb).trans hu) he (setO_new new))
section
variable {X : Cx}
/-- {elt for target in iter if ..}, elt an int: D the new set -/
def tScI (w : World) (wi : TI) (g : TG) (tt : TT) (te : TE) (vs : List Nat) : TE := fun σ H Q => wi σ H fun J H1 => ∀ D, H1 D = none → ∃ W : Nat → Nat → Hp → Prop, (∃ m, W 0 m (upd H1 D (SetO w D (fun _ => false) 0))) ∧ ∀ i m H, W i m H →
  (J.stop i H ∧ Q (.ref D) H) ∨ (J.go i H ∧ ∃ Nx : Hp → Prop, (∀ H', Nx H' → ∃ m', m' < m ∧ W (i + 1) m' H') ∧ ∀ x H', J.yld i H x H' → g x (wipe σ vs) H' fun σ2 H2 => wipe σ2 vs = wipe σ vs ∧ tt σ2 H2 fun b H3 =>
    if b = true then te σ2 H3 fun y H4 => ∃ (c : Int) (S : Int → Bool) (n : Nat), y = .int c ∧ H4 D = some (SetO w D S n) ∧ n + 1 < scanBound ∧ Nx (upd H4 D (SetO w D (fun j => S j || decide (j = c)) (if S c = true then n else n + 1))) else Nx H3)
theorem scI_core {pins : List (Addr × Obj)} {s : Shared} {σ : L2.St} {H : Hp} {Q : VK} {elt tg iter : Expr} {ifs : List Expr} {scope : Scope} {own : List (PySem.Str × Nat)} {pos pos' : Pos} {wi : TI} {g : TG} {tt : TT} {te : TE} {use : Option (Value → Sem Unit)} {Qf : Value → Shared → Prop}
    (hc : X.calm = true) (hN : X.N.Nodup) (I : Inv X pins σ H s) (hi : PI X tg iter wi) (ok : BlkOk X.N X.env.scope scope own)
    (hg : ∀ (s : Shared) (H : Hp) (C : Addr) (cl : List (PySem.Str × Addr)) (fp : List Addr), PG (X.blk s H scope (compEnvC scope cl C X.env) fp) tg g) (ht : ∀ (s : Shared) (H : Hp) (C : Addr) (cl : List (PySem.Str × Addr)) (fp : List Addr), PTs (X.blk s H scope (compEnvC scope cl C X.env) fp) ifs tt)
    (he : ∀ (s : Shared) (H : Hp) (C : Addr) (cl : List (PySem.Str × Addr)) (fp : List Addr), PE (X.blk s H scope (compEnvC scope cl C X.env) fp) elt te) (hs : ∀ x, foldedSetIterable iter X.env x = pure x)
    (h : tScI X.w wi g tt te (own.map (·.2)) σ H Q)
    (hRR : ∀ D C s' m H', Inv X pins σ H' s' → Q (.ref D) H' → s'.heap.Ns C m → FpOk X pins H' C → compPost (model X.prog X.w) X.A X.xe use Qf (.ref D) C (.ok .next) s') :
    wpAny (model X.prog X.w) X.A (comprehension (.SetComp elt [⟨tg, iter, ifs, 0⟩] scope pos) scope X.env pos' (newSet (.type "set")) false (eval iter X.env) use) Qf X.xe s := by
  have hfree : ∀ y ∈ scope.names, y.2 = .free → ∃ c, X.env.cells.lookup y.1 = some c := fun y hy e => by
    rcases ok.free y hy e with k | k
    · exact I.ok.has _ (.inl k)
    · exact I.ok.has _ (.inr k)
  refine wpAny_comprehension_free (use := use) rfl hs (closure_ok hfree) ok.kind (fun y hy e => by rw [ok.uniq y hy, e])
    (thn (hi.run pins s σ H _ I h) fun xv s1 hx => thn hx fun itv s2 h2 => ?_)
  obtain ⟨it, fp, tn, J, H2, e, I2, T, st2, f2, q⟩ := h2
  subst e
  refine newSet_ok (newEnv_comp ?_)
  generalize hD : s2.heap.objs.size = D
  have hDn : H2 D = none := I2.hok.fresh (Nat.le_of_eq hD)
  obtain ⟨W, ⟨m0, w0⟩, turn⟩ := q D hDn
  -- the new list
  generalize hs3 : ({ s2 with heap := s2.heap.push { cls := .type "set", dict := none, data := .set #[] 0 (.fresh 0 0 (!X.w.params.followText "set-order")) } } : Shared) = s3
  have I3 : Inv X pins σ (upd H2 D (SetO X.w D (fun _ => false) 0)) s3 := by
    rw [← hs3]
    refine I2.laid (t' := s2.toks) (fun b o e => Heap.get?_push_of_some _ e) (Nat.le_of_eq hD) ?_
    rw [← hD]
    exact setO_new (setR_fresh X.w)
  have h3 : s3.heap = s2.heap.push { cls := .type "set", dict := none, data := .set #[] 0 (.fresh 0 0 (!X.w.params.followText "set-order")) } := by rw [← hs3]
  have sz : ∀ b ∈ fp, b < s2.heap.objs.size := fun b hb => by
    obtain ⟨o, e, _⟩ := T.obj _ _ st2 b hb
    exact Heap.lt_size e
  have f3 : ∀ b ∈ fp, FpOk X pins (upd H2 D (SetO X.w D (fun _ => false) 0)) b ∧ b < s3.heap.objs.size := fun b hb => by
    have hlt := sz b hb
    refine ⟨⟨?_, (f2 b hb).2⟩, by rw [h3, Heap.size_push]; exact Nat.lt_succ_of_lt hlt⟩
    rw [upd_ne (by rw [← hD]; exact Nat.ne_of_lt hlt)]
    exact (f2 b hb).1
  have st3 : tn 0 s3.heap := T.keep _ _ _ st2 fun b _ o e => by rw [h3]; exact Heap.get?_push_of_some _ e
  have I4 := block_start I3 ok hN f3
  have pg := hg s3 (upd H2 D (SetO X.w D (fun _ => false) 0)) s3.heap.objs.size (cellsFrom (s3.heap.objs.size + 1) scope.names (cloFrom X.env.cells scope.names [])) fp
  have pt := ht s3 (upd H2 D (SetO X.w D (fun _ => false) 0)) s3.heap.objs.size (cellsFrom (s3.heap.objs.size + 1) scope.names (cloFrom X.env.cells scope.names [])) fp
  have pe := he s3 (upd H2 D (SetO X.w D (fun _ => false) 0)) s3.heap.objs.size (cellsFrom (s3.heap.objs.size + 1) scope.names (cloFrom X.env.cells scope.names [])) fp
  show codeAny _ _ (.compStart (.SetComp elt [⟨tg, iter, ifs, 0⟩] scope pos) 0 (.ref it) (.ref D) (compEnvC scope (cellsFrom (s3.heap.objs.size + 1) scope.names (cloFrom X.env.cells scope.names [])) s3.heap.objs.size X.env)) (compPost (model X.prog X.w) X.A X.xe use Qf (.ref D) s3.heap.objs.size) { s3 with heap := pushCells (s3.heap.push { cls := .type "dict", data := .dict #[] }) scope.names }
  have nfp : ∀ b ∈ fp, (upd H2 D (SetO X.w D (fun _ => false) 0)) b = none := fun b hb => (f3 b hb).1.1
  generalize hce : compEnvC scope (cellsFrom (s3.heap.objs.size + 1) scope.names (cloFrom X.env.cells scope.names [])) s3.heap.objs.size X.env = ce at I4 pg pt pe ⊢
  have cL : ce.locals = s3.heap.objs.size := by subst hce; rfl
  generalize hH3 : upd H2 D (SetO X.w D (fun _ => false) 0) = H3 at I3 I4 pg pt pe w0 nfp f3
  generalize hs4 : ({ s3 with heap := pushCells (s3.heap.push { cls := .type "dict", data := .dict #[] }) scope.names } : Shared) = s4 at I4 ⊢
  have st4 : tn 0 s4.heap := T.keep _ _ _ st3 fun b _ o e => by rw [← hs4]; exact pushCells_keeps _ _ _ _ (Heap.get?_push_of_some _ e)
  have stat : ∀ {σ' : L2.St} {H' : Hp} {s' : Shared}, Inv (X.blk s3 H3 scope ce fp) [] σ' H' s' → (∀ b ∈ fp, H' b = none) → ∀ b ∈ fp, FpOk (X.blk s3 H3 scope ce fp) [] H' b := fun {σ' H' s'} I' hn b hb =>
    ⟨hn b hb, (I'.ok.exf b hb).1, I'.ok.exfs b hb, .inl hb, fun x c e => (I'.ok.exf b hb).2 x c e, fun p hp => absurd (show p ∈ ([] : List (Addr × Obj)) ++ [] from hp) (by simp)⟩
  have loop : codeAny (model X.prog X.w) X.A (.compLoop (.SetComp elt [⟨tg, iter, ifs, 0⟩] scope pos) 0 (.ref it) (.ref D) ce) (compPost (model X.prog X.w) X.A X.xe use Qf (.ref D) s3.heap.objs.size) s4 := by
    refine compLoopS_any (fun n s' => ∃ i H', Inv (X.blk s3 H3 scope ce fp) [] (wipe σ (own.map (·.2))) H' s' ∧ tn i s'.heap ∧ (∀ b ∈ fp, H' b = none) ∧ W i n H') ?_ m0 ⟨0, H3, I4, st4, nfp, w0⟩
    rintro n s5 ⟨i, H5, I5, st5, n5, w5⟩
    rcases turn i n H5 w5 with ⟨stop, qq⟩ | ⟨go, Nx, hNx, step⟩
    · have td := T.done (X.blk s3 H3 scope ce fp) rfl rfl rfl hc i [] s5 _ H5 (fun _ _ => False) I5 (stat I5 n5) st5 stop
      refine thnF td fun r s6 ⟨hr, I6⟩ => ?_
      subst hr
      -- back in the def's context
      have I7 : Inv X pins σ H5 s6 := I3.call' (ch := fp) I6.os I6.base I6.hok I6.bare fun b hb => ⟨(f3 b hb).1.2.2.2.1, (f3 b hb).1.2.1, (f3 b hb).1.2.2.2.2.1, (f3 b hb).1.2.2.2.2.2⟩
      have nC : H5 s3.heap.objs.size = none := by
        have z : H5 ce.locals = none := I6.free
        rw [cL] at z
        exact z
      obtain ⟨m, hn, _⟩ := I6.loc
      have hn : s6.heap.Ns ce.locals m := hn
      rw [cL] at hn
      exact hRR D s3.heap.objs.size s6 m H5 I7 qq hn (I3.fpOk (Nat.le_refl _) nC)
    · have ti := T.item (X.blk s3 H3 scope ce fp) rfl rfl rfl hc i [] s5 _ H5 (fun _ _ => False) I5 (stat I5 n5) st5 go
      refine thnF ti fun r s6 ⟨u, hr, h6⟩ => ?_
      subst hr
      refine thnF h6 fun _ s7 ⟨x, H7, I7, r7, y7, st7, n7⟩ => ?_
      have I7' := I7.pinned (stat I7 n7) (T.obj _ _ st7)
      refine thnF (pg.run _ s7 _ H7 x u _ I7' r7 (step x H7 y7)) fun _ s8 ⟨σ8, H8, I8, hw8, q8⟩ => ?_
      refine thnF (pt.run _ s8 σ8 H8 _ I8 q8) fun b s9 ⟨H9, I9, q9⟩ => ?_
      -- the turn's end
      have fin : ∀ {s' : Shared} {H' : Hp}, Inv (X.blk s3 H3 scope ce fp) ([] ++ pinsAt fp s7.heap) σ8 H' s' → Nx H' → ∃ m, m < n ∧ ∃ i H', Inv (X.blk s3 H3 scope ce fp) [] (wipe σ (own.map (·.2))) H' s' ∧ tn i s'.heap ∧ (∀ b ∈ fp, H' b = none) ∧ W i m H' := fun {s' H'} I' nx => by
        obtain ⟨m', hm, w'⟩ := hNx H' nx
        have pin' : ∀ b ∈ fp, ∀ o, s7.heap.get? b = some o → s'.heap.get? b = some o ∧ H' b = none := fun b hb o e =>
          let z := I'.pin (b, o) (List.mem_append_right _ (List.mem_append_right _ (mem_pinsAt hb e)))
          ⟨z.1, z.2.1⟩
        have hl : (wipe σ (own.map (·.2))).length = σ8.length := by rw [← hw8, wipe_length]
        refine ⟨m', hm, i + 1, H', (I'.unpinned (pins := [])).weak hl (fun j v e => ?_), T.keep _ _ _ st7 fun b hb o e => (pin' b hb o e).1, fun b hb => ?_, w'⟩
        · rw [← hw8] at e
          exact (wipe_some e).1
        · obtain ⟨o, e, _⟩ := T.obj _ _ st7 b hb
          exact (pin' b hb o e).2
      cases b with
      | false =>
        simp only [Bool.false_eq_true, if_false] at q9 ⊢
        exact fin I9 q9
      | true =>
        simp only [if_true] at q9 ⊢
        refine thnF (pe.run _ s9 σ8 H9 _ I9 q9) fun z s10 ⟨yv, H10, I10, r10, cb, S0, n0, ey, hD10, hz10, nx⟩ => ?_
        subst ey
        obtain ⟨tkz, rfl⟩ := (show ∃ t, z = Value.int cb t from r10)
        exact addO_ok (X := X.blk s3 H3 scope ce fp) I10 hD10 hz10 fun s11 I11 => fin I11 nx
  exact codeAny_compStart_set loop (T.self X.A 0 _ _ _ st4 loop)
/-- as a value -/
theorem pe_scI {elt tg iter : Expr} {ifs : List Expr} {scope : Scope} {own : List (PySem.Str × Nat)} {pos : Pos} {wi : TI} {g : TG} {tt : TT} {te : TE} (hc : X.calm = true) (hN : X.N.Nodup) (hi : PI X tg iter wi) (ok : BlkOk X.N X.env.scope scope own)
    (hg : ∀ (s : Shared) (H : Hp) (C : Addr) (cl : List (PySem.Str × Addr)) (fp : List Addr), PG (X.blk s H scope (compEnvC scope cl C X.env) fp) tg g) (ht : ∀ (s : Shared) (H : Hp) (C : Addr) (cl : List (PySem.Str × Addr)) (fp : List Addr), PTs (X.blk s H scope (compEnvC scope cl C X.env) fp) ifs tt)
    (he : ∀ (s : Shared) (H : Hp) (C : Addr) (cl : List (PySem.Str × Addr)) (fp : List Addr), PE (X.blk s H scope (compEnvC scope cl C X.env) fp) elt te) (hs : ∀ x, foldedSetIterable iter X.env x = pure x := by intro _; rfl) :
    PE X (.SetComp elt [⟨tg, iter, ifs, 0⟩] scope pos) (tScI X.w wi g tt te (own.map (·.2))) := by
  refine ⟨fun pins s σ H Q I h => ?_⟩
  rw [eval_SetComp]
  refine scI_core hc hN I hi ok hg ht he hs h fun D C s' m H' I' q hn f => ⟨m, hn, fun h'' sb => ?_⟩
  obtain ⟨f0, f1, f2, f3, f4, f5⟩ := f
  exact ⟨.ref D, H', I'.turned (t' := s'.toks) (fun b o hb e => (sb.2 b hb).trans e) f0 f1 f3 f4 f5, rfl, q⟩
end
end
end NK

set_option Elab.async false
set_option linter.all false
set_option maxRecDepth 100000
set_option maxHeartbeats 2000000
/-! NK11: dicts, sets, len; methods, making, own ==; isinstance; slices. -/
namespace NK
open PySem L2

/-! ### dicts with keys of one kind -/
def valU (kvs : List (Key × U)) (k : Key) : Option U := (kvs.find? fun kv => decide (kv.1 = k)).map (·.2)
def putU (kvs : List (Key × U)) (k : Key) (v : U) : List (Key × U) :=
  if (kvs.any fun kv => decide (kv.1 = k)) = true then kvs.map (fun kv => if kv.1 = k then (kv.1, v) else kv) else kvs ++ [(k, v)]
def keyU (u : U) : Option Key := match u with
  | .int i => some (.inl i)
  | .str x => some (.inr x)
  | _ => none
section
variable {T : Tb} {c : Cn}
theorem RpK.length : ∀ {us : List (Key × U)} {vs : List (Key × V)}, RpK T c us vs → us.length = vs.length
  | _, _, .nil => rfl
  | _, _, .cons _ t => by simp [RpK.length t]
theorem RpK.any : ∀ {us : List (Key × U)} {vs : List (Key × V)} (k : Key), RpK T c us vs → (us.any fun kv => decide (kv.1 = k)) = (vs.any fun kv => decide (kv.1 = k))
  | _, _, _, .nil => rfl
  | _, _, k, .cons _ t => by simp only [List.any_cons, RpK.any k t]
theorem RpK.val : ∀ {us : List (Key × U)} {vs : List (Key × V)} {k : Key}, RpK T c us vs → (∀ u, valU us k = some u → ∃ v, valV vs k = some v ∧ Rp T c u v) ∧ (valU us k = none → valV vs k = none)
  | _, _, _, .nil => ⟨fun u h => by simp [valU] at h, fun _ => rfl⟩
  | _, _, k, .cons (k := k') (u := u0) (v := v0) (us := us) (vs := vs) r t => by
    obtain ⟨h1, h2⟩ := RpK.val (k := k) t
    by_cases e : k' = k
    · subst e
      refine ⟨fun u h => ?_, fun h => ?_⟩
      · simp [valU] at h
        subst h
        exact ⟨v0, by simp [valV], r⟩
      · simp [valU] at h
    · have a : valU ((k', u0) :: us) k = valU us k := by simp [valU, List.find?, e]
      have b : valV ((k', v0) :: vs) k = valV vs k := by simp [valV, List.find?, e]
      rw [a, b]
      exact ⟨h1, h2⟩
theorem RpK.mapPut (k : Key) {u : U} {v : V} (q : Rp T c u v) : ∀ {us : List (Key × U)} {vs : List (Key × V)}, RpK T c us vs → RpK T c (us.map fun kv => if kv.1 = k then (kv.1, u) else kv) (vs.map fun kv => if kv.1 = k then (kv.1, v) else kv)
  | _, _, .nil => .nil
  | _, _, .cons (k := k') r t => by
    simp only [List.map_cons]
    by_cases e : k' = k
    · rw [if_pos e, if_pos e]; exact .cons q (RpK.mapPut k q t)
    · rw [if_neg e, if_neg e]; exact .cons r (RpK.mapPut k q t)
theorem RpK.snoc {k : Key} {u : U} {v : V} (q : Rp T c u v) : ∀ {us : List (Key × U)} {vs : List (Key × V)}, RpK T c us vs → RpK T c (us ++ [(k, u)]) (vs ++ [(k, v)])
  | _, _, .nil => .cons q .nil
  | _, _, .cons r t => .cons r (RpK.snoc q t)
theorem RpK.put {us : List (Key × U)} {vs : List (Key × V)} {u : U} {v : V} (k : Key) (h : RpK T c us vs) (q : Rp T c u v) : RpK T c (putU us k u) (putK vs k v) := by
  unfold putU putK
  rw [h.any k]
  by_cases a : (vs.any fun kv => decide (kv.1 = k)) = true
  · rw [if_pos a, if_pos a]; exact h.mapPut k q
  · rw [if_neg a, if_neg a]; exact h.snoc q
theorem key_at {u : U} {v : V} {k : Key} (r : Rp T c u v) (e : keyU u = some k) : v = kV k := by
  cases u with
  | int i => cases e; cases r; rfl
  | str x => cases e; cases r; rfl
  | _ => cases e
end
def dictAt (u : U) (st : Sto) : Option (Nat × List (Key × U)) := match u with
  | .loc i => match st[i]? with
    | some (.dK kvs) => some (i, kvs)
    | _ => none
  | _ => none
theorem dict_at {T : Tb} {c : Cn} {st : Sto} {H : Hp} (h : RH T c st H) {u : U} {v : V} {i : Nat} {kvs : List (Key × U)} (r : Rp T c u v) (e : dictAt u st = some (i, kvs)) : u = .loc i ∧ st[i]? = some (.dK kvs) ∧ ∃ vs, v = .ref (c.ρ i) ∧ H (c.ρ i) = some (.dK vs) ∧ RpK T c kvs vs := by
  cases u with
  | loc j =>
    obtain ⟨_, rfl⟩ := r.inv_loc
    dsimp only [dictAt] at e
    split at e
    · rename_i kvs' q
      cases e
      obtain ⟨vs, h1, h2⟩ := h.at_dK q
      exact ⟨rfl, q, vs, rfl, h1, h2⟩
    · cases e
  | _ => cases e
def eDict : ME := fun _ st => .ok (.loc st.length) (st ++ [.dK []])
def fDGet (o i : U) (st : Sto) : Out U := match dictAt o st, keyU i with
  | some (_, kvs), some k => match valU kvs k with
    | some w => .ok w st
    | none => .bad
  | _, _ => .bad
/-- i in d (neg: not in) -/
def fDIn (neg : Bool) (i o : U) (st : Sto) : Out U := match dictAt o st, keyU i with
  | some (_, kvs), some k => .ok (.bl ((valU kvs k).isSome != neg)) st
  | _, _ => .bad
def dput (o i w : U) (st : Sto) : Option Sto := match dictAt o st, keyU i with
  | some (n, kvs), some k => if kvs.length < 16777216 then some (st.set n (.dK (putU kvs k w))) else none
  | _, _ => none
def sDPut (mo mi m : ME) : MS := fun env st => (m env st).st env fun w st1 => (mo env st1).st env fun o st2 => (mi env st2).st env fun i st3 => match dput o i w st3 with
  | some st4 => .next env st4
  | none => .bad
section
variable {X : Cx} {T : Tb} {P : Pin} {Wx : WX} {o i e value : Expr} {es : List Expr} {mo mi m ma mb : ME} {mas : MA} {pos pos' apos p p2 : Pos}
theorem pem_dict : PEm X T P Wx (.Dict [] [] pos) eDict := PE.imp pe_dnewK fun σ H Q ⟨c, env, st, hH, hE, hR⟩ p hp => by
  have l := le_new c p
  have hlt : st.length < (c.new p).n := by show _ < c.n + 1; rw [hH.n]; exact Nat.lt_succ_self _
  have e : V.ref p = V.ref ((c.new p).ρ st.length) := by rw [← hH.n, new_self]
  rw [e]
  exact hR _ _ _ l (hH.new hp (o := .dK []) (x := .dK []) ⟨[], rfl, .nil⟩) (.loc hlt)
theorem units1 {k : Nat} {A : Around} (r : Room k A) : A.units + 1 < cLine := by have := r.units; omega
theorem pem_dget (hu : X.A.units + 1 < cLine) (ho : PEm X T P Wx o mo) (hi : PEm X T P Wx i mi) (hs : NoSl i) : PEm X T P Wx (.Subscript o i pos) (eOp fDGet mo mi) := PE.imp (pe_dget hu ho hi hs) fun σ H Q ⟨c, env, st, hH, hE, hR⟩ => by
  refine (tg_bind hH hE hR).mono fun x H1 ⟨u, c1, st1, l1, hH1, hE1, r1, hR1⟩ => ?_
  refine (tg_bind hH1 hE1 hR1).mono fun y H2 ⟨w, c2, st2, l2, hH2, hE2, r2, hR2⟩ => ?_
  unfold fDGet at hR2
  split at hR2
  · rename_i n kvs k e1 e2
    obtain ⟨rfl, q, vs, rfl, h1, h2⟩ := dict_at hH2 (r1.mono l2) e1
    cases key_at r2 e2
    split at hR2
    · rename_i w' e3
      obtain ⟨v, hv, rv⟩ := h2.val.1 _ e3
      exact ⟨_, v, rfl, by rw [← hv]; exact DGet.k h1, hR2.ret hH2 rv⟩
    · exact hR2.elim
  · exact hR2.elim
theorem din_run {neg : Bool} (σ : L2.St) (H : Hp) (Q : VK) (h : teOf T P Wx (eOp (fDIn neg) mi mo) σ H Q) : teOf T P Wx mi σ H fun y H1 => teOf T P Wx mo σ H1 fun x H2 => ∃ a o, x = .ref a ∧ DGet H2 a y o ∧ Q (.bl (o.isSome != neg)) H2 := by
  obtain ⟨c, env, st, hH, hE, hR⟩ := h
  refine (tg_bind hH hE hR).mono fun x H1 ⟨u, c1, st1, l1, hH1, hE1, r1, hR1⟩ => ?_
  refine (tg_bind hH1 hE1 hR1).mono fun y H2 ⟨w, c2, st2, l2, hH2, hE2, r2, hR2⟩ => ?_
  unfold fDIn at hR2
  split at hR2
  · rename_i n kvs k e1 e2
    obtain ⟨rfl, q, vs, rfl, h1, h2⟩ := dict_at hH2 r2 e1
    cases key_at (r1.mono l2) e2
    refine ⟨_, _, rfl, DGet.k h1, ?_⟩
    have e3 : (valU kvs k).isSome = (valV vs k).isSome := by
      cases q : valU kvs k with
      | none => rw [h2.val.2 q]; rfl
      | some u => obtain ⟨v, hv, _⟩ := h2.val.1 _ q; rw [hv]; rfl
    rw [e3] at hR2
    exact hR2.ret hH2 (.bl _)
  · exact hR2.elim
theorem pcm_din (hu : X.A.units + 1 < cLine) (hi : PEm X T P Wx i mi) (ho : PEm X T P Wx o mo) : PC X .In i o (teOf T P Wx (eOp (fDIn false) mi mo)) := ⟨fun pins s σ H Q I h => (pc_din hu hi ho).run pins s σ H Q I ((din_run (neg := false) σ H Q h).mono fun y H1 h => tgOf.mono h fun x H2 ⟨a, o, e, g, q⟩ => ⟨a, o, e, g, by simpa using q⟩)⟩
theorem pcm_dnotin (hu : X.A.units + 1 < cLine) (hi : PEm X T P Wx i mi) (ho : PEm X T P Wx o mo) : PC X .NotIn i o (teOf T P Wx (eOp (fDIn true) mi mo)) := ⟨fun pins s σ H Q I h => (pc_dnotin hu hi ho).run pins s σ H Q I ((din_run (neg := true) σ H Q h).mono fun y H1 h => tgOf.mono h fun x H2 ⟨a, o, e, g, q⟩ => ⟨a, o, e, g, by simpa using q⟩)⟩
theorem pem_pc {op : CmpOp} {a b : Expr} (h : PC X op a b (teOf T P Wx m)) (h1 : behindInMarks op b = false := by first | exact nobehind _ (by decide) (by decide) | rfl) : PEm X T P Wx (.Compare a [op] [b] pos) m := pe_cmp h h1
theorem ptm_pc {op : CmpOp} {a b : Expr} (h : PC X op a b (teOf T P Wx m)) (h1 : behindInMarks op b = false := by first | exact nobehind _ (by decide) (by decide) | rfl) : PTm X T P Wx (.Compare a [op] [b] pos) (NK.tB m) := PT.imp (pt_cmp h h1) (test_run fun _ _ _ h => h)
theorem psm_dput {s : Stmt} (h : PS X s (L2.sDPut (teOf T P Wx mo) (teOf T P Wx mi) (teOf T P Wx m))) : PSm X T P Wx s (NK.sDPut mo mi m) :=
  PS.imp h fun D σ H ⟨c, env, st, hH, hE, hR⟩ => by
    refine (ts_bind hH hE hR).mono fun x H1 ⟨w, c1, st1, l1, hH1, hE1, r1, hR1⟩ => ?_
    refine (ts_bind hH1 hE1 hR1).mono fun y H2 ⟨o, c2, st2, l2, hH2, hE2, r2, hR2⟩ => ?_
    refine (ts_bind hH2 hE2 hR2).mono fun z H3 ⟨i, c3, st3, l3, hH3, hE3, r3, hR3⟩ => ?_
    split at hR3
    · rename_i st4 q
      unfold dput at q
      split at q
      · rename_i n kvs k e1 e2
        obtain ⟨rfl, q0, vs, e0, h1, h2⟩ := dict_at hH3 (r2.mono l3) e1
        cases key_at r3 e2
        split at q
        · rename_i hz
          cases q
          refine ⟨_, _, e0, DPut.k h1 (by rw [szl, ← h2.length]; exact hz), ?_⟩
          exact ResS.go (D := D) hR3 (hH3.set q0 (fun z => nomatch z) ⟨_, rfl, h2.put k ((r1.mono l2).mono l3)⟩) hE3
        · cases q
      · cases q
    · exact hR3.elim

/-! ### len of a dict, of a set -/
def fLenO : List U → Sto → Out U := fun us st => match us with
  | [.loc i] => match st[i]? with
    | some (.dK kvs) => .ok (.int kvs.length) st
    | some (.iset ks) => .ok (.int ks.length) st
    | _ => .bad
  | _ => .bad
def rLenO (w : World) : List V → Hp → VK → Prop := fun xs H Q => ∃ a, xs = [.ref a] ∧ ((∃ kvs : List (Key × V), H a = some (.dK kvs) ∧ Q (.int kvs.length) H) ∨ ∃ S n, H a = some (SetO w a S n) ∧ Q (.int n) H)
open PySem PyProof.Rows in
theorem call_lenO : CallR X (.builtin "len") (rLenO X.w) := by
  intro pins s σ H xs us Q I r h
  obtain ⟨a, rfl, h⟩ := h
  obtain ⟨u, rfl, rx⟩ := vals1 r
  cases rx
  rcases h with ⟨kvs, h1, q⟩ | ⟨S, n, h1, q⟩
  · exact d_len I (.inl h1) fun t s' I' => ⟨.int kvs.length, H, I', ⟨_, rfl⟩, q⟩
  · obtain ⟨o, es, ep, t, ho, hex, hd, _, _, hl, hf, hn⟩ := (setO_get I h1).setOf (P := X.prog)
    have hsz : (es.size : Int) < 2 ^ 63 := by
      have hl := hl
      have : scanBound = 4096 := rfl
      omega
    exact call_len_set ho hex hd hf hsz ⟨.int n, H, I.tok _, ⟨_, by rw [hn]⟩, q⟩
theorem sim_lenO : CallSim T (rLenO T.w) fLenO := fun Wx c σ st H us xs Q hH r hR => by
  unfold fLenO at hR
  split at hR
  · rename_i i
    obtain ⟨v, vs, rfl, r1, t⟩ := r.inv_cons
    cases t.inv_nil
    obtain ⟨_, rfl⟩ := r1.inv_loc
    split at hR
    · rename_i kvs q
      obtain ⟨vs, h1, h2⟩ := hH.at_dK q
      refine ⟨_, rfl, .inl ⟨vs, h1, ?_⟩⟩
      rw [← h2.length]
      exact hR.ret hH (.int _)
    · rename_i ks q
      obtain ⟨o, h1, h2, _⟩ := hH.act i _ q (fun z => nomatch z)
      have h2' : o = SetO T.w (c.ρ i) (fun k => decide (k ∈ ks)) ks.length := h2
      subst h2'
      exact ⟨_, rfl, .inr ⟨_, _, h1, hR.ret hH (.int _)⟩⟩
    · exact hR.elim
  · exact hR.elim

/-! ### own methods, own classes made -/
theorem zip_none : ∀ {ns : List Str} {vs : List V} {f : Str}, f ∉ ns → (ns.zip vs).lookup f = none
  | [], _, _, _ => rfl
  | _ :: _, [], _, _ => rfl
  | n :: ns, v :: vs, f, h => by
    have ne : (f == n) = false := by
      rw [beq_eq_false_iff_ne]
      rintro rfl
      exact h List.mem_cons_self
    simp only [List.zip_cons_cons, List.lookup, ne]
    exact zip_none fun z => h (List.mem_cons_of_mem _ z)
def isK (k : Nat) (u : U) (st : Sto) : Bool := match asIns u st with
  | some (k', _) => k' == k
  | none => false
def eMeth (k n : Nat) (mf : MF) (dus : List U) (mo : ME) (ma : MA) : ME := fun env st => (mo env st).bind fun o st1 => if isK k o st1 = true then (ma env st1).bind fun us st2 => if (o :: (us ++ dus)).length = n then mf (o :: (us ++ dus)) st2 else .bad else .bad
theorem isK_at {c : Cn} {st : Sto} {H : Hp} (h : RH T c st H) {k : Nat} {u : U} {v : V} (r : Rp T c u v) (e : isK k u st = true) : ∃ a dx vs, v = .ref a ∧ H a = some (.ins (T.cls k) dx ((T.fld k).zip vs)) := by
  unfold isK at e
  split at e
  · rename_i k' us q
    cases beq_iff_eq.mp e
    obtain ⟨a, dx, vs, h1, h2, _⟩ := asIns_at h r q
    exact ⟨a, dx, vs, h1, h2⟩
  · cases e
section
variable {kk k n : Nat} {f C : Addr} {fd : FuncData} {ps : List Str} {mf : MF} {dus : List U} {dvs : List V} {ds : List Value} {x mn : Str} {sp : Sp}
theorem pem_meth {pl : Sem Bool} (tk : Takes X Wx) (F : FnOk X.prog X.w X.K X.mg X.base (L2.CX X.prog X.w) kk f fd ps (spOf T n mf)) (hr : Room kk X.A) (cl : Cls X.K (T.cls k)) (hm : Meth X.K (T.cls k) mn f) (hnf : mn ∉ T.fld k) (hb : Binds X.K fd ps ds) (hd : Vals dvs ds) (hdr : ∀ c, RpL T c dus dvs)
    (ho : PEm X T P Wx o mo) (ha : PAm X T P Wx (e :: es) mas)
    (hst : starEach (e :: es) X.env = (false, eval e X.env) :: starEach es X.env := by rfl) (hpl : (backTo pos (starEach es X.env)).any (·.1) = false := by rfl)
    (ht : eval (.Call (.Attribute o mn apos) (e :: es) [] pos) X.env = (do
      let ov ← eval o X.env
      standAt apos.atName
      let (f, first) ← holding [ov] (getMethod ov mn pl)
      callWith pos f first (backTo pos (starEach (e :: es) X.env)) (backToKw pos (keywordEach [] X.env))) := by rfl) :
    PEm X T P Wx (.Call (.Attribute o mn apos) (e :: es) [] pos) (eMeth k n mf dus mo mas) := by
  refine ⟨fun pins s σ H Q I ⟨c, env, st, hH, hE, hR⟩ => ?_⟩
  refine PySem.W.methodCall_KW (pl := pl) (thn (ho.run pins s σ H _ I (tg_bind hH hE hR)) fun u s1 ⟨x, H1, I1, rx, uo, c1, st1, l1, hH1, hE1, r1, hR1⟩ => ?_) ht
  split at hR1
  · rename_i hk
    obtain ⟨a, dx, vs, rfl, h1⟩ := isK_at hH1 r1 hk
    obtain rfl : u = Value.ref a := rx
    refine getmeth_ok I1 h1 cl hm (zip_none hnf) ?_
    refine PySem.W.callWith_K (first := [.ref a]) (h₀ := X.base) I.ok.mod.kin hm.kp (thn (ha.run pos pins s1 σ H1 _ I1 (tg_bind hH1 hE1 hR1)) fun us s2 ⟨vs, H2, I2, r, us', c2, st2, l2, hH2, hE2, r2, hR2⟩ => ⟨I2.kIn, ?_⟩) hst hpl
    split at hR2
    · rename_i hl
      have r3 : RpL T c2 (uo :: (us' ++ dus)) (.ref a :: (vs ++ dvs)) := .cons (r1.mono l2) (r2.append (hdr c2))
      refine run_fnSD (us := .ref a :: us) (vs := .ref a :: vs) (E := fun σ cls d H => Wx cls d σ H) F hr hb hd (passAt tk σ) I2 (.cons rfl r) ?_
      exact ⟨by rw [← hl]; exact r3.length.symm, c2, _, st2, hH2, r3, hR2.wish fun cls d H h => h⟩
    · exact hR2.elim
  · exact hR1.elim
theorem pem_meth0 {pl : Sem Bool} (tk : Takes X Wx) (F : FnOk X.prog X.w X.K X.mg X.base (L2.CX X.prog X.w) kk f fd ps (spOf T n mf)) (hr : Room kk X.A) (cl : Cls X.K (T.cls k)) (hm : Meth X.K (T.cls k) mn f) (hnf : mn ∉ T.fld k) (hb : Binds X.K fd ps ds) (hd : Vals dvs ds) (hdr : ∀ c, RpL T c dus dvs)
    (ho : PEm X T P Wx o mo)
    (ht : eval (.Call (.Attribute o mn apos) [] [] pos) X.env = (do
      let ov ← eval o X.env
      standAt apos.atName
      let (f, first) ← holding [ov] (getMethod ov mn pl)
      callWith pos f first (backTo pos (starEach [] X.env)) (backToKw pos (keywordEach [] X.env))) := by rfl) :
    PEm X T P Wx (.Call (.Attribute o mn apos) [] [] pos) (eMeth k n mf dus mo aNil) := by
  refine ⟨fun pins s σ H Q I ⟨c, env, st, hH, hE, hR⟩ => ?_⟩
  refine PySem.W.methodCall_KW (pl := pl) (thn (ho.run pins s σ H _ I (tg_bind hH hE hR)) fun u s1 ⟨x, H1, I1, rx, uo, c1, st1, l1, hH1, hE1, r1, hR1⟩ => ?_) ht
  split at hR1
  · rename_i hk
    obtain ⟨a, dx, vs, rfl, h1⟩ := isK_at hH1 r1 hk
    obtain rfl : u = Value.ref a := rx
    refine getmeth_ok I1 h1 cl hm (zip_none hnf) ?_
    change ResG T Wx c1 σ (Rp T) (if (uo :: ([] ++ dus)).length = n then mf (uo :: ([] ++ dus)) st1 else .bad) Q at hR1
    split at hR1
    · rename_i hl
      have r3 : RpL T c1 (uo :: ([] ++ dus)) (.ref a :: ([] ++ dvs)) := .cons r1 (hdr c1)
      refine PySem.W.callWith_K0 (first := [.ref a]) I1.kIn hm.kp (run_fnSD (us := [.ref a]) (vs := [.ref a]) (E := fun σ cls d H => Wx cls d σ H) F hr hb hd (passAt tk σ) I1 (.cons rfl .nil) ?_)
      exact ⟨by rw [← hl]; exact r3.length.symm, c1, _, st1, hH1, r3, hR1.wish fun cls d H h => h⟩
    · exact hR1.elim
  · exact hR1.elim
theorem RH.grow {c : Cn} {st : Sto} {H : Hp} (h : RH T c st H) {p : Addr} (hp : H p = none) (o : HO) : RH T c st (L2.upd H p o) := by
  refine ⟨h.n, fun a u e => ?_, fun i ob e d => ?_, h.inj⟩
  · rw [upd_ne (fun z => by rw [z, h.F_new hp] at e; cases e)]
    exact h.sub a u e
  · obtain ⟨x, h1, h2, h3⟩ := h.act i ob e d
    exact ⟨x, by rw [upd_ne (h.ne_new hp e d)]; exact h1, h2, h3⟩
def eMake (k n : Nat) (mf : MF) (dus : List U) (ma : MA) : ME := fun env st => (ma env st).bind fun us st1 => if (U.loc st1.length :: (us ++ dus)).length = n then (mf (.loc st1.length :: (us ++ dus)) (st1 ++ [.ins k []])).bind fun r st2 => match r with
  | .non => .ok (.loc st1.length) st2
  | _ => .bad else .bad
theorem run_makeSD {CX : CXT} {E : L2.St → XK} {pins : List (Addr × Obj)} {σ : L2.St} {H : Hp} {s : Shared} {Q : VK} {us : List Value} {vs : List V} (M : Mk X.K C f) (F : FnOk X.prog X.w X.K X.mg X.base CX kk f fd ps sp) (hr : Room (kk + 1) X.A) (hb : Binds X.K fd ps ds) (hd : Vals dvs ds)
    (hx : PassesAt CX X σ (E σ)) (I : Inv X pins σ H s) (r : Vals vs us)
    (h : ∀ x dx, H x = none → H dx = none → dx ≠ x → sp (.ref x :: (vs ++ dvs)) (L2.upd (L2.upd H dx (.own x)) x (.ins C dx [])) (fun v H2 => v = .non ∧ Q (.ref x) H2) (E σ)) :
    wpAny (model X.prog X.w) X.A (call (.ref C) us) (EP X pins σ Q) X.xe s := by
  have hq := h (s.heap.objs.size + 1) s.heap.objs.size (I.hok.fresh (Nat.le_succ _)) (I.hok.fresh (Nat.le_refl _)) (Nat.ne_of_lt (Nat.lt_succ_self _))
  have I2 := Inv.made (C := C) I
  have r2 : Vals (V.ref (s.heap.objs.size + 1) :: (vs ++ dvs)) (Value.ref (s.heap.objs.size + 1) :: (us ++ ds)) := .cons rfl (r.append hd)
  have hl : (Value.ref (s.heap.objs.size + 1) :: us ++ ds).length = ps.length := by
    have e := r2.length
    rw [F.len _ _ _ _ hq] at e
    exact e.symm
  refine wpAny_call (L2.make_map (f := f) I.kIn M.makes M.init (beq_iff_eq.mp M.fn) (codeAny_mono (F.run _ X.stack _ _ ⟨Value.ref (s.heap.objs.size + 1) :: us, []⟩ (Value.ref (s.heap.objs.size + 1) :: (us ++ ds)) _ _ (E σ) (hr.make C us [])
    (I2.env0.make C us []) (hb _ (Value.ref (s.heap.objs.size + 1) :: us) I2.kIn hl) r2 hq) fun r s' hq' => ?_))
  cases r with
  | error e => exact hx pins _ _ e s' I2 hq'
  | ok fl =>
    cases fl with
    | ret u =>
      obtain ⟨v, H', I3, rv, ev, q3⟩ := I2.after hq'
      subst ev
      exact ⟨rv, ⟨V.ref (s.heap.objs.size + 1), H', I3, rfl, q3⟩⟩
    | next => exact False.elim hq'
    | brk => exact False.elim hq'
    | cont => exact False.elim hq'
theorem pem_make (tk : Takes X Wx) (M : Mk X.K (T.cls k) f) (F : FnOk X.prog X.w X.K X.mg X.base (L2.CX X.prog X.w) kk f fd ps (spOf T n mf)) (hr : Room (kk + 1) X.A) (hg : Gl X x) (hm : X.mg x = some (.ref (T.cls k))) (hb : Binds X.K fd ps ds) (hd : Vals dvs ds) (hdr : ∀ c, RpL T c dus dvs)
    (ha : PAm X T P Wx (e :: es) mas) (hdb : (x == ("__debug__" : Str)) = false := by decide) (he : starEach (e :: es) X.env = (false, eval e X.env) :: starEach es X.env := by rfl) (hpl : (backTo pos (starEach es X.env)).any (·.1) = false := by rfl) :
    PEm X T P Wx (.Call (.Name x p) (e :: es) [] pos) (eMake k n mf dus mas) := by
  refine ⟨fun pins s σ H Q I ⟨c, env, st, hH, hE, hR⟩ => ?_⟩
  refine wpAny_Call_Name_kw (ld_glob I hg hm ?_ hdb)
  refine PySem.W.callWith_K (h₀ := X.base) I.ok.mod.kin M.kp (thn (ha.run pos pins s σ H _ I (tg_bind hH hE hR)) fun us s1 ⟨vs, H1, I1, r, us', c1, st1, l1, hH1, hE1, r1, hR1⟩ => ⟨I1.kIn, ?_⟩) he hpl
  split at hR1
  · rename_i hl
    refine run_makeSD (E := fun σ cls d H => Wx cls d σ H) M F hr hb hd (passAt tk σ) I1 r fun x dx nx nd ne => ?_
    have hH2 := hH1.grow nd (.own x)
    have nx2 : L2.upd H1 dx (.own x) x = none := by rw [upd_ne (Ne.symm ne)]; exact nx
    have hH3 := hH2.new nx2 (o := .ins k []) (x := .ins (T.cls k) dx []) ⟨dx, [], by simp, Nat.zero_le _, .nil⟩
    have l2 := le_new c1 x
    have hlt : st1.length < (c1.new x).n := by show _ < c1.n + 1; rw [hH1.n]; exact Nat.lt_succ_self _
    have ex : V.ref x = V.ref ((c1.new x).ρ st1.length) := by rw [← hH1.n, new_self]
    have r3 : RpL T (c1.new x) (.loc st1.length :: (us' ++ dus)) (.ref x :: (vs ++ dvs)) := .cons (by rw [ex]; exact .loc hlt) ((r1.mono l2).append (hdr _))
    refine ⟨by rw [← hl]; exact r3.length.symm, c1.new x, _, _, hH3, r3, ?_⟩
    cases q : mf (.loc st1.length :: (us' ++ dus)) (st1 ++ [.ins k []]) with
    | ok u st2 =>
      rw [q] at hR1
      intro c3 v H3 l3 hH4 r4
      cases u with
      | non =>
        cases r4.inv_non
        refine ⟨rfl, ?_⟩
        rw [ex, ← l3.ρ _ hlt]
        exact hR1 c3 _ H3 (l2.trans l3) hH4 (.loc (Nat.lt_of_lt_of_le hlt l3.n))
      | _ => exact hR1.elim
    | exc x2 st2 =>
      rw [q] at hR1
      exact fun c3 cls d H3 l3 hH4 e4 => hR1 c3 cls d H3 (l2.trans l3) hH4 e4
    | bad => rw [q] at hR1; exact hR1.elim
  · exact hR1.elim
end
end
end NK

set_option Elab.async false
set_option linter.all false
set_option maxRecDepth 100000
set_option maxHeartbeats 2000000
/-! NK12: enumerate over a tuple (after HandS.Iter's rule for lists). -/
namespace PySem
open AutoSeq1 (wpAny_loadPart')
theorem nk_enumerate_newT (l : Addr) (items : Array Value) (n : Nat) (dct : Option Addr) (sl : Array (Option Value)) :
    Meets (Builtin.«enumerate.__new__» ⟨[.type "enumerate", .ref l], []⟩) (fun _ R s => s.heap.get? l = some { cls := .type "tuple", dict := dct, data := .seq items n, slots := sl } ∧
      R (.ok (.ret (.ref (s.heap.push { cls := .type "tuple_iterator", data := .fields #[.ref l, .int 0 0] }).objs.size)))
        { s with heap := (s.heap.push { cls := .type "tuple_iterator", data := .fields #[.ref l, .int 0 0] }).push { cls := .type "enumerate", data := .fields #[.none, .bool false, .ref s.heap.objs.size, rawInt 0, .none, .none] } }) :=
  .of_wp fun prog w A R s h => by
    obtain ⟨hp, g, d, tk, os⟩ := s; obtain ⟨hl, h⟩ := h
    have hsub := sub_enumerate
    have hL : Heap.IsTuple (Shared.heap ⟨hp, g, d, tk, os⟩) l items := ⟨_, hl, rfl, n, rfl⟩
    wp_walk using wpAny_loadPart' hl
    refine wpAny_stack_any fun st => wpAny_pure ?_
    split
    · rename_i c _ _ _ _ _
      cases (c == Value.type "enumerate")
      · wp_walk using wpAny_loadPart' hl, wpAny_pyIter_tuple hL
        exact ⟨_, rfl, h⟩
      · wp_walk using wpAny_loadPart' hl, wpAny_pyIter_tuple hL
        exact ⟨_, rfl, h⟩
    · wp_walk using wpAny_loadPart' hl, wpAny_pyIter_tuple hL
      exact ⟨_, rfl, h⟩
section
variable {prog : Program} {w : World} {A : Around} {E : Value → Shared → Prop} {s : Shared}
theorem nk_call_enumerate_tuple {l : Addr} {items : Array Value} {Q : Value → Shared → Prop} (hL : s.heap.IsTuple l items)
    (h : ∀ h', IsEnum h' (s.heap.objs.size + 1) s.heap.objs.size 0 .none → h'.IsTupleIter s.heap.objs.size l 0 → h'.objs.size = s.heap.objs.size + 2 →
      (∀ b o, s.heap.get? b = some o → h'.get? b = some o) → Q (.ref (s.heap.objs.size + 1)) { s with heap := h' }) :
    wpAny (model prog w) A (call (.type "enumerate") [.ref l]) Q E s := by
  obtain ⟨⟨c, dct, dt, sl⟩, hl, hc, n, hd⟩ := hL
  replace hc : c = .type "tuple" := hc
  replace hd : dt = .seq items n := hd
  subst hc hd
  refine callType_new F.called_enumerate (by decide) (F.typeCall_enumerate_1 _) (F.newCall_enumerate_1 _) (fun obj => F.args_object_init_2 obj _) F.entry_enumerate_new
    (nk_enumerate_newT l items n dct sl) ⟨hl, ?_⟩
  have hz : (s.heap.push { cls := .type "tuple_iterator", data := .fields #[.ref l, .int 0 0] }).objs.size = s.heap.objs.size + 1 := Heap.size_push ..
  show _ ∧ _
  rw [hz]
  have he : IsEnum ((s.heap.push { cls := .type "tuple_iterator", data := .fields #[.ref l, .int 0 0] }).push
      { cls := .type "enumerate", data := .fields #[.none, .bool false, .ref s.heap.objs.size, rawInt 0, .none, .none] }) (s.heap.objs.size + 1) s.heap.objs.size 0 .none := by
    have := Heap.get?_push_size (s.heap.push { cls := .type "tuple_iterator", data := .fields #[.ref l, .int 0 0] })
      (o := { cls := .type "enumerate", data := .fields #[.none, .bool false, .ref s.heap.objs.size, rawInt 0, .none, .none] }) rfl
    rw [hz] at this; exact this
  refine ⟨⟨_, he, rfl⟩, h _ he ⟨_, Heap.get?_push_of_some _ (Heap.get?_push_size _ rfl), rfl, rfl⟩ (by rw [Heap.size_push, hz]) fun b o x => Heap.get?_push_of_some _ (Heap.get?_push_of_some _ x)⟩
end
end PySem
namespace NK
section
open PySem PySem.Spec PyProof.Rows L2
/-- the tuple at a, each item in a new pair -/
def IteT (K : PySem.W.Frag) (a : Addr) : It :=
  ⟨fun i H => ∃ (xs : List V) (x : V), SqT K H a xs ∧ xs[i]? = some x, fun i H v H' => ∃ T x, v = .ref T ∧ H T = none ∧ H' = L2.upd H T (.tup [.int (i : Nat), x]) ∧ ∀ xs, SqT K H a xs → xs[i]? = some x, fun i H => ∃ xs : List V, SqT K H a xs ∧ xs.length ≤ i⟩
theorem tup_inj {X : Cx} {pins : List (Addr × Obj)} {σ : L2.St} {H : Hp} {s : Shared} {a : Addr} {xs ys : List V} (I : Inv X pins σ H s) (h : SqT X.K H a xs) (g : SqT X.K H a ys) : xs = ys := by
  obtain ⟨its, r, t, _⟩ := I.tuple h
  obtain ⟨its', r', t', _⟩ := I.tuple g
  obtain ⟨o, h1, _, n, h2⟩ := t
  obtain ⟨o', h1', _, n', h2'⟩ := t'
  rw [h1] at h1'
  cases h1'
  rw [h2] at h2'
  have e : its = its' := by
    have := congrArg Array.toList (Data.seq.inj h2').1
    simpa using this
  subst e
  exact Vals.inj r r'
theorem turn_enumT {P : Program} {w : World} {K : PySem.W.Frag} {elts : List Expr} {kk : Nat} {tpos : Pos} (a e it : Addr) (hai : a ≠ it) (hae : a ≠ e) :
    Turn P w K (.Tuple elts kk tpos) (IteT K a) [e, it] e (fun i h => (∃ old, IsEnum h e it ((i : Nat) : Int) old) ∧ h.IsTupleIter it a i ∧ e ≠ it) where
  mem := by simp
  obj := fun i h st b hb => by
    obtain ⟨⟨old, he⟩, ⟨o, ho, hc, hd⟩, _⟩ := st
    have e' : b = e ∨ b = it := by simpa using hb
    rcases e' with z | z
    · rw [z]; exact ⟨_, he, fun v q => nomatch q⟩
    · rw [z]; exact ⟨o, ho, fun v q => by rw [hd] at q; cases q⟩
  keep := fun i h h' st k => let ⟨⟨old, he⟩, hi, hne⟩ := st; ⟨⟨old, k e (by simp) _ he⟩, hi.at fun o q => k it (by simp) o q, hne⟩
  item := by
    intro X hP hw hK hc i pins s σ H E I hf st hg
    subst hP hw hK
    obtain ⟨⟨old, he⟩, hit, hne⟩ := st
    obtain ⟨xs, x, hq, hx⟩ := hg
    obtain ⟨its, rv, p, hz⟩ := I.tuple hq
    obtain ⟨u, hu, ru⟩ := rv.get hx
    have hel : e < s.heap.objs.size := Heap.lt_size he
    have hil : it < s.heap.objs.size := by obtain ⟨_, q, _⟩ := hit; exact Heap.lt_size q
    have hlen : i < its.toArray.size := by
      have := (List.getElem?_eq_some_iff.mp hu).1
      simpa using this
    refine wpAny_pyNext_enum_itemD (Draws.tuple (A := X.A.in1) (I.ok.hd hc) it a hai its.toArray) he ⟨hit, p⟩ hlen hne (by simp [hne, Ne.symm hae]) fun x' h' tk hPx ho hs' hT hsz hk => ?_
    have ex : x' = u := by
      have hPx' : its.toArray[i]? = some x' := hPx
      have : its[i]? = some x' := by simpa using hPx'
      rw [hu] at this
      exact (Option.some.inj this).symm
    subst ex
    obtain ⟨hit', _⟩ := hs'
    refine ⟨_, rfl, wpAny_letOwnedTupleGo_enum (s := { s with heap := h', toks := tk + 1 }) ho fun h'' he' sb => ?_⟩
    have hT2 : h''.get? s.heap.objs.size = some { cls := .type "tuple", data := .seq #[.int i tk, x'] } := (sb.2 _ (Nat.ne_of_gt hel)).trans hT
    have new : ObjOk X.prog X.w (L2.upd H s.heap.objs.size (.tup [.int (i : Nat), x])) h'' s.heap.objs.size (.tup [.int (i : Nat), x]) :=
      ⟨by show 2 ≤ sizeLine; decide, [.int i tk, x'], .cons ⟨_, rfl⟩ (.cons ru .nil), ⟨_, hT2, rfl, _, rfl⟩⟩
    have I1 : Inv X pins σ (L2.upd H s.heap.objs.size (.tup [.int (i : Nat), x])) { s with heap := h'', toks := tk + 1 } :=
      I.turnedNew (ch := [e, it]) (fun b ob hb q => (sb.2 b (fun z => hb (by simp [z]))).trans (hk b ob (fun z => hb (by simp [z])) (fun z => hb (by simp [z])) q)) hf (Nat.le_refl _) new
    refine ⟨.ref s.heap.objs.size, _, I1, rfl, ⟨_, x, rfl, I.hok.fresh (Nat.le_refl _), rfl, fun ys hy => by rw [tup_inj I hy hq]; exact hx⟩, ⟨⟨x', ?_⟩, hit'.at fun o q => (sb.2 it (Ne.symm hne)).trans q, hne⟩, fun b hb => ?_⟩
    · have e1 : ((i + 1 : Nat) : Int) = (i : Int) + 1 := by omega
      rw [e1]; exact he'
    · have hb' : b < s.heap.objs.size := by
        have e' : b = e ∨ b = it := by simpa using hb
        rcases e' with z | z
        · rw [z]; exact hel
        · rw [z]; exact hil
      rw [upd_ne (Nat.ne_of_lt hb')]
      exact (hf b hb).1
  done := by
    intro X hP hw hK hc i pins s σ H E I hf st hg
    subst hP hw hK
    obtain ⟨⟨old, he⟩, hit, hne⟩ := st
    obtain ⟨xs, hq, hx⟩ := hg
    obtain ⟨its, rv, p, hz⟩ := I.tuple hq
    obtain ⟨f0, f1, f2, f3, f4, f5⟩ := hf it (by simp)
    have hl := rv.length
    have hTe : s.TypeIs (.ref e) "enumerate" := ⟨_, he, rfl⟩
    unfold pyNext
    refine wpAny_bind (wpAny_attempt (wpAny_callSpecial?_slot (name := Str.ofString "__next__") hTe PySem.F.slot_enumerate_next
      (wpAny_call_entry PySem.F.slot_enumerate_next hTe PySem.F.entry_enumerate_next ?_ (PySem.F.args_enumerate_next_1 _))))
    show wpAny _ _ (field (.ref e) 2 >>= _) _ _ _
    refine wpAny_bind (wpAny_field he rfl (x := .ref it) rfl ?_)
    refine wpAny_bind (wpAny_nextOf_tuple_end (A := X.A.in1) (I.ok.hd hc) hit p (by simp; omega) fun h' x he' hx' => ?_)
    obtain ⟨o, ho, hcx⟩ := hx'
    refine wpAny_bind (wpAny_isInstance (T := "StopIteration") (b := true) ⟨o, ho, hcx⟩ isSubtype_stop ?_)
    exact wpAny_pure ⟨rfl, I.turned (t' := s.toks) (fun b o hb q => he' b o hb q) f0 f1 f3 f4 f5⟩
  self := fun A i s Q E st h => let ⟨⟨_, he⟩, _⟩ := st; wpAny_pyIter_enum he h
def iEnumA2 (K : PySem.W.Frag) (ta : TA) : TI := fun σ H R => ta σ H fun vs H1 => ∃ a xs, vs = [.ref a] ∧ ((SqL K H1 a xs ∧ R (Ite K a) H1) ∨ (SqT K H1 a xs ∧ R (IteT K a) H1))
theorem pi_enumA {X : Cx} {e : Expr} {ta : TA} {p pos tpos : Pos} {elts : List Expr} {kk : Nat} (hg : Gl X "enumerate") (hm : X.mg "enumerate" = none) (ha : PA X [e] ta) (hs : starEach [e] X.env = [(false, eval e X.env)] := by rfl) :
    PI X (.Tuple elts kk tpos) (.Call (.Name "enumerate" p) [e] [] pos) (iEnumA2 X.K ta) := by
  refine ⟨fun pins s σ H R I h => ?_⟩
  refine Call_ (ld_blt I hg hm boot_enumerate (PyProof.Rows.callWith_type1 (thn (ha.run pos pins s σ H _ I h) fun us s1 ⟨vs, H1, I1, r1, q1⟩ => ?_) hs rfl))
  obtain ⟨a, xs, ex, hq⟩ := q1
  subst ex
  have fresh2 : ∀ b ∈ [s1.heap.objs.size + 1, s1.heap.objs.size], FpOk X pins H1 b := fun b hb => by
    have e' : b = s1.heap.objs.size + 1 ∨ b = s1.heap.objs.size := by simpa using hb
    have hle : s1.heap.objs.size ≤ b := by
      rcases e' with z | z
      · rw [z]; exact Nat.le_add_right _ _
      · rw [z]; exact Nat.le_refl _
    exact I1.fpOk hle (I1.hok.fresh hle)
  cases r1 with
  | cons r rr =>
    cases rr
    cases r
    rcases hq with ⟨hq, q⟩ | ⟨hq, q⟩
    · obtain ⟨its, rv, p', hz⟩ := I1.list hq
      refine call_enumerate_list p'.isList fun h' he hit hsz hk => wpAny_pyIter_enum he ?_
      have I2 : Inv X pins σ H1 { s1 with heap := h' } := I1.kept (t' := s1.toks) hk
      exact ⟨s1.heap.objs.size + 1, [s1.heap.objs.size + 1, s1.heap.objs.size], _, _, H1, rfl, I2, turn_enum a (s1.heap.objs.size + 1) s1.heap.objs.size, ⟨⟨.none, he⟩, hit, Nat.succ_ne_self _⟩, fresh2, q⟩
    · obtain ⟨its, rv, p', hz⟩ := I1.tuple hq
      have hal : a < s1.heap.objs.size := by obtain ⟨o, ho, _⟩ := p'; exact Heap.lt_size ho
      refine nk_call_enumerate_tuple p' fun h' he hit hsz hk => wpAny_pyIter_enum he ?_
      have I2 : Inv X pins σ H1 { s1 with heap := h' } := I1.kept (t' := s1.toks) hk
      exact ⟨s1.heap.objs.size + 1, [s1.heap.objs.size + 1, s1.heap.objs.size], _, _, H1, rfl, I2, turn_enumT a (s1.heap.objs.size + 1) s1.heap.objs.size (Nat.ne_of_lt hal) (Nat.ne_of_lt (Nat.lt_succ_of_lt hal)), ⟨⟨.none, he⟩, hit, Nat.succ_ne_self _⟩, fresh2, q⟩
end
section
open PySem L2
/-- enumerate over a list or a tuple -/
def iEnumA (ma : MA) : MI := fun env st => (ma env st).bind fun us st1 => match us with
  | [.tup us] => .ok ⟨enumFrom 0 us, fun _ => True⟩ st1
  | [.lst us] => .ok ⟨enumFrom 0 us, fun _ => True⟩ st1
  | [.scr us] => .ok ⟨enumFrom 0 us, fun _ => True⟩ st1
  | [.loc i] => match st1[i]? with
    | some (.lst us) => .ok ⟨enumFrom 0 us, fun s => s[i]? = some (Ob.lst us)⟩ st1
    | _ => .bad
  | _ => .bad
theorem walk_of_enumT {T : Tb} {c0 : Cn} {a : Addr} {us : List U} {g : Sto → Prop} (h : ∀ c st H, Le c0 c → RH T c st H → g st → ∃ vs, SqT T.K H a vs ∧ RpL T c us vs) : WalkM T c0 (IteT T.K a) (enumFrom 0 us) g := by
  refine ⟨fun H => ∃ vs, SqT T.K H a vs ∧ vs.length = us.length, fun i H v H' => ∃ t x, v = .ref t ∧ H t = none ∧ H' = L2.upd H t (.tup [.int (i : Nat), x]) ∧ ∀ xs, SqT T.K H a xs → xs[i]? = some x, ⟨fun i H hi ⟨vs, h1, h2⟩ => ?_, fun H ⟨vs, h1, h2⟩ => ⟨vs, h1, ?_⟩, fun i H x H' hi _ y => y⟩, fun c st H l hH hg => ?_⟩
  · have hi' : i < vs.length := by rw [h2, ← enum_len 0 us]; exact hi
    exact ⟨vs, vs[i], h1, by simp [hi']⟩
  · rw [enum_len, h2]; exact Nat.le_refl _
  · obtain ⟨vs, h1, r⟩ := h c st H l hH hg
    refine ⟨⟨vs, h1, r.length.symm⟩, fun i x H' hi y => ?_⟩
    obtain ⟨t, z, rfl, ht, rfl, hx⟩ := y
    obtain ⟨u, hu, ru⟩ := r.getV (hx vs h1)
    obtain ⟨n1, n2, n3⟩ := new_pair hH (.int (i : Int)) ru ht
    refine ⟨_, _, enum_get 0 us i u hu, n1, n2, ?_⟩
    rw [Nat.zero_add]
    exact n3
theorem pim_enumA {X : Cx} {T : Tb} {P : Pin} {Wx : WX} {e : Expr} {ma : MA} {p pos tpos : Pos} {elts : List Expr} {kk : Nat} (hK : X.K = T.K) (hg : Gl X "enumerate") (hm : X.mg "enumerate" = none) (ha : PAm X T P Wx [e] ma) (hs : starEach [e] X.env = [(false, eval e X.env)] := by rfl) :
    PIm X T P Wx (.Tuple elts kk tpos) (.Call (.Name "enumerate" p) [e] [] pos) (iEnumA ma) := by
  refine PI.imp (pi_enumA hg hm ha hs) fun σ H R ⟨c, env, st, hH, hE, hR⟩ => ?_
  refine (tg_bind hH hE hR).mono fun vs H1 ⟨us, c1, st1, l1, hH1, hE1, r1, hR1⟩ => ?_
  split at hR1
  · rename_i us'
    obtain ⟨v, vs', rfl, r, t⟩ := r1.inv_cons
    cases t.inv_nil
    obtain ⟨a, ws, rfl, h1, r2⟩ := r.inv_tup
    refine ⟨a, ws, rfl, .inr ⟨by rw [hK]; exact sqT_up hH1 h1, ?_⟩⟩
    rw [hK]
    exact ResG.ret hR1 hH1 (walk_of_enumT fun c2 st2 H2 l2 hH2 _ => ⟨ws, sqT_up hH2 (sqT_mono l2.F h1), r2.mono l2⟩)
  · rename_i us'
    obtain ⟨v, vs', rfl, r, t⟩ := r1.inv_cons
    cases t.inv_nil
    obtain ⟨a, ws, rfl, h1, r2⟩ := r.inv_lst
    refine ⟨a, ws, rfl, .inl ⟨by rw [hK]; exact SqL.of (hH1.sub _ _ h1), ?_⟩⟩
    rw [hK]
    exact ResG.ret hR1 hH1 (walk_of_enum fun c2 st2 H2 l2 hH2 _ => ⟨ws, SqL.of (hH2.sub _ _ (l2.F _ _ h1)), r2.mono l2⟩)
  · rename_i us'
    obtain ⟨v, vs', rfl, r, t⟩ := r1.inv_cons
    cases t.inv_nil
    obtain ⟨a, ws, rfl, h1, r2⟩ := r.inv_scr
    refine ⟨a, ws, rfl, .inl ⟨by rw [hK]; exact sqL_up hH1 h1, ?_⟩⟩
    rw [hK]
    exact ResG.ret hR1 hH1 (walk_of_enum fun c2 st2 H2 l2 hH2 _ => ⟨ws, sqL_up hH2 (sqL_mono l2.F h1), r2.mono l2⟩)
  · rename_i i
    obtain ⟨v, vs', rfl, r, t⟩ := r1.inv_cons
    cases t.inv_nil
    obtain ⟨hi, rfl⟩ := r.inv_loc
    split at hR1
    · rename_i us' es
      obtain ⟨ws, h1, r2⟩ := hH1.at_lst es
      refine ⟨_, ws, rfl, .inl ⟨by rw [hK]; exact SqL.of h1, ?_⟩⟩
      rw [hK]
      refine ResG.ret hR1 hH1 (walk_of_enum fun c2 st2 H2 l2 hH2 hg' => ?_)
      obtain ⟨ws', h2, r3⟩ := hH2.at_lst hg'
      rw [l2.ρ i hi] at h2
      exact ⟨ws', SqL.of h2, r3⟩
    · exact hR1.elim
  · exact hR1.elim
end
end NK

set_option Elab.async false
set_option linter.all false
set_option maxRecDepth 100000
set_option maxHeartbeats 2000000
/-! NK13: set comprehensions, isinstance, own ==, slices. -/
namespace NK
open PySem L2

/-! ### {elt for t in it if c}, ints -/
noncomputable def scM (g : Sto → Prop) (gt : MGt) (mt : MT) (me : ME) (D : Nat) (env : Env) : List U → Sto → Out U
  | [], st => open Classical in if g st then .ok (.loc D) st else .bad
  | u :: us, st => open Classical in if g st then (match gt u env st with
    | none => .bad
    | some env1 => match mt env1 st with
      | .ok true st1 => (match me env1 st1 with
        | .ok (.int k) st2 => match st2[D]? with
          | some (.iset ks) => if ks.length < 1000 then scM g gt mt me D env us (st2.set D (.iset (if k ∈ ks then ks else ks ++ [k]))) else .bad
          | _ => .bad
        | _ => .bad)
      | .ok false st1 => scM g gt mt me D env us st1
      | _ => .bad) else .bad
noncomputable def eSc (mi : MI) (gt : MGt) (mt : MT) (me : ME) (vs : List Nat) : ME := fun env st => (mi env st).bind fun p st1 => scM p.g gt mt me st1.length (wipeE env vs) p.us (st1 ++ [.iset []])
section
variable {X : Cx} {T : Tb} {P : Pin} {Wx : WX}
theorem iset_add (w : World) (a : Addr) (ks : List Int) (k : Int) : SetO w a (fun j => decide (j ∈ ks) || decide (j = k)) (if decide (k ∈ ks) = true then ks.length else ks.length + 1) = SetO w a (fun j => decide (j ∈ (if k ∈ ks then ks else ks ++ [k]))) (if k ∈ ks then ks else ks ++ [k]).length := by
  have e1 : (fun j : Int => decide (j ∈ ks) || decide (j = k)) = fun j => decide (j ∈ (if k ∈ ks then ks else ks ++ [k])) := by
    funext j
    by_cases h : k ∈ ks
    · rw [if_pos h]
      by_cases hj : j = k
      · subst hj; simp [h]
      · simp [hj]
    · rw [if_neg h]
      simp
  have e2 : (if decide (k ∈ ks) = true then ks.length else ks.length + 1) = (if k ∈ ks then ks else ks ++ [k]).length := by
    by_cases h : k ∈ ks
    · rw [if_pos h, if_pos (by simpa using h)]
    · rw [if_neg h, if_neg (by simpa using h)]
      simp
  rw [e1, e2]
theorem sc_run {J : It} {us : List U} {g : Sto → Prop} {gt : MGt} {tg : TG} {mt : MT} {me : ME} {tt : TT} {te : TE} {vs : List Nat} {c0 : Cn} {Q : VK} {σ : L2.St} (hw : WalkM T c0 J us g)
    (hg : ∀ v σ H Q, tgtOf T P gt v σ H Q → tg v σ H Q) (ht : ∀ σ H Q, ttOf T P Wx0 mt σ H Q → tt σ H Q) (he : ∀ σ H Q, teOf T P Wx0 me σ H Q → te σ H Q)
    (hp : ∀ i ∈ vs, pinned P i = false) (hgw : GW tg vs)
    {c : Cn} {env : Env} {st : Sto} {H : Hp} (l : Le c0 c) (hH : RH T c st H) (hE : RE T P c env σ) {D : Addr} (hD : H D = none) (hR : ResG T Wx c σ (Rp T) (scM g gt mt me st.length (wipeE env vs) us (st ++ [.iset []])) Q) :
    ∃ W : Nat → Nat → Hp → Prop, (∃ m, W 0 m (L2.upd H D (SetO T.w D (fun _ => false) 0))) ∧ ∀ i m H, W i m H →
      (J.stop i H ∧ Q (.ref D) H) ∨ (J.go i H ∧ ∃ Nx : Hp → Prop, (∀ H', Nx H' → ∃ m', m' < m ∧ W (i + 1) m' H') ∧ ∀ x H', J.yld i H x H' → tg x (L2.wipe σ vs) H' fun σ2 H2 => L2.wipe σ2 vs = L2.wipe σ vs ∧ tt σ2 H2 fun b H3 =>
        if b = true then te σ2 H3 fun y H4 => ∃ (c : Int) (S : Int → Bool) (n : Nat), y = .int c ∧ H4 D = some (SetO T.w D S n) ∧ n + 1 < scanBound ∧ Nx (L2.upd H4 D (SetO T.w D (fun j => S j || decide (j = c)) (if S c = true then n else n + 1))) else Nx H3) := by
  obtain ⟨G, Y, w, k⟩ := hw
  have start := hH.new hD (o := .iset []) (x := SetO T.w D (fun _ => false) 0) (show SetO T.w D (fun _ => false) 0 = SetO T.w D (fun k => decide (k ∈ ([] : List Int))) 0 by simp)
  have hpos : (c.new D).ρ st.length = D := by rw [← hH.n, new_self]
  have hlt : st.length < (c.new D).n := by show _ < c.n + 1; rw [hH.n]; exact Nat.lt_succ_self _
  have lD := le_new c D
  have hE0 : RE T P c (wipeE env vs) (L2.wipe σ vs) := hE.wipe vs hp
  generalize hn : st.length = n at hR hpos hlt
  obtain ⟨w0, w1, w2⟩ := w
  refine ⟨fun i m H => m = us.length - i ∧ i ≤ us.length ∧ ∃ c1 st1, Le (c.new D) c1 ∧ RH T c1 st1 H ∧ ResG T Wx c σ (Rp T) (scM g gt mt me n (wipeE env vs) (us.drop i) st1) Q, ⟨us.length, rfl, Nat.zero_le _, _, _, Le.refl _, start, hR⟩, ?_⟩
  rintro i m H ⟨rfl, hi, c1, st1, l1, hH1, hR1⟩
  have hg' : g st1 := by
    cases q : us.drop i with
    | nil =>
      rw [q] at hR1
      unfold scM at hR1
      split at hR1
      · assumption
      · exact hR1.elim
    | cons u r =>
      rw [q] at hR1
      unfold scM at hR1
      split at hR1
      · assumption
      · exact hR1.elim
  have kk := k c1 st1 H ((l.trans lD).trans l1) hH1 hg'
  by_cases hlt' : i < us.length
  · refine .inr ⟨w0 i H hlt' kk.1, fun H' => i + 1 ≤ us.length ∧ ∃ c1 st1, Le (c.new D) c1 ∧ RH T c1 st1 H' ∧ ResG T Wx c σ (Rp T) (scM g gt mt me n (wipeE env vs) (us.drop (i + 1)) st1) Q, fun H' h' => ⟨us.length - (i + 1), by omega, rfl, h'.1, h'.2⟩, fun x H' y => ?_⟩
    have y' := w2 i H x H' hlt' kk.1 y
    have hd : us.drop i = us[i] :: us.drop (i + 1) := List.drop_eq_getElem_cons hlt'
    rw [hd] at hR1
    unfold scM at hR1
    rw [if_pos hg'] at hR1
    obtain ⟨c2, u, hu, l2, hH2, r2⟩ := kk.2 i x H' hlt' y'
    have eu : us[i] = u := by
      rw [List.getElem?_eq_getElem hlt'] at hu
      exact Option.some.inj hu
    rw [eu] at hR1
    have hE2 : RE T P c2 (wipeE env vs) (L2.wipe σ vs) := hE0.mono ((lD.trans l1).trans l2)
    split at hR1
    · exact hR1.elim
    · rename_i env1 q
      refine hgw x σ _ _ (hg _ _ _ _ ⟨c2, wipeE env vs, st1, u, env1, hH2, hE2, r2, q, fun σ1 hE1 _ => ?_⟩)
      refine ht _ _ _ ⟨c2, env1, st1, hH2, hE1, ?_⟩
      split at hR1
      · rename_i st2 qt
        rw [qt]
        intro c3 b H3 l3 hH3 eb
        cases (show true = b from eb)
        rw [if_pos rfl]
        refine he _ _ _ ⟨c3, env1, st2, hH3, hE1.mono l3, ?_⟩
        split at hR1
        · rename_i kv st3 qe
          rw [qe]
          intro c4 z H4 l4 hH4 r4
          cases r4.inv_int
          split at hR1
          · rename_i ks qa
            obtain ⟨o, h1, ra, _⟩ := hH4.act n _ qa (fun z => nomatch z)
            have hl4 := ((l1.trans l2).trans l3).trans l4
            have e4 : c4.ρ n = D := (hl4.ρ n hlt).trans hpos
            rw [e4] at h1
            have ra' : o = SetO T.w D (fun k => decide (k ∈ ks)) ks.length := by
              have : o = SetO T.w (c4.ρ n) (fun k => decide (k ∈ ks)) ks.length := ra
              rw [this, e4]
            subst ra'
            split at hR1
            · rename_i hz
              refine ⟨kv, _, _, rfl, h1, by have : scanBound = 4096 := rfl; omega, hlt', c4, _, hl4, ?_, hR1⟩
              rw [iset_add]
              have := hH4.set qa (fun z => nomatch z) (o' := .iset (if kv ∈ ks then ks else ks ++ [kv])) (x := SetO T.w (c4.ρ n) (fun j => decide (j ∈ (if kv ∈ ks then ks else ks ++ [kv]))) (if kv ∈ ks then ks else ks ++ [kv]).length) rfl
              rw [e4] at this
              exact this
            · exact hR1.elim
          · exact hR1.elim
        · exact hR1.elim
      · rename_i st2 qt
        rw [qt]
        intro c3 b H3 l3 hH3 eb
        cases (show false = b from eb)
        rw [if_neg Bool.false_ne_true]
        exact ⟨hlt', c3, st2, (l1.trans l2).trans l3, hH3, hR1⟩
      · exact hR1.elim
  · have ei : i = us.length := by omega
    subst ei
    refine .inl ⟨w1 H kk.1, ?_⟩
    rw [List.drop_length] at hR1
    unfold scM at hR1
    rw [if_pos hg'] at hR1
    have e : V.ref D = V.ref (c1.ρ n) := by rw [l1.ρ n hlt, hpos]
    rw [e]
    exact hR1 c1 _ H (lD.trans l1) hH1 (.loc (Nat.lt_of_lt_of_le hlt l1.n))
theorem pem_sc {elt tg iter : Expr} {ifs : List Expr} {scope : Scope} {pos : Pos} {own : List (Str × Nat)} {tgr : TG} {mi : MI} {gt : MGt} {mt : MT} {me : ME} (hw : X.w = T.w) (hc : X.calm = true) (hN : X.N.Nodup) (hi : PIm X T P Wx tg iter mi) (ok : BlkOk X.N X.env.scope scope own)
    (hg : ∀ (s : Shared) (H : Hp) (C : Addr) (cl : List (Str × Addr)) (fp : List Addr), PG (X.blk s H scope (compEnvC scope cl C X.env) fp) tg tgr) (hgr : ∀ v σ H Q, tgtOf T P gt v σ H Q → tgr v σ H Q) (hgw : GW tgr (own.map (·.2)))
    (ht : ∀ (s : Shared) (H : Hp) (C : Addr) (cl : List (Str × Addr)) (fp : List Addr), PTs (X.blk s H scope (compEnvC scope cl C X.env) fp) ifs (ttOf T P Wx0 mt))
    (he : ∀ (s : Shared) (H : Hp) (C : Addr) (cl : List (Str × Addr)) (fp : List Addr), PEm (X.blk s H scope (compEnvC scope cl C X.env) fp) T P Wx0 elt me) (hp : ∀ i ∈ own.map (·.2), pinned P i = false := by intro i _; rfl) (hs : ∀ x, foldedSetIterable iter X.env x = pure x := by intro _; rfl) :
    PEm X T P Wx (.SetComp elt [⟨tg, iter, ifs, 0⟩] scope pos) (eSc mi gt mt me (own.map (·.2))) :=
  PE.imp (pe_scI hc hN hi ok hg ht he hs) fun σ H Q ⟨c, env, st, hH, hE, hR⟩ => by
    refine (tg_bind hH hE hR).mono fun J H1 ⟨p, c1, st1, l1, hH1, hE1, r1, hR1⟩ D hD => ?_
    rw [hw]
    exact sc_run r1 hgr (fun _ _ _ h => h) (fun _ _ _ h => h) hp hgw (Le.refl c1) hH1 hE1 hD hR1
end

/-! ### isinstance -/
inductive Tr where
  | b (t : Ty)
  | o (k : Nat)
  deriving DecidableEq
def Tr.v (T : Tb) : Tr → Value
  | .b t => .type t.name
  | .o k => .ref (T.cls k)
def Tr.x (T : Tb) : Tr → V
  | .b t => .ty t.name
  | .o k => .ref (T.cls k)
def trOf (u : U) (st : Sto) : Option Tr := match u with
  | .non => some (.b .none)
  | .bl _ => some (.b .bool)
  | .int _ => some (.b .int)
  | .str _ => some (.b .str)
  | .tup _ => some (.b .tuple)
  | .lst _ => some (.b .list)
  | .scr _ => some (.b .list)
  | .ins k _ => some (.o k)
  | .loc i => match st[i]? with
    | some (.lst _) => some (.b .list)
    | some (.dK _) => some (.b .dict)
    | some (.ins k _) => some (.o k)
    | _ => none
  | _ => none
/-- isinstance of two built-in classes -/
def isiB : Ty → Ty → Option Bool
  | _, .none => none
  | .bool, .int => some true
  | a, b => some (a == b)
theorem isiB_ok {K : PySem.W.Frag} {a b : Ty} {r : Bool} (h : isiB a b = some r) : PySem.W.kitOne K (.type a.name) (.type b.name) = some r := by
  refine kit_ty ?_
  cases a <;> cases b <;> first | (cases h; decide +kernel) | cases h
abbrev IsL := List ((Tr × Tr) × Bool)
def isOne (l : IsL) (t c : Tr) : Option Bool := match t, c with
  | .b x, .b y => isiB x y
  | t, c => l.lookup (t, c)
def isAny (l : IsL) (t : Tr) : List Tr → Option Bool
  | [] => some false
  | c :: r => match isOne l t c with
    | some true => some true
    | some false => isAny l t r
    | none => none
/-- an own class whose instances may be asked -/
structure InsC (T : Tb) (k : Nat) : Prop where
  cl : Cls T.K (T.cls k)
  ha : PySem.W.findIn T.K (.ref (T.cls k)) "__class__" = some (some (.builtin "object.__class__"))
  hn : PySem.W.specialIn T.K (.builtin "object.__class__") "__get__" = some (some (.builtin "getset_descriptor.__get__"))
  ht : PySem.W.takesIn T.K (.builtin "object.__class__") = some true
  hm : PySem.W.mroIn T.K (T.cls k) (.type "object") = some true
def TrOk (T : Tb) : Tr → Prop
  | .b _ => True
  | .o k => InsC T k
def IsOk (T : Tb) (l : IsL) : Prop := ∀ p ∈ l, TrOk T p.1.1 ∧ PySem.W.kitOne T.K (p.1.1.v T) (p.1.2.v T) = some p.2
theorem mem_lookup {l : IsL} {k : Tr × Tr} {b : Bool} : l.lookup k = some b → (k, b) ∈ l := by
  induction l with
  | nil => intro h; cases h
  | cons a l ih =>
    intro h
    obtain ⟨y, v⟩ := a
    simp only [List.lookup] at h
    split at h
    · rename_i hh
      cases h
      rw [beq_iff_eq] at hh
      subst hh
      exact List.mem_cons_self
    · exact List.mem_cons_of_mem _ (ih h)
theorem isOne_ok {T : Tb} {l : IsL} (h : IsOk T l) {t c : Tr} {b : Bool} (e : isOne l t c = some b) : TrOk T t ∧ PySem.W.kitOne T.K (t.v T) (c.v T) = some b := by
  unfold isOne at e
  split at e
  · exact ⟨True.intro, isiB_ok e⟩
  · exact h _ (mem_lookup e)
theorem isAny_ok {T : Tb} {l : IsL} (h : IsOk T l) {t : Tr} : ∀ {cs : List Tr} {b : Bool}, cs ≠ [] → isAny l t cs = some b → TrOk T t ∧ PySem.W.kitAny T.K (t.v T) (cs.map (·.v T)) = some b
  | [], _, n, _ => absurd rfl n
  | c :: r, b, _, e => by
    unfold isAny at e
    cases q : isOne l t c with
    | none => rw [q] at e; cases e
    | some b1 =>
      obtain ⟨h1, h2⟩ := isOne_ok h q
      refine ⟨h1, kitAny_cons h2 (fun hb => ?_) fun hb => ?_⟩
      · subst hb
        rw [q] at e
        cases r with
        | nil => cases e; exact kitAny_nil
        | cons d r => exact (isAny_ok h (cs := d :: r) (by simp) e).2
      · subst hb
        rw [q] at e
        exact (Option.some.inj e).symm
section
variable {X : Cx} {T : Tb} {P : Pin} {Wx : WX} {e ce : Expr} {es : List Expr} {me : ME} {p pos p2 : Pos}
theorem tr_at {c : Cn} {st : Sto} {H : Hp} (h : RH T c st H) {u : U} {v : V} {t : Tr} (r : Rp T c u v) (e : trOf u st = some t) (ok : TrOk T t) : TyX T.K H v (t.v T) := by
  have lst : ∀ {a : Addr} {vs : List V}, SqL T.K H a vs → TyX T.K H (.ref a) (.type "list") := fun {a vs} q => by
    rcases q with (q | ⟨o, q⟩) | q
    · exact .base (.lst q)
    · exact .base (.frz q)
    · obtain ⟨o, _, _, q1, q2, _⟩ := q
      exact .kList q1 q2
  have tup : ∀ {a : Addr} {vs : List V}, SqT T.K H a vs → TyX T.K H (.ref a) (.type "tuple") := fun {a vs} q => by
    rcases q with (q | ⟨o, q⟩) | q
    · exact .base (.tup q)
    · exact .fTuple q
    · obtain ⟨o, _, _, q1, q2, _⟩ := q
      exact .kTuple q1 q2
  cases u with
  | non => cases r; cases e; exact .base .non
  | bl b => cases r; cases e; exact .base (.bl b)
  | int b => cases r; cases e; exact .base (.int b)
  | str b => cases r; cases e; exact .base (.str b)
  | tup us => obtain ⟨a, vs, rfl, h1, _⟩ := r.inv_tup; cases e; exact tup (sqT_up h h1)
  | lst us => obtain ⟨a, vs, rfl, h1, _⟩ := r.inv_lst; cases e; exact .base (.lst (h.sub _ _ h1))
  | scr us => obtain ⟨a, vs, rfl, h1, _⟩ := r.inv_scr; cases e; exact lst (sqL_up h h1)
  | ins k us =>
    obtain ⟨a, dx, vs, rfl, h1, _⟩ := r.inv_ins
    cases e
    exact .base (.ins (h.sub _ _ h1) ok.cl ok.ha ok.hn ok.ht ok.hm)
  | loc i =>
    obtain ⟨_, rfl⟩ := r.inv_loc
    dsimp only [trOf] at e
    split at e
    · rename_i us q
      cases e
      obtain ⟨vs, h1, _⟩ := h.at_lst q
      exact .base (.lst h1)
    · rename_i us q
      cases e
      obtain ⟨vs, h1, _⟩ := h.at_dK q
      exact .base (.dK h1)
    · rename_i k us q
      cases e
      obtain ⟨dx, vs, h1, _⟩ := h.at_ins q
      exact .base (.ins h1 ok.cl ok.ha ok.hn ok.ht ok.hm)
    · cases e
  | _ => cases e
def eIsi (l : IsL) (cs : List Tr) (me : ME) : ME := fun env st => (me env st).bind fun u st1 => match trOf u st1 with
  | some t => match isAny l t cs with
    | some b => .ok (.bl b) st1
    | none => .bad
  | none => .bad
theorem clsV (t : Tr) : ClsV (t.x T) (t.v T) := by
  cases t with
  | b t => exact .ty _
  | o k => exact .own _
/-- isinstance(e, c) -/
theorem pem_isi1 {l : IsL} {c : Tr} (ok : IsOk T l) (hK : X.K = T.K) (hg : Gl X "isinstance") (hm : X.mg "isinstance" = none) (he : PEm X T P Wx e me) (hc : PE X ce (tC (c.x T)))
    (hs : starEach [e, ce] X.env = (false, eval e X.env) :: starEach [ce] X.env := by rfl) (hs2 : starEach [ce] X.env = (false, eval ce X.env) :: starEach [] X.env := by rfl) (hpl : (backTo pos (starEach [ce] X.env)).any (·.1) = false := by rfl) :
    PEm X T P Wx (.Call (.Name "isinstance" p) [e, ce] [] pos) (eIsi l [c] me) :=
  PE.imp (pe_callB call_isi hg hm PyProof.Rows.Boot.«isinstance» (pa_cons he (pa_cons hc pa_nil hs2) hs) (by decide) (by decide) hs hpl) fun σ H Q ⟨cn, env, st, hH, hE, hR⟩ => by
    refine (tg_bind hH hE hR).mono fun x H1 ⟨u, c1, st1, l1, hH1, hE1, r1, hR1⟩ => ?_
    split at hR1
    · rename_i t e1
      split at hR1
      · rename_i b e2
        have e3 : isOne l t c = some b := by
          unfold isAny at e2
          split at e2
          · rename_i q; rw [q]; exact e2
          · rename_i q; rw [q]; exact e2
          · cases e2
        obtain ⟨h1, h2⟩ := isOne_ok ok e3
        refine ⟨x, c.x T, t.v T, c.v T, b, rfl, clsV c, ?_, ?_, hR1.ret hH1 (.bl b)⟩
        · rw [hK]; exact tr_at hH1 r1 e1 h1
        · rw [hK]; exact h2
      · exact hR1.elim
    · exact hR1.elim
theorem clsVs : ∀ cs : List Tr, Paired ClsV (cs.map (·.x T)) (cs.map (·.v T))
  | [] => .nil
  | c :: r => .cons (clsV c) (clsVs r)
def tTrs (T : Tb) : List Tr → TA
  | [] => tNil
  | c :: r => tCons (tC (c.x T)) (tTrs T r)
theorem trs_run (cs : List Tr) (σ : L2.St) (H : Hp) (Q : List V → Hp → Prop) (h : Q (cs.map (·.x T)) H) : tTrs T cs σ H Q := by
  induction cs generalizing Q with
  | nil => exact h
  | cons c r ih => exact ih _ h
/-- isinstance(e, (c1, c2, ..)) -/
theorem pem_isiT {l : IsL} {cs : List Tr} {x1} (ok : IsOk T l) (hK : X.K = T.K) (hg : Gl X "isinstance") (hm : X.mg "isinstance" = none) (he : PEm X T P Wx e me) (hc : PA X es (tTrs T cs)) (hne : cs ≠ []) (hsz : cs.length ≤ 1000)
    (hs : starEach [e, .Tuple es x1 p2] X.env = (false, eval e X.env) :: starEach [.Tuple es x1 p2] X.env := by rfl) (hs2 : starEach [.Tuple es x1 p2] X.env = (false, eval (.Tuple es x1 p2) X.env) :: starEach [] X.env := by rfl) (hpl : (backTo pos (starEach [.Tuple es x1 p2] X.env)).any (·.1) = false := by rfl) :
    PEm X T P Wx (.Call (.Name "isinstance" p) [e, .Tuple es x1 p2] [] pos) (eIsi l cs me) :=
  PE.imp (pe_callB call_isiT hg hm PyProof.Rows.Boot.«isinstance» (pa_cons he (pa_cons (pe_tup hc) pa_nil hs2) hs) (by decide) (by decide) hs hpl) fun σ H Q ⟨cn, env, st, hH, hE, hR⟩ => by
    refine (tg_bind hH hE hR).mono fun x H1 ⟨u, c1, st1, l1, hH1, hE1, r1, hR1⟩ => ?_
    refine trs_run cs σ H1 _ ⟨by rw [List.length_map, sizeLine_eq]; omega, fun tp htp => ?_⟩
    split at hR1
    · rename_i t e1
      split at hR1
      · rename_i b e2
        obtain ⟨h1, h2⟩ := isAny_ok ok hne e2
        have l2 := le_still hH1 htp (.tup (cs.map (·.x T)))
        have hH2 := hH1.still htp (.tup (cs.map (·.x T)))
        refine ⟨x, tp, cs.map (·.x T), t.v T, cs.map (·.v T), b, rfl, upd_same, ?_, ?_, ?_, hR1 _ _ _ l2 hH2 (.bl b)⟩
        · exact clsVs cs
        · rw [hK]; exact tr_at hH2 (r1.mono l2) e1 h1
        · rw [hK]; exact h2
      · exact hR1.elim
    · exact hR1.elim

/-! ### a == b by an own __eq__ -/
def rOwn (K : PySem.W.Frag) (C : Addr) (sp : Sp) : R2 := fun x y H Q => ∃ a dx fs t, x = .ref a ∧ H a = some (.ins C dx fs) ∧ TyX K H y t ∧ PySem.W.notFirst K C t = true ∧ sp [x, y] H (fun v H' => ∃ b, v = .bl b ∧ Q (.bl b) H') (fun _ _ _ => False)
theorem op_own {CX : CXT} {C f : Addr} {kk : Nat} {fd : FuncData} {ps : List Str} {sp : Sp} (F : FnOk X.prog X.w X.K X.mg X.base CX kk f fd ps sp) (hr : Room kk X.A)
    (hs : PySem.W.findIn X.K (.ref C) "__eq__" = some (some (.ref f))) (hf : PySem.W.isFn X.K (.ref f) = true) (hb : Binds X.K fd ps []) (hx : Passes CX X (fun _ _ _ => False)) : OpR X (compareOp .Eq) (rOwn X.K C sp) := by
  intro pins s σ H x y v u Q I rx ry hq
  obtain ⟨a, dx, fs, t, rfl, ha, ty, nf, hsp⟩ := hq
  cases rx
  show wpAny (model X.prog X.w) X.A (richCompare .Eq (.ref a) u) (EP X pins σ Q) X.xe s
  obtain ⟨mA, J, _⟩ := ins_get I.hok ha
  obtain ⟨od, J, _⟩ := J.look
  obtain ⟨m, hF⟩ := I.fr
  obtain ⟨PP, Z, pz, _⟩ := kit_of I ry ty
  refine PySem.W.cmp_K (op := .Eq) (tb := t) hr.units0 hF I.ok.mod.kin J (Z.ty _ _ I.kIn pz) nf hs hf ?_
  have r2 : Vals [V.ref a, y] [Value.ref a, u] := .cons rfl (.cons ry .nil)
  have hl := F.len _ _ _ _ hsp
  refine wpAny_call (codeAny_mono (F.run X.A X.stack s H ⟨[.ref a, u], []⟩ [.ref a, u] [.ref a, y] _ _ hr I.env0 (by
    have := hb s [.ref a, u] I.kIn (by simpa using hl)
    simpa using this) r2 hsp) fun r s' hq => ?_)
  cases r with
  | error e => exact hx pins σ H s e s' I hq
  | ok fl =>
    cases fl with
    | ret w =>
      obtain ⟨z, H', I', rz, b, ez, q⟩ := I.after hq
      subst ez
      cases rz
      exact ⟨.bl b, H', I', rfl, q⟩
    | next => exact False.elim hq
    | brk => exact False.elim hq
    | cont => exact False.elim hq
def fEqO (k : Nat) (nf : List Tr) (mf : MF) : U → U → Sto → Out U := fun u w st => if isK k u st = true then (match trOf w st with
  | some t => if t ∈ nf then (match mf [u, w] st with
    | .ok (.bl b) st' => .ok (.bl b) st'
    | _ => .bad) else .bad
  | none => .bad) else .bad
theorem sim_own {k : Nat} {nf : List Tr} {mf : MF} (hnf : ∀ t ∈ nf, TrOk T t ∧ PySem.W.notFirst T.K (T.cls k) (t.v T) = true) : OpSim T (rOwn T.K (T.cls k) (spOf T 2 mf)) (fEqO k nf mf) := fun Wx c σ st H u w x y Q hH r1 r2 hR => by
  unfold fEqO at hR
  split at hR
  · rename_i hk
    obtain ⟨a, dx, vs, rfl, h1⟩ := isK_at hH r1 hk
    split at hR
    · rename_i t et
      split at hR
      · rename_i hm
        obtain ⟨k1, k2⟩ := hnf t hm
        refine ⟨a, dx, _, t.v T, rfl, h1, tr_at hH r2 et k1, k2, rfl, c, [u, w], st, hH, .cons r1 (.cons r2 .nil), ?_⟩
        split at hR
        · rename_i b st' q
          rw [q]
          intro c' v H' l hH' rv
          cases rv.inv_bl
          exact ⟨b, rfl, hR c' _ H' l hH' (.bl b)⟩
        · exact hR.elim
      · exact hR.elim
    · exact hR.elim
  · exact hR.elim

/-! ### xs[lo:hi], a list -/
def cutU (us : List U) (lo hi : Option Int) : List U := (us.drop (HT.sIx us.length 0 lo)).take (HT.sIx us.length us.length hi - HT.sIx us.length 0 lo)
def eSl (m : ME) (lo hi : Option ME) : ME := fun env st => (m env st).bind fun x st1 =>
  ((match lo with | none => Out.ok none st1 | some f => (f env st1).bind fun i s => match i with | .int k => .ok (some k) s | _ => .bad) : Out (Option Int)).bind fun l st2 =>
  ((match hi with | none => Out.ok none st2 | some f => (f env st2).bind fun i s => match i with | .int k => .ok (some k) s | _ => .bad) : Out (Option Int)).bind fun h st3 =>
  match lsts x st3 with
  | some us => .ok (.loc st3.length) (st3 ++ [.lst (cutU us l h)])
  | none => .bad
where lsts (u : U) (st : Sto) : Option (List U) := match u with
  | .lst us => some us
  | .scr us => some us
  | .loc i => match st[i]? with
    | some (.lst us) => some us
    | _ => none
  | _ => none
theorem lsts_at {c : Cn} {st : Sto} {H : Hp} (h : RH T c st H) {u : U} {v : V} {us : List U} (r : Rp T c u v) (e : eSl.lsts u st = some us) : ∃ a vs, v = .ref a ∧ SqL T.K H a vs ∧ RpL T c us vs := by
  cases u with
  | lst xs => obtain ⟨a, vs, rfl, h1, h2⟩ := r.inv_lst; cases e; exact ⟨a, vs, rfl, SqL.of (h.sub _ _ h1), h2⟩
  | scr xs => obtain ⟨a, vs, rfl, h1, h2⟩ := r.inv_scr; cases e; exact ⟨a, vs, rfl, sqL_up h h1, h2⟩
  | loc i =>
    obtain ⟨_, rfl⟩ := r.inv_loc
    dsimp only [eSl.lsts] at e
    split at e
    · rename_i xs q
      cases e
      obtain ⟨vs, h1, h2⟩ := h.at_lst q
      exact ⟨_, vs, rfl, SqL.of h1, h2⟩
    · cases e
  | _ => cases e
def toOf (T : Tb) (P : Pin) (Wx : WX) (m : Option ME) : TO := match m with
  | none => tNoPart
  | some f => tPart (teOf T P Wx f)
def POm (X : Cx) (T : Tb) (P : Pin) (Wx : WX) (e : Option Expr) (m : Option ME) : Prop := PO X e (toOf T P Wx m)
theorem pom_none : POm X T P Wx none none := po_none
theorem pom_some (h : PEm X T P Wx e me) : POm X T P Wx (some e) (some me) := po_some h
theorem part_run {c : Cn} {env : Env} {st : Sto} {σ : L2.St} {H : Hp} {Q : VK} {m : Option ME} {kk : Option Int → Sto → Out U} (hH : RH T c st H) (hE : RE T P c env σ)
    (hR : ResG T Wx c σ (Rp T) (((match m with | none => Out.ok none st | some f => (f env st).bind fun i s => match i with | .int k => .ok (some k) s | _ => .bad) : Out (Option Int)).bind kk) Q) :
    toOf T P Wx m σ H fun o H1 => ∃ c1 st1, Le c c1 ∧ RH T c1 st1 H1 ∧ RE T P c1 env σ ∧ ResG T Wx c1 σ (Rp T) (kk o st1) Q := by
  cases m with
  | none => exact ⟨c, st, Le.refl c, hH, hE, hR⟩
  | some f =>
    refine ⟨c, env, st, hH, hE, ?_⟩
    dsimp only at hR
    cases q : f env st with
    | ok u st1 =>
      rw [q] at hR
      intro c1 v H1 l hH1 r
      cases u with
      | int k =>
        cases r.inv_int
        exact ⟨k, rfl, c1, st1, l, hH1, hE.mono l, ResG.later l hR⟩
      | _ => exact hR.elim
    | exc x st1 => rw [q] at hR; exact hR
    | bad => rw [q] at hR; exact hR
theorem pem_sl {lo hi : Option Expr} {ml mh : Option ME} (hK : X.K = T.K) (he : PEm X T P Wx e me) (hl : POm X T P Wx lo ml) (hu : POm X T P Wx hi mh) : PEm X T P Wx (.Subscript e (.Slice lo hi none p2) pos) (eSl me ml mh) :=
  PE.imp (pe_slice sl_list he hl hu) fun σ H Q ⟨c, env, st, hH, hE, hR⟩ => by
    refine (tg_bind hH hE hR).mono fun x H1 ⟨u, c1, st1, l1, hH1, hE1, r1, hR1⟩ => ?_
    have mo : ∀ {m : Option ME} {σ : L2.St} {H : Hp} {Q Q' : Option Int → Hp → Prop}, toOf T P Wx m σ H Q → (∀ o H, Q o H → Q' o H) → toOf T P Wx m σ H Q' := fun {m σ H Q Q'} h k => by
      cases m with
      | none => exact k _ _ h
      | some f => exact tgOf.mono h fun v H ⟨i, e, q⟩ => ⟨i, e, k _ _ q⟩
    refine mo (part_run hH1 hE1 hR1) fun lo H2 ⟨c2, st2, l2, hH2, hE2, hR2⟩ => ?_
    refine mo (part_run hH2 hE2 hR2) fun hi H3 ⟨c3, st3, l3, hH3, hE3, hR3⟩ => ?_
    split at hR3
    · rename_i us e1
      obtain ⟨a, vs, rfl, h1, h2⟩ := lsts_at hH3 ((r1.mono l2).mono l3) e1
      refine ⟨a, vs, rfl, by rw [hK]; exact h1, fun p hp => ?_⟩
      have l := le_new c3 p
      have hlt : st3.length < (c3.new p).n := by show _ < c3.n + 1; rw [hH3.n]; exact Nat.lt_succ_self _
      have e : V.ref p = V.ref ((c3.new p).ρ st3.length) := by rw [← hH3.n, new_self]
      have r3 : RpL T c3 (cutU us lo hi) (cutV vs lo hi) := by
        unfold cutU cutV
        rw [h2.length]
        exact (h2.drop _).take _
      rw [e]
      exact hR3 _ _ _ l (hH3.new hp (o := .lst (cutU us lo hi)) (x := .lst (cutV vs lo hi)) ⟨_, rfl, r3⟩) (.loc hlt)
    · exact hR3.elim
end
end NK

set_option Elab.async false
set_option linter.all false
set_option maxRecDepth 100000
set_option maxHeartbeats 2000000
/-! NK14: words for the printed texts. -/
namespace NK
open PySem L2
theorem bt_len : bootBuiltins "len" = some (.builtin "len") := by decide +kernel
theorem bt_abs : bootBuiltins "abs" = some (.builtin "abs") := by decide +kernel
theorem bt_min : bootBuiltins "min" = some (.builtin "min") := by decide +kernel
theorem bt_sum : bootBuiltins "sum" = some (.builtin "sum") := by decide +kernel
theorem bt_int : bootBuiltins "int" = some (.type "int") := by decide +kernel
theorem bt_bool : bootBuiltins "bool" = some (.type "bool") := by decide +kernel
theorem bt_str : bootBuiltins "str" = some (.type "str") := by decide +kernel
theorem bt_list : bootBuiltins "list" = some (.type "list") := by decide +kernel
theorem bt_tuple : bootBuiltins "tuple" = some (.type "tuple") := by decide +kernel
theorem bt_dict : bootBuiltins "dict" = some (.type "dict") := by decide +kernel
theorem gr_name {T : Tb} {P : Pin} {i : Nat} (hp : pinned P i = false) (v : V) (σ : L2.St) (H : Hp) (Q : L2.St → Hp → Prop) (h : tgtOf T P (gN i) v σ H Q) : gName i v σ H Q := by
  obtain ⟨c, env, st, u, env', hH, hE, r, e, k⟩ := h
  cases e
  exact k _ (hE.set r i hp)
section
variable {P : Program} {w : World} {K : PySem.W.Frag} {mg : Str → Option Value} {base : Heap} {T : Tb} {x qual : Str} {params : Arguments} {body : List Stmt} {scope : Scope} {dvs : List V} {kws : List (Str × V)} {f : Addr} {fd : FuncData} {N ps : List Str} {k : Nat} {mb : MS}
open PyProof.Rows (envOfC) in
/-- a def by its printed derivation -/
theorem fund_okm (F : FunD K x qual params body scope dvs kws f fd) (S : FnScope N ps scope)
    (hb : ∀ (cdv : Value) (A : Around) (outer : List PySem.Env) (s : Shared) (H : Hp) (E : XK), Room k (A.deeper (envOfC qual scope s.heap.objs.size f cdv)) →
      PSsm (cxOf (L2.CX P w) P w K mg base N qual scope f cdv A outer s H E) T none (fun cls d _ H => E cls d H) body mb) : FnOk P w K mg base (L2.CX P w) (k + 1) f fd ps (spOf T ps.length (fScope (runF N.length mb))) := by
  refine (F.ok S (fun vs H Q E h => h.1) (fun cdv A outer s H vs Q E hr h => ⟨_, hb cdv A outer s H E hr, ?_⟩) : FnOk P w K mg base (L2.CX P w) (k + 1) f fd ps (spOf T ps.length (runF N.length mb))).imp spOf_scope
  obtain ⟨hl, c, us, st0, hH, r, hR⟩ := h
  refine ⟨c, _, st0, hH, start_RE r, ?_⟩
  unfold runF at hR
  cases q : mb (us.map some ++ List.replicate (N.length - us.length) none) st0 with
  | ret u st' => rw [q] at hR; exact fun c' v H' a b d => hR c' v H' a b d
  | next env st' => rw [q] at hR; exact fun c' σ' H' a b d => hR c' .non H' a b .non
  | exc x' env st' => rw [q] at hR; exact fun c' cls d σ' H' a b _ e => hR c' cls d H' a b e
  | brk env st' => rw [q] at hR; exact hR.elim
  | cont env st' => rw [q] at hR; exact hR.elim
  | bad => rw [q] at hR; exact hR.elim
open PyProof.Rows (envOfC) in
/-- the same where the answer may go on changing -/
theorem fund_okl (F : FunD K x qual params body scope dvs kws f fd) (S : FnScope N ps scope)
    (hb : ∀ (cdv : Value) (A : Around) (outer : List PySem.Env) (s : Shared) (H : Hp) (E : XK), Room k (A.deeper (envOfC qual scope s.heap.objs.size f cdv)) →
      PSsm (cxOf (L2.CX P w) P w K mg base N qual scope f cdv A outer s H E) T none (fun cls d _ H => E cls d H) body mb) : FnOk P w K mg base (L2.CX P w) (k + 1) f fd ps (spOf T ps.length (runF N.length mb)) := by
  refine F.ok S (fun vs H Q E h => h.1) (fun cdv A outer s H vs Q E hr h => ⟨_, hb cdv A outer s H E hr, ?_⟩)
  obtain ⟨hl, c, us, st0, hH, r, hR⟩ := h
  refine ⟨c, _, st0, hH, start_RE r, ?_⟩
  unfold runF at hR
  cases q : mb (us.map some ++ List.replicate (N.length - us.length) none) st0 with
  | ret u st' => rw [q] at hR; exact fun c' v H' a b d => hR c' v H' a b d
  | next env st' => rw [q] at hR; exact fun c' σ' H' a b d => hR c' .non H' a b .non
  | exc x' env st' => rw [q] at hR; exact fun c' cls d σ' H' a b _ e => hR c' cls d H' a b e
  | brk env st' => rw [q] at hR; exact hR.elim
  | cont env st' => rw [q] at hR; exact hR.elim
  | bad => rw [q] at hR; exact hR.elim
theorem fund_mk {oc : Value} {od an : Option Addr} {osl : Array (Option Value)} {kV doc pm cdv ct : Value} (l : K.lookup f = some ⟨oc, od, .func (PySem.W.fnOf x qual params body scope .none kV doc pm an cdv ct), osl⟩)
    (c : PySem.W.codeIn K cdv qual = true) (k : PySem.W.keepIn K (.ref f) = true) : FunD K x qual params body scope [] [] f (PySem.W.fnOf x qual params body scope .none kV doc pm an cdv ct) := ⟨⟨oc, od, .none, kV, doc, pm, an, cdv, ct, osl, rfl, l, c, .inl ⟨rfl, rfl⟩, .inl rfl⟩, k⟩
theorem fund_mkd {oc oct : Value} {od an odt : Option Addr} {osl slt : Array (Option Value)} {kV doc pm cdv ct : Value} {t : Addr} {its : List Value} {n : Nat} (hd : dvs ≠ []) (l : K.lookup f = some ⟨oc, od, .func (PySem.W.fnOf x qual params body scope (.ref t) kV doc pm an cdv ct), osl⟩)
    (c : PySem.W.codeIn K cdv qual = true) (k : PySem.W.keepIn K (.ref f) = true) (lt : K.lookup t = some ⟨oct, odt, .seq its.toArray n, slt⟩) (r : Vals dvs its) : FunD K x qual params body scope dvs [] f (PySem.W.fnOf x qual params body scope (.ref t) kV doc pm an cdv ct) :=
  ⟨⟨oc, od, .ref t, kV, doc, pm, an, cdv, ct, osl, rfl, l, c, .inr ⟨hd, t, _, its, n, rfl, lt, rfl, r⟩, .inl rfl⟩, k⟩
/-- all parameters are written -/
theorem vals_nil {ds : List Value} (h : Vals [] ds) : ds = [] := by cases h; rfl
end
/-- a, b = x, y: stored from the right -/
def sPar (i j : Nat) (ma : MA) : MS := fun env st => (ma env st).st env fun us st1 => match us with
  | [u, w] => .next ((env.set i (some u)).set j (some w)) st1
  | _ => .bad
theorem psm_par {X : Cx} {T : Tb} {P : Pin} {Wx : WX} {i j : Nat} {x y : Str} {a b : Expr} {ma : MA} {px py pt pos : Pos} {kt k2 pt2} (hc : X.calm = true) (hN : X.N.Nodup) (hi : X.N[i]? = some x) (hj : X.N[j]? = some y) (hij : i ≠ j)
    (hx : X.env.scope.names.lookup x = some .local) (hy : X.env.scope.names.lookup y = some .local) (ha : PAm X T P Wx [a, b] ma)
    (hw : swappedStores [.Tuple [.Name x px, .Name y py] kt pt] (.Tuple [a, b] k2 pt2) X.env = pure (some [x, y])) (hpi : pinned P i = false := by rfl) (hpj : pinned P j = false := by rfl)
    (hs : swapsWithSole [.Tuple [.Name x px, .Name y py] kt pt] (.Tuple [a, b] k2 pt2) pos.line X.env = pure false := by rfl) :
    PSm X T P Wx (.Assign [.Tuple [.Name x px, .Name y py] kt pt] (.Tuple [a, b] k2 pt2) pos) (sPar i j ma) :=
  PS.imp (ps_par hc hN hi hj hij hx hy ha hw hs) fun D σ H ⟨c, env, st, hH, hE, hR⟩ => by
    refine (ts_bind hH hE hR).mono fun vs H1 ⟨us, c1, st1, l1, hH1, hE1, r1, hR1⟩ => ?_
    split at hR1
    · rename_i u w
      obtain ⟨v, vs', rfl, r2, t⟩ := r1.inv_cons
      obtain ⟨v2, vs2, rfl, r3, t2⟩ := t.inv_cons
      cases t2.inv_nil
      exact ⟨v, v2, rfl, ResS.go (D := D) hR1 hH1 ((hE1.set r2 i hpi).set r3 j hpj)⟩
    · exact hR1.elim
/-- the law's own end: nothing is let out -/
theorem cx_false {P : Program} {w : World} {outer : List PySem.Env} {H : Hp} {s : Shared} {e : Value} {s' : Shared} (h : L2.CX P w outer H s (fun _ _ _ => False) e s') : False := by
  obtain ⟨_, _, _, _, _, _, _, _, _, _, _, _, z⟩ := h
  exact z
theorem rpl_ints {T : Tb} {c : Cn} : ∀ ns : List Int, RpL T c (ns.map U.int) (ns.map V.int)
  | [] => .nil
  | n :: ns => .cons (.int n) (rpl_ints ns)
/-- the script, and nothing else -/
theorem law_sp {T : Tb} {mf : MF} {H : Hp} {a : Addr} {ns : List Int} (hS : SqL T.K H a (ns.map V.int)) (h : ∃ st', mf [.scr (ns.map U.int)] [] = .ok (.bl true) st') : spOf T 1 mf [.ref a] H (fun v _ => v = .bl true) (fun _ _ _ => False) := by
  obtain ⟨st', e⟩ := h
  refine ⟨rfl, ⟨fun _ => 0, 0, H⟩, _, [], ⟨rfl, fun b o q => q, fun i o q => by simp at q, fun i j x y q => by simp at q⟩, .one (.scr hS (rpl_ints ns)), ?_⟩
  rw [e]
  intro c' v H' _ _ r
  exact r.inv_bl
end NK

set_option Elab.async false
set_option linter.all false
set_option maxRecDepth 100000
set_option maxHeartbeats 1000000
/-! NK15: reckoning with mirrors (plain Lean, no program in sight). -/
namespace NK
open PySem L2

/-! ### steps -/
section
variable {α β : Type} {a : α} {s : Sto} {x : Ex} {env : Env}
theorem ob {f : α → Sto → Out β} : (Out.ok a s).bind f = f a s := rfl
theorem xb {f : α → Sto → Out β} : (Out.exc x s : Out α).bind f = .exc x s := rfl
theorem os {k : α → Sto → SO} : (Out.ok a s).st env k = k a s := rfl
theorem xs {k : α → Sto → SO} : (Out.exc x s : Out α).st env k = .exc x env s := rfl
theorem nb {k : MS} : (SO.next env s).bind k = k env s := rfl
theorem rb {k : MS} {u : U} : (SO.ret u s).bind k = .ret u s := rfl
theorem kb {k : MS} : (SO.cont env s).bind k = .cont env s := rfl
theorem eb {k : MS} : (SO.exc x env s).bind k = .exc x env s := rfl
end

/-! ### scopes -/
/-- the same store but for things without places -/
def Old (st st2 : Sto) : Prop := st2.length = st.length ∧ ∀ i, i < st.length → st2[i]? = st[i]? ∨ ∃ o, st2[i]? = some o ∧ o.under 0 = true
theorem Old.refl (st : Sto) : Old st st := ⟨rfl, fun _ _ => .inl rfl⟩
theorem Old.hand {h h' : Ob} {rest : Sto} (e : h'.under 0 = true) : Old (h :: rest) (h' :: rest) := by
  refine ⟨rfl, fun i _ => ?_⟩
  cases i with
  | zero => exact .inr ⟨h', rfl, e⟩
  | succ i => exact .inl rfl
theorem Old.trans {a b c : Sto} (h : Old a b) (g : Old b c) : Old a c := by
  refine ⟨g.1.trans h.1, fun i hi => ?_⟩
  rcases g.2 i (by rw [h.1]; exact hi) with q | q
  · rw [q]; exact h.2 i hi
  · exact .inr q
theorem Old.ok {st st2 ext : Sto} (h : Old st st2) : oldOk st (st2 ++ ext) := by
  refine ⟨by rw [List.length_append, h.1]; omega, fun i hi => ?_⟩
  rw [List.getElem?_append_left (by rw [h.1]; exact hi)]
  exact h.2 i hi
theorem Old.take {st st2 ext : Sto} (h : Old st st2) : (st2 ++ ext).take st.length = st2 := by rw [← h.1, List.take_left']; rfl
theorem under_up {u : U} (h : u.under 0 = true) (n : Nat) : u.under n = true := U.under_mono (Nat.zero_le n) h
theorem sc_val {u : U} {st st2 : Sto} (ext : Sto) (h : Old st st2) (hu : u.under 0 = true) : scopeOut st (.ok u (st2 ++ ext)) = .ok u st2 := by
  have f : frz u (st2 ++ ext) = .ok u (st2 ++ ext) := by
    cases u with
    | loc i => simp [U.under] at hu
    | _ => rfl
  show ((frz u (st2 ++ ext)).bind _) = _
  rw [f]
  show (open Classical in if u.under st.length = true ∧ oldOk st (st2 ++ ext) then Out.ok u ((st2 ++ ext).take st.length) else .bad) = _
  rw [if_pos ⟨under_up hu _, h.ok⟩, h.take]
theorem sc_same {u : U} {st : Sto} (hu : u.under 0 = true) : scopeOut st (.ok u st) = .ok u st := by
  have := sc_val (u := u) [] (Old.refl st) hu
  rwa [List.append_nil] at this
theorem sc_old {u : U} {st st2 : Sto} (h : Old st st2) (hu : u.under 0 = true) : scopeOut st (.ok u st2) = .ok u st2 := by
  have := sc_val (u := u) [] h hu
  rwa [List.append_nil] at this
theorem set_app {st2 ext : Sto} {j : Nat} {o : Ob} : (st2 ++ ext).set (st2.length + j) o = st2 ++ ext.set j o := by
  have e := List.set_append (s := st2) (t := ext) (i := st2.length + j) (x := o)
  rw [if_neg (by omega), show st2.length + j - st2.length = j by omega] at e
  exact e
theorem sc_loc {us : List U} {st st2 : Sto} (ext : Sto) {j : Nat} (h : Old st st2) (hj : ext[j]? = some (.lst us)) (hu : U.underL 0 us = true) : scopeOut st (.ok (.loc (st.length + j)) (st2 ++ ext)) = .ok (.lst us) st2 := by
  have q : (st2 ++ ext)[st.length + j]? = some (.lst us) := by
    rw [List.getElem?_append_right (by rw [h.1]; omega), h.1]
    rw [show st.length + j - st.length = j by omega]
    exact hj
  have f : frz (.loc (st.length + j)) (st2 ++ ext) = .ok (.lst us) (st2 ++ ext.set j .dead) := by
    dsimp only [frz]
    rw [q]
    dsimp only
    rw [← h.1, set_app]
  show ((frz (.loc (st.length + j)) (st2 ++ ext)).bind _) = _
  rw [f]
  show (open Classical in if (U.lst us).under st.length = true ∧ oldOk st (st2 ++ ext.set j .dead) then Out.ok (U.lst us) ((st2 ++ ext.set j .dead).take st.length) else .bad) = _
  rw [if_pos ⟨under_up (u := .lst us) (by unfold U.under; exact hu) _, h.ok⟩, h.take]
theorem sc_obj {us : List U} {k : Nat} {st st2 : Sto} (ext : Sto) {j : Nat} (h : Old st st2) (hj : ext[j]? = some (.ins k us)) (hu : U.underL 0 us = true) : scopeOut st (.ok (.loc (st.length + j)) (st2 ++ ext)) = .ok (.ins k us) st2 := by
  have q : (st2 ++ ext)[st.length + j]? = some (.ins k us) := by
    rw [List.getElem?_append_right (by rw [h.1]; omega), h.1]
    rw [show st.length + j - st.length = j by omega]
    exact hj
  have f : frz (.loc (st.length + j)) (st2 ++ ext) = .ok (.ins k us) (st2 ++ ext.set j .dead) := by
    dsimp only [frz]
    rw [q]
    dsimp only
    rw [← h.1, set_app]
  show ((frz (.loc (st.length + j)) (st2 ++ ext)).bind _) = _
  rw [f]
  show (open Classical in if (U.ins k us).under st.length = true ∧ oldOk st (st2 ++ ext.set j .dead) then Out.ok (U.ins k us) ((st2 ++ ext.set j .dead).take st.length) else .bad) = _
  rw [if_pos ⟨under_up (u := .ins k us) (by unfold U.under; exact hu) _, h.ok⟩, h.take]
theorem sc_exc {x : Ex} {st st2 : Sto} : scopeOut st (.exc x st2) = .exc x st2 := rfl
theorem underL_app {n : Nat} : ∀ {us ws : List U}, U.underL n us = true → U.underL n ws = true → U.underL n (us ++ ws) = true
  | [], _, _, h => h
  | u :: us, ws, h, g => by
    unfold U.underL at h
    rw [Bool.and_eq_true] at h
    show U.underL n (u :: (us ++ ws)) = true
    unfold U.underL
    rw [h.1, underL_app h.2 g]
    rfl
theorem underL_all {n : Nat} : ∀ {us : List U}, (∀ u ∈ us, u.under n = true) → U.underL n us = true
  | [], _ => rfl
  | u :: us, h => by
    unfold U.underL
    rw [h u List.mem_cons_self, underL_all fun w hw => h w (List.mem_cons_of_mem _ hw)]
    rfl
theorem underL_mem {n : Nat} : ∀ {us : List U} {u : U}, U.underL n us = true → u ∈ us → u.under n = true
  | w :: us, u, h, hm => by
    unfold U.underL at h
    rw [Bool.and_eq_true] at h
    rcases List.mem_cons.mp hm with rfl | hm
    · exact h.1
    · exact underL_mem h.2 hm

/-! ### data -/
mutual
def datU : U → PyData
  | .bl b => .bool b
  | .int i => .int i
  | .str x => .str x
  | .tup us => .tuple (datL us)
  | .lst us => .list (datL us)
  | _ => .none
def datL : List U → List PyData
  | [] => []
  | u :: us => datU u :: datL us
end
def okU : Nat → U → Bool
  | 0, _ => false
  | n + 1, u => match u with
    | .non => true
    | .bl _ => true
    | .int _ => true
    | .str x => PyData.canLay0 (.str x)
    | .tup us => us.all (okU n)
    | .lst us => us.all (okU n)
    | _ => false
theorem okU_D {st : Sto} : ∀ (n : Nat) (u : U), okU n u = true → toD st n u = some (datU u) ∧ PyData.canLay0 (datU u) = true ∧ PyData.depth (datU u) ≤ n
  | 0, _, h => by cases h
  | n + 1, u, h => by
    have lst : ∀ us : List U, us.all (okU n) = true → allD (toD st n) us = some (datL us) ∧ PyData.canLayAll0 (datL us) = true ∧ PyData.depthAll (datL us) ≤ n := by
      intro us
      induction us with
      | nil => intro _; exact ⟨rfl, rfl, Nat.zero_le _⟩
      | cons w us ih =>
        intro hh
        rw [List.all_cons, Bool.and_eq_true] at hh
        obtain ⟨a1, a2, a3⟩ := okU_D n w hh.1
        obtain ⟨b1, b2, b3⟩ := ih hh.2
        refine ⟨?_, ?_, ?_⟩
        · unfold allD
          rw [a1, b1]
          rfl
        · unfold datL PyData.canLayAll0
          rw [a2, b2]
          rfl
        · unfold datL PyData.depthAll
          exact Nat.max_le.mpr ⟨a3, b3⟩
    cases u with
    | non => exact ⟨rfl, rfl, Nat.zero_le _⟩
    | bl b => exact ⟨rfl, rfl, Nat.zero_le _⟩
    | int i => exact ⟨rfl, rfl, Nat.zero_le _⟩
    | str x => exact ⟨rfl, h, Nat.zero_le _⟩
    | tup us =>
      obtain ⟨a, b, c⟩ := lst us h
      refine ⟨?_, ?_, ?_⟩
      · show (allD (toD st n) us).map _ = _
        rw [a]
        rfl
      · unfold datU PyData.canLay0
        exact b
      · unfold datU PyData.depth
        omega
    | lst us =>
      obtain ⟨a, b, c⟩ := lst us h
      refine ⟨?_, ?_, ?_⟩
      · show (allD (toD st n) us).map _ = _
        rw [a]
        rfl
      · unfold datU PyData.canLay0
        exact b
      · unfold datU PyData.depth
        omega
    | _ => cases h
/-- equal as data -/
def eqvU (u w : U) : Bool := PyData.eqv (datU u) (datU w)
theorem okU_shaped {u : U} (h : okU 12 u = true) : SeqAt.shaped (datU u) = true := by
  obtain ⟨_, b, c⟩ := okU_D (st := []) 12 u h
  unfold SeqAt.shaped
  rw [b, Bool.true_and]
  exact decide_eq_true (by omega)
theorem fEqB_ok {g : Bool → Bool} {u w : U} {st : Sto} (hu : okU 12 u = true) (hw : okU 12 w = true) : fEqB g u w st = .ok (.bl (g (eqvU u w))) st := by
  unfold fEqB
  rw [(okU_D 12 u hu).1, (okU_D 12 w hw).1]
  dsimp only
  rw [if_pos ⟨okU_shaped hu, okU_shaped hw⟩]
  rfl
theorem fEq_ok {u w : U} {st : Sto} (hu : okU 12 u = true) (hw : okU 12 w = true) : fEq u w st = .ok (.bl (eqvU u w)) st := fEqB_ok hu hw
theorem fNe_ok {u w : U} {st : Sto} (hu : okU 12 u = true) (hw : okU 12 w = true) : fNe u w st = .ok (.bl (!eqvU u w)) st := fEqB_ok hu hw
theorem eqvU_same {u : U} (h : okU 12 u = true) : eqvU u u = true := PySem.SeqAt.eqv_refl _ (okU_D (st := []) 12 u h).2.1
theorem okU_up : ∀ (n : Nat) (u : U), okU n u = true → okU (n + 1) u = true
  | 0, _, h => by cases h
  | n + 1, u, h => by
    have lst : ∀ us : List U, us.all (okU n) = true → us.all (okU (n + 1)) = true := fun us hh => by
      rw [List.all_eq_true] at hh ⊢
      exact fun w hw => okU_up n w (hh w hw)
    cases u with
    | tup us => exact lst us h
    | lst us => exact lst us h
    | _ => exact h
theorem okU_le {n m : Nat} (h : n ≤ m) {u : U} (e : okU n u = true) : okU m u = true := by
  induction h with
  | refl => exact e
  | step _ ih => exact okU_up _ _ ih
mutual
theorem okU_under : ∀ (n : Nat) (u : U), okU n u = true → u.under 0 = true
  | 0, _, h => by cases h
  | n + 1, u, h => by
    cases u with
    | tup us => unfold U.under; exact okU_underL n us h
    | lst us => unfold U.under; exact okU_underL n us h
    | non => rfl
    | bl b => rfl
    | int i => rfl
    | str x => rfl
    | _ => cases h
theorem okU_underL : ∀ (n : Nat) (us : List U), us.all (okU n) = true → U.underL 0 us = true
  | _, [], _ => rfl
  | n, u :: us, h => by
    rw [List.all_cons, Bool.and_eq_true] at h
    unfold U.underL
    rw [okU_under n u h.1, okU_underL n us h.2]
    rfl
end
end NK

set_option Elab.async false
set_option linter.all false
set_option maxRecDepth 100000
set_option maxHeartbeats 1000000
/-! NK16: loops and comprehensions reckoned. -/
namespace NK
open PySem L2
section
variable {g : Sto → Prop} {gt : MGt} {b : MS} {u : U} {us : List U} {env env1 env2 : Env} {st st2 : Sto} {x : Ex} {r : U}
theorem forM_nil (hg : g st) : forM g gt b [] env st = .next env st := by unfold forM; rw [if_pos hg]
theorem forM_n (hg : g st) (ht : gt u env st = some env1) (hb : b env1 st = .next env2 st2) : forM g gt b (u :: us) env st = forM g gt b us env2 st2 := by
  rw [forM, if_pos hg, ht]; dsimp only; rw [hb]
theorem forM_c (hg : g st) (ht : gt u env st = some env1) (hb : b env1 st = .cont env2 st2) : forM g gt b (u :: us) env st = forM g gt b us env2 st2 := by
  rw [forM, if_pos hg, ht]; dsimp only; rw [hb]
theorem forM_r (hg : g st) (ht : gt u env st = some env1) (hb : b env1 st = .ret r st2) : forM g gt b (u :: us) env st = .ret r st2 := by
  rw [forM, if_pos hg, ht]; dsimp only; rw [hb]
theorem forM_x (hg : g st) (ht : gt u env st = some env1) (hb : b env1 st = .exc x env2 st2) : forM g gt b (u :: us) env st = .exc x env2 st2 := by
  rw [forM, if_pos hg, ht]; dsimp only; rw [hb]
end
theorem wipe1 (env : Env) (i : Nat) (u : U) : (wipeE env [i]).set i (some u) = env.set i (some u) := by
  show (env.set i none).set i (some u) = _
  rw [List.set_set]
section
variable {g : Sto → Prop} {i : Nat} {mt : MT} {me : ME} {mi : MI} {env : Env} {st : Sto}
/-- the elements come out of what is walked alone -/
theorem compM_pure (f : U → U) (p : U → Bool) (hg : ∀ acc, g (st ++ [.lst acc])) : ∀ (us acc : List U), acc.length + us.length ≤ 16777216 →
    (∀ u ∈ us, ∀ acc, mt (env.set i (some u)) (st ++ [.lst acc]) = .ok (p u) (st ++ [.lst acc]) ∧ (p u = true → me (env.set i (some u)) (st ++ [.lst acc]) = .ok (f u) (st ++ [.lst acc]))) →
    compM g (gN i) mt me st.length (wipeE env [i]) us (st ++ [.lst acc]) = .ok (.loc st.length) (st ++ [.lst (acc ++ (us.filter p).map f)])
  | [], acc, _, _ => by unfold compM; rw [if_pos (hg acc)]; simp
  | u :: us, acc, hz, h => by
    have ih := compM_pure f p hg us
    obtain ⟨h1, h2⟩ := h u List.mem_cons_self acc
    have h' := fun w hw => h w (List.mem_cons_of_mem _ hw)
    rw [List.length_cons] at hz
    unfold compM
    rw [if_pos (hg acc)]
    show (match mt ((wipeE env [i]).set i (some u)) (st ++ [.lst acc]) with | .ok true st1 => _ | .ok false st1 => _ | _ => Out.bad) = _
    rw [wipe1, h1]
    cases hp : p u with
    | false =>
      dsimp only
      rw [ih acc (by omega) h', List.filter_cons_of_neg (by simp [hp])]
    | true =>
      dsimp only
      rw [h2 hp]
      dsimp only
      have e : (st ++ [Ob.lst acc])[st.length]? = some (.lst acc) := by simp
      rw [e]
      dsimp only
      rw [if_pos (by omega)]
      have e2 : (st ++ [Ob.lst acc]).set st.length (.lst (acc ++ [f u])) = st ++ [.lst (acc ++ [f u])] := by simp
      rw [e2, ih (acc ++ [f u]) (by simp; omega) h', List.filter_cons_of_pos hp]
      simp [List.append_assoc]
theorem comp_pure (f : U → U) (p : U → Bool) {us : List U} (hm : mi env st = .ok ⟨us, g⟩ st) (hg : ∀ acc, g (st ++ [.lst acc])) (hz : us.length ≤ 16777216)
    (h : ∀ u ∈ us, ∀ acc, mt (env.set i (some u)) (st ++ [.lst acc]) = .ok (p u) (st ++ [.lst acc]) ∧ (p u = true → me (env.set i (some u)) (st ++ [.lst acc]) = .ok (f u) (st ++ [.lst acc]))) :
    eComp mi (gN i) mt me [i] env st = .ok (.loc st.length) (st ++ [.lst ((us.filter p).map f)]) := by
  unfold eComp
  rw [hm, ob, compM_pure f p hg us [] (by simpa using hz) h, List.nil_append]
theorem comp_scope (f : U → U) (p : U → Bool) {us : List U} (hm : mi env st = .ok ⟨us, g⟩ st) (hg : ∀ acc, g (st ++ [.lst acc])) (hz : us.length ≤ 16777216)
    (h : ∀ u ∈ us, ∀ acc, mt (env.set i (some u)) (st ++ [.lst acc]) = .ok (p u) (st ++ [.lst acc]) ∧ (p u = true → me (env.set i (some u)) (st ++ [.lst acc]) = .ok (f u) (st ++ [.lst acc])))
    (hu : U.underL 0 ((us.filter p).map f) = true) : eScope (eComp mi (gN i) mt me [i]) env st = .ok (.lst ((us.filter p).map f)) st := by
  unfold eScope
  rw [comp_pure f p hm hg hz h]
  exact sc_loc (j := 0) [.lst _] (Old.refl st) rfl hu
/-- the elements are drawn: the first thing of the store changes within R -/
theorem compM_drawn (R : Ob → Prop) (S : U → Prop) (hg : ∀ (h : Ob) acc, R h → g ((h :: st) ++ [.lst acc])) : ∀ (us acc : List U) (h : Ob), R h → acc.length + us.length ≤ 16777216 → (∀ w ∈ acc, S w) →
    (∀ u ∈ us, ∀ h acc, R h → mt (env.set i (some u)) ((h :: st) ++ [.lst acc]) = .ok true ((h :: st) ++ [.lst acc]) ∧ ∃ w h', R h' ∧ S w ∧ me (env.set i (some u)) ((h :: st) ++ [.lst acc]) = .ok w ((h' :: st) ++ [.lst acc])) →
    ∃ ws h', R h' ∧ (∀ w ∈ ws, S w) ∧ ws.length = acc.length + us.length ∧ compM g (gN i) mt me (st.length + 1) (wipeE env [i]) us ((h :: st) ++ [.lst acc]) = .ok (.loc (st.length + 1)) ((h' :: st) ++ [.lst ws])
  | [], acc, h, r, _, hs, _ => ⟨acc, h, r, hs, by simp, by unfold compM; rw [if_pos (hg h acc r)]⟩
  | u :: us, acc, h, r, hz, hs, hh => by
    have ih := compM_drawn R S hg us
    obtain ⟨h1, w, h', r', sw, h2⟩ := hh u List.mem_cons_self h acc r
    have hh' := fun w hw => hh w (List.mem_cons_of_mem _ hw)
    rw [List.length_cons] at hz
    obtain ⟨ws, h3, r3, s3, l3, e3⟩ := ih (acc ++ [w]) h' r' (by simp; omega) (fun v hv => by
      rcases List.mem_append.mp hv with q | q
      · exact hs v q
      · rw [List.mem_singleton.mp q]; exact sw) hh'
    refine ⟨ws, h3, r3, s3, by rw [l3]; simp; omega, ?_⟩
    unfold compM
    rw [if_pos (hg h acc r)]
    show (match mt ((wipeE env [i]).set i (some u)) ((h :: st) ++ [.lst acc]) with | .ok true st1 => _ | .ok false st1 => _ | _ => Out.bad) = _
    rw [wipe1, h1]
    dsimp only
    rw [h2]
    dsimp only
    have e : ((h' :: st) ++ [Ob.lst acc])[st.length + 1]? = some (.lst acc) := by simp
    rw [e]
    dsimp only
    rw [if_pos (by omega)]
    have e2 : ((h' :: st) ++ [Ob.lst acc]).set (st.length + 1) (.lst (acc ++ [w])) = (h' :: st) ++ [.lst (acc ++ [w])] := by simp
    rw [e2]
    exact e3
theorem comp_drawn (R : Ob → Prop) (S : U → Prop) {us : List U} {h h1 : Ob} (hm : mi env (h :: st) = .ok ⟨us, g⟩ (h1 :: st)) (r : R h1) (hR : ∀ o, R o → o.under 0 = true) (hS : ∀ w, S w → w.under 0 = true) (hg : ∀ (h : Ob) acc, R h → g ((h :: st) ++ [.lst acc])) (hz : us.length ≤ 16777216)
    (hh : ∀ u ∈ us, ∀ h acc, R h → mt (env.set i (some u)) ((h :: st) ++ [.lst acc]) = .ok true ((h :: st) ++ [.lst acc]) ∧ ∃ w h', R h' ∧ S w ∧ me (env.set i (some u)) ((h :: st) ++ [.lst acc]) = .ok w ((h' :: st) ++ [.lst acc])) :
    ∃ ws h', R h' ∧ (∀ w ∈ ws, S w) ∧ ws.length = us.length ∧ eScope (eComp mi (gN i) mt me [i]) env (h :: st) = .ok (.lst ws) (h' :: st) := by
  obtain ⟨ws, h', r', s', l', e'⟩ := compM_drawn R S hg us [] h1 r (by simpa using hz) (fun w hw => by simp at hw) hh
  refine ⟨ws, h', r', s', by simpa using l', ?_⟩
  unfold eScope eComp
  rw [hm, ob]
  show scopeOut (h :: st) (compM g (gN i) mt me (st.length + 1) (wipeE env [i]) us ((h1 :: st) ++ [.lst []])) = _
  rw [e']
  exact sc_loc (st := h :: st) (j := 0) [.lst ws] (Old.hand (hR _ r')) rfl (underL_all fun w hw => hS w (s' w hw))
/-- distinct ints, in the order of their first coming -/
def dedup : List Int → List Int → List Int
  | acc, [] => acc
  | acc, k :: r => dedup (if k ∈ acc then acc else acc ++ [k]) r
theorem dedup_len : ∀ (r acc : List Int), (dedup acc r).length ≤ acc.length + r.length
  | [], acc => by simp [dedup]
  | k :: r, acc => by
    unfold dedup
    refine Nat.le_trans (dedup_len r _) ?_
    split <;> simp <;> omega
theorem scM_pure (f : U → Int) (p : U → Bool) (hg : ∀ acc, g (st ++ [.iset acc])) : ∀ (us : List U) (acc : List Int), acc.length + us.length ≤ 999 →
    (∀ u ∈ us, ∀ acc, mt (env.set i (some u)) (st ++ [.iset acc]) = .ok (p u) (st ++ [.iset acc]) ∧ (p u = true → me (env.set i (some u)) (st ++ [.iset acc]) = .ok (.int (f u)) (st ++ [.iset acc]))) →
    scM g (gN i) mt me st.length (wipeE env [i]) us (st ++ [.iset acc]) = .ok (.loc st.length) (st ++ [.iset (dedup acc ((us.filter p).map f))])
  | [], acc, _, _ => by unfold scM; rw [if_pos (hg acc)]; simp [dedup]
  | u :: us, acc, hz, h => by
    have ih := scM_pure f p hg us
    obtain ⟨h1, h2⟩ := h u List.mem_cons_self acc
    have h' := fun w hw => h w (List.mem_cons_of_mem _ hw)
    rw [List.length_cons] at hz
    unfold scM
    rw [if_pos (hg acc)]
    show (match mt ((wipeE env [i]).set i (some u)) (st ++ [.iset acc]) with | .ok true st1 => _ | .ok false st1 => _ | _ => Out.bad) = _
    rw [wipe1, h1]
    cases hp : p u with
    | false =>
      dsimp only
      rw [ih acc (by omega) h', List.filter_cons_of_neg (by simp [hp])]
    | true =>
      dsimp only
      rw [h2 hp]
      dsimp only
      have e : (st ++ [Ob.iset acc])[st.length]? = some (.iset acc) := by simp
      rw [e]
      dsimp only
      rw [if_pos (by omega)]
      have e2 : (st ++ [Ob.iset acc]).set st.length (.iset (if f u ∈ acc then acc else acc ++ [f u])) = st ++ [.iset (if f u ∈ acc then acc else acc ++ [f u])] := by simp
      rw [e2, ih _ (by split <;> (try simp) <;> omega) h', List.filter_cons_of_pos hp, List.map_cons]
      rfl
theorem sc_pure (f : U → Int) (p : U → Bool) {us : List U} (hm : mi env st = .ok ⟨us, g⟩ st) (hg : ∀ acc, g (st ++ [.iset acc])) (hz : us.length ≤ 999)
    (h : ∀ u ∈ us, ∀ acc, mt (env.set i (some u)) (st ++ [.iset acc]) = .ok (p u) (st ++ [.iset acc]) ∧ (p u = true → me (env.set i (some u)) (st ++ [.iset acc]) = .ok (.int (f u)) (st ++ [.iset acc]))) :
    eScope (eCB fLenO (aCons (eSc mi (gN i) mt me [i]) aNil)) env st = .ok (.int (dedup [] ((us.filter p).map f)).length) st := by
  have e : eSc mi (gN i) mt me [i] env st = .ok (.loc st.length) (st ++ [.iset (dedup [] ((us.filter p).map f))]) := by
    unfold eSc
    rw [hm, ob, scM_pure f p hg us [] (by simpa using hz) h]
  unfold eScope eCB aCons aNil
  rw [e]
  simp only [ob]
  have e2 : fLenO [.loc st.length] (st ++ [.iset (dedup [] ((us.filter p).map f))]) = .ok (.int (dedup [] ((us.filter p).map f)).length) (st ++ [.iset (dedup [] ((us.filter p).map f))]) := by
    unfold fLenO
    simp
  rw [e2]
  exact sc_val _ (Old.refl st) rfl
end
end NK

set_option Elab.async false
set_option linter.all false
set_option maxRecDepth 100000
set_option maxHeartbeats 1000000
/-! NK17: operators and defs reckoned. -/
namespace NK
open PySem L2
section
variable {n : Nat} {mb : MS} {us : List U} {env env' : Env} {st st2 ext : Sto} {u : U} {x : Ex}
theorem run_ret (he : us.map some ++ List.replicate (n - us.length) none = env) (h : mb env st = .ret u st2) : runF n mb us st = .ok u st2 := by
  unfold runF; rw [he, h]
theorem run_next (he : us.map some ++ List.replicate (n - us.length) none = env) (h : mb env st = .next env' st2) : runF n mb us st = .ok .non st2 := by
  unfold runF; rw [he, h]
theorem run_exc (he : us.map some ++ List.replicate (n - us.length) none = env) (h : mb env st = .exc x env' st2) : runF n mb us st = .exc x st2 := by
  unfold runF; rw [he, h]
/-- a def answers a thing without places -/
theorem fs_val (he : us.map some ++ List.replicate (n - us.length) none = env) (h : mb env st = .ret u (st2 ++ ext)) (o : Old st st2) (hu : u.under 0 = true) : fScope (runF n mb) us st = .ok u st2 := by
  show scopeOut st (runF n mb us st) = _
  rw [run_ret he h]
  exact sc_val ext o hu
theorem fs_same (he : us.map some ++ List.replicate (n - us.length) none = env) (h : mb env st = .ret u st) (hu : u.under 0 = true) : fScope (runF n mb) us st = .ok u st := by
  show scopeOut st (runF n mb us st) = _
  rw [run_ret he h]
  exact sc_same hu
theorem fs_old (he : us.map some ++ List.replicate (n - us.length) none = env) (h : mb env st = .ret u st2) (o : Old st st2) (hu : u.under 0 = true) : fScope (runF n mb) us st = .ok u st2 := by
  show scopeOut st (runF n mb us st) = _
  rw [run_ret he h]
  exact sc_old o hu
theorem fs_non (he : us.map some ++ List.replicate (n - us.length) none = env) (h : mb env st = .next env' (st2 ++ ext)) (o : Old st st2) : fScope (runF n mb) us st = .ok .non st2 := by
  show scopeOut st (runF n mb us st) = _
  rw [run_next he h]
  exact sc_val ext o rfl
theorem fs_non0 (he : us.map some ++ List.replicate (n - us.length) none = env) (h : mb env st = .next env' st) : fScope (runF n mb) us st = .ok .non st := by
  show scopeOut st (runF n mb us st) = _
  rw [run_next he h]
  exact sc_same rfl
theorem fs_exc (he : us.map some ++ List.replicate (n - us.length) none = env) (h : mb env st = .exc x env' st2) : fScope (runF n mb) us st = .exc x st2 := by
  show scopeOut st (runF n mb us st) = _
  rw [run_exc he h]
  rfl
end
section
variable {i j : Int} {st : Sto} {u : U} {us ws : List U}
theorem fAdd_i : fAdd (.int i) (.int j) st = .ok (.int (i + j)) st := rfl
theorem fSub_i : fSub (.int i) (.int j) st = .ok (.int (i - j)) st := rfl
theorem fNeg_i : fNeg (.int i) st = .ok (.int (-i)) st := rfl
theorem fInt_i : fInt [.int i] st = .ok (.int i) st := rfl
theorem fAbs_i : fAbs [.int i] st = .ok (.int (if i < 0 then -i else i)) st := rfl
theorem fLt_i : fLt (.int i) (.int j) st = .ok (.bl (decide (i < j))) st := rfl
theorem fLe_i : fLe (.int i) (.int j) st = .ok (.bl (decide (i ≤ j))) st := rfl
theorem fGt_i : fGt (.int i) (.int j) st = .ok (.bl (decide (j < i))) st := rfl
theorem fMin_i : fMin2 [.int i, .int j] st = .ok (.int (if j < i then j else i)) st := rfl
theorem fMul_i (h : (-18446744073709551616 < i ∧ i < 18446744073709551616) ∨ (-18446744073709551616 < j ∧ j < 18446744073709551616)) : fMul (.int i) (.int j) st = .ok (.int (i * j)) st := by
  have c : cMul i j = true := by
    unfold cMul
    exact decide_eq_true h
  show (if cMul i j = true then _ else Out.bad) = _
  rw [if_pos c]
theorem fMod_i (h : 0 < j) : fMod (.int i) (.int j) st = .ok (.int (i % j)) st := by
  show (if cMod i j = true then _ else Out.bad) = _
  rw [if_pos (show cMod i j = true from decide_eq_true h)]
theorem fDiv_i (h : 0 < j) (h2 : j < 1000000000000000000000000000000000000000000000000000000000000) : fDiv (.int i) (.int j) st = .ok (.int (i / j)) st := by
  show (if cDiv i j = true then _ else Out.bad) = _
  rw [if_pos (show cDiv i j = true from decide_eq_true ⟨h, h2⟩)]
theorem fIsN_n : fIsN u .non st = .ok (.bl u.isNon) st := by cases u <;> rfl
theorem fNotN_n : fNotN u .non st = .ok (.bl (!u.isNon)) st := by cases u <;> rfl
theorem fIx_tup (h : atI us i = some u) : fIx (.tup us) (.int i) st = .ok u st := by
  unfold fIx
  dsimp only [items]
  rw [h]
theorem fIx_lst (h : atI us i = some u) : fIx (.lst us) (.int i) st = .ok u st := by
  unfold fIx
  dsimp only [items]
  rw [h]
theorem fIx_loc {k : Nat} (e : st[k]? = some (.lst us)) (h : atI us i = some u) : fIx (.loc k) (.int i) st = .ok u st := by
  unfold fIx
  dsimp only [items]
  rw [e]
  dsimp only
  rw [h]
theorem atI_nat {k : Nat} : atI us (k : Int) = us[k]? := by
  unfold atI
  by_cases h : k < us.length
  · simp [ixN, h]
  · simp [ixN, h]
theorem fLen_lst : fLen [.lst us] st = .ok (.int us.length) st := rfl
theorem fLen_tup : fLen [.tup us] st = .ok (.int us.length) st := rfl
theorem fTuple_lst : fTuple [.lst us] st = .ok (.tup us) st := rfl
theorem fTuple_tup : fTuple [.tup us] st = .ok (.tup us) st := rfl
theorem fTuple_loc {k : Nat} (e : st[k]? = some (.lst us)) : fTuple [.loc k] st = .ok (.tup us) st := by
  unfold fTuple
  dsimp only [items]
  rw [e]
end
end NK

set_option Elab.async false
set_option linter.all false
set_option maxRecDepth 100000
set_option maxHeartbeats 4000000
/-! The mirrors of the defs that the law reaches (printed). -/
namespace G
open PySem L2 NK
def fldN : Nat → List Str
  | 1 => ["what"]
  | 2 => ["kind", "names", "lives", "mark", "key"]
  | 3 => ["classes", "names", "lives", "sons", "daughters", "borne", "marks", "key", "is_new"]
  | _ => []
def isl : IsL := [((.o 2, .o 2), true), ((.b .tuple, .o 2), false), ((.o 3, .o 3), true), ((.b .tuple, .o 3), false)]
noncomputable def l_u_law_hand_1 : MS := (sAsg (eOp fMod (eCB fInt (aCons (eOp fAdd (eOp fMul (eVar 1) (eC (.int 31))) (eOp fMul (eCB fInt (aCons (eVar 3) aNil)) (eOp fAdd (eVar 2) (eC (.int 7))))) aNil)) (eC (.int 2147483629))) (gN 1))
noncomputable def b_u_law_hand : MS := (sSeq (sAsg (eC (.int 0)) (gN 1))
    (sSeq (sFor (iEnumA (aCons (eVar 0) aNil)) (gT [2, 3]) l_u_law_hand_1)
    (sRet (eLst (aCons (eScope (eComp (iSeq (eVar 0)) (gN 3) NK.tYes (eCB fAbs (aCons (eCB fInt (aCons (eVar 3) aNil)) aNil)) [3])) (aCons (eC (.int 0)) (aCons (eC (.int 0)) (aCons (eVar 1) aNil))))))))
noncomputable def m_u_law_hand : MF := ( (runF 4 b_u_law_hand))
noncomputable def b_u_law_mix : MS := (sSeq (sAsg (eOp fMod (eCB fInt (aCons (eOp fAdd (eOp fAdd (eOp fMul (eVar 0) (eC (.int 48271))) (eOp fMul (eVar 1) (eC (.int 16807)))) (eC (.int 11))) aNil)) (eC (.int 2147483647))) (gN 2))
    (sSeq (sAsg (eOp fMod (eCB fInt (aCons (eOp fAdd (eOp fAdd (eOp fMul (eVar 2) (eVar 2)) (eOp fMul (eOp fDiv (eVar 2) (eC (.int 127))) (eC (.int 40692)))) (eOp fMul (eVar 1) (eC (.int 69621)))) aNil)) (eC (.int 2147483399))) (gN 3))
    (sRet (eOp fDiv (eOp fMod (eCB fInt (aCons (eOp fAdd (eOp fDiv (eOp fMul (eVar 3) (eVar 3)) (eC (.int 1009))) (eVar 2)) aNil)) (eC (.int 2147483563))) (eC (.int 16))))))
noncomputable def m_u_law_mix : MF := fScope (runF 4 b_u_law_mix)
noncomputable def b_u_law_draw : MS := (sSeq (sIf (tAnd (NK.tB (eOp fEq (eOp fIx (eVar 0) (eC (.int 2))) (eC (.int 0)))) (NK.tB (eOp fLt (eOp fIx (eVar 0) (eC (.int 1))) (eCB fLen (aCons (eOp fIx (eVar 0) (eC (.int 0))) aNil))))) (sSeq (sAsg (eOp fIx (eOp fIx (eVar 0) (eC (.int 0))) (eOp fIx (eVar 0) (eC (.int 1)))) (gN 2))
    (sSeq (sSetIx (eVar 0) (eC (.int 1)) (eOp fAdd (eOp fIx (eVar 0) (eC (.int 1))) (eC (.int 1))))
    (sSeq (sIf (NK.tB (eOp fLt (eVar 2) (eOp fPow (eC (.int 10)) (eC (.int 18))))) (sRet (eOp fMod (eCB fInt (aCons (eCall 2 m_u_law_mix [] (aCons (eOp fMod (eCB fInt (aCons (eVar 2) aNil)) (eC (.int 2147483647))) (aCons (eOp fIx (eVar 0) (eC (.int 1))) aNil))) aNil)) (eVar 1))) sNext)
    (sSetIx (eVar 0) (eC (.int 2)) (eVar 2))))) sNext)
    (sSeq (sIf (NK.tB (eOp fGt (eOp fIx (eVar 0) (eC (.int 2))) (eC (.int 0)))) (sSeq (sAsg (eOp fIx (eVar 0) (eC (.int 2))) (gN 3))
    (sSeq (sSetIx (eVar 0) (eC (.int 2)) (eOp fDiv (eVar 3) (eVar 1)))
    (sRet (eOp fMod (eCB fInt (aCons (eVar 3) aNil)) (eVar 1))))) sNext)
    (sSeq (sSetIx (eVar 0) (eC (.int 3)) (eOp fMod (eCB fInt (aCons (eOp fAdd (eOp fIx (eVar 0) (eC (.int 3))) (eC (.int 1))) aNil)) (eC (.int 2147483629))))
    (sRet (eOp fMod (eCB fInt (aCons (eCall 2 m_u_law_mix [] (aCons (eOp fIx (eVar 0) (eC (.int 3))) (aCons (eOp fIx (eVar 0) (eC (.int 1))) aNil))) aNil)) (eVar 1))))))
noncomputable def m_u_law_draw : MF := fScope (runF 4 b_u_law_draw)
noncomputable def l_u_law_classes_1 : MS := (sSeq (sIf (tAnd (NK.tB (eOp fNotN (eVar 3) (eC .non))) (NK.tB (eOp (fDIn true) (eVar 3) (eVar 1)))) (NK.sDPut (eVar 1) (eVar 3) (eCB fLenO (aCons (eVar 1) aNil))) sNext)
    (sDrop (eBM fApp (eVar 2) (aCons (eIf (NK.tB (eOp fIsN (eVar 3) (eC .non))) (eC .non) (eOp fDGet (eVar 1) (eVar 3))) aNil))))
noncomputable def b_u_law_classes : MS := (sSeq (sAsg eDict (gN 1))
    (sSeq (sAsg (eLst aNil) (gN 2))
    (sSeq (sFor (iSeq (eVar 0)) (gN 3) l_u_law_classes_1)
    (sRet (eCB fTuple (aCons (eVar 2) aNil))))))
noncomputable def m_u_law_classes : MF := fScope (runF 4 b_u_law_classes)
noncomputable def b_u_law_pick : MS := (sRet (eOp fIx (eVar 1) (eCall 2 m_u_law_draw [] (aCons (eVar 0) (aCons (eCB fLen (aCons (eVar 1) aNil)) aNil)))))
noncomputable def m_u_law_pick : MF := fScope (runF 2 b_u_law_pick)
noncomputable def b_u_law_entries : MS := (sSeq (sAsg (eCall 2 m_u_law_draw [] (aCons (eVar 0) (aCons (eC (.int 7)) aNil))) (gN 1))
    (sRet (eScope (eCB fList (aCons (eCall 1 m_u_law_classes [] (aCons (eScope (eComp (iRng1 (aCons (eVar 1) aNil)) (gN 2) NK.tYes (eCall 2 m_u_law_pick [] (aCons (eVar 0) (aCons (eScope (eLst (aCons (eC .non) (aCons (eC (.int 0)) (aCons (eC (.int 1)) (aCons (eC (.int 2)) (aCons (eC (.int 3)) (aCons (eC (.int 4)) (aCons (eC (.int 5)) aNil))))))))) aNil))) [2])) aNil)) aNil)))))
noncomputable def m_u_law_entries : MF := fScope (runF 3 b_u_law_entries)
noncomputable def b_u_law_drawn_lives : MS := (sRet (eScope (eComp (iRng1 (aCons (eCall 2 m_u_law_draw [] (aCons (eVar 0) (aCons (eC (.int 5)) aNil))) aNil)) (gN 1) NK.tYes (eCall 2 m_u_law_pick [] (aCons (eVar 0) (aCons (eScope (eLst (aCons (eC (.str "alive")) (aCons (eC (.str "dead")) (aCons (eC .non) aNil))))) aNil))) [1])))
noncomputable def m_u_law_drawn_lives : MF := fScope (runF 2 b_u_law_drawn_lives)
noncomputable def l_u_law_drawn_marks_1 : MS := (sIf (NK.tB (eOp fEq (eCall 2 m_u_law_draw [] (aCons (eVar 0) (aCons (eC (.int 2)) aNil))) (eC (.int 0)))) (sDrop (eBM fApp (eVar 2) (aCons (eScope (eLst (aCons (eVar 3) (aCons (eCall 2 m_u_law_draw [] (aCons (eVar 0) (aCons (eC (.int 3)) aNil))) aNil)))) aNil))) sNext)
noncomputable def b_u_law_drawn_marks : MS := (sSeq (sAsg (eLst aNil) (gN 2))
    (sSeq (sFor (iRng1 (aCons (eOp fAdd (eVar 1) (eC (.int 1))) aNil)) (gN 3) l_u_law_drawn_marks_1)
    (sRet (eVar 2))))
noncomputable def m_u_law_drawn_marks : MF := fScope (runF 4 b_u_law_drawn_marks)
noncomputable def l_entries_fault_1 : MS := (sSeq (sIf (NK.tB (eOp fIsN (eVar 3) (eC .non))) sCont sNext)
    (sSeq (sIf (tOr (tNot (tTru (eIsi isl [(.b .int)] (eVar 3)))) (tOr (tTru (eIsi isl [(.b .bool)] (eVar 3))) (NK.tB (eOp fLt (eVar 3) (eC (.int 0)))))) (sRet (eTup (aCons (eVar 2) (aCons (eC (.str "entry")) aNil)))) sNext)
    (sSeq (sIf (NK.tB (eOp fGt (eVar 3) (eVar 1))) (sRet (eTup (aCons (eVar 2) (aCons (eC (.str "order")) aNil)))) sNext)
    (sIf (NK.tB (eOp fEq (eVar 3) (eVar 1))) (sAsg (eOp fAdd (eVar 1) (eC (.int 1))) (gN 1)) sNext))))
noncomputable def b_entries_fault : MS := (sSeq (sIf (tOr (tNot (tTru (eIsi isl [(.b .list), (.b .tuple)] (eVar 0)))) (NK.tB (eOp fGt (eCB fLen (aCons (eVar 0) aNil)) (eC (.int 40))))) (sRet (eTup (aCons (eC (.int 0)) (aCons (eC (.str "entries")) aNil)))) sNext)
    (sSeq (sAsg (eC (.int 0)) (gN 1))
    (sSeq (sFor (iEnumA (aCons (eVar 0) aNil)) (gT [2, 3]) l_entries_fault_1)
    (sRet (eC .non)))))
noncomputable def m_entries_fault : MF := fScope (runF 4 b_entries_fault)
noncomputable def b_check_entries : MS := (sIf (NK.tB (eOp fNotN (eCall 1 m_entries_fault [] (aCons (eVar 0) aNil)) (eC .non))) (sRaise 1 1 (aCons (eC (.str "names")) aNil)) sNext)
noncomputable def m_check_entries : MF := fScope (runF 1 b_check_entries)
noncomputable def l_check_life_row_1 : MS := (sIf (tAnd (NK.tB (eOp fNotN (eVar 1) (eC .non))) (NK.tB (eOp (fIn true) (eVar 1) (eTup (aCons (eC (.str "alive")) (aCons (eC (.str "dead")) aNil)))))) (sRaise 1 1 (aCons (eC (.str "lives")) aNil)) sNext)
noncomputable def b_check_life_row : MS := (sSeq (sIf (tNot (tTru (eIsi isl [(.b .list), (.b .tuple)] (eVar 0)))) (sRaise 1 1 (aCons (eC (.str "lives")) aNil)) sNext)
    (sFor (iSeq (eVar 0)) (gN 1) l_check_life_row_1))
noncomputable def m_check_life_row : MF := fScope (runF 2 b_check_life_row)
noncomputable def b_is_whole : MS := (sRet (eAnd (eIsi isl [(.b .int)] (eVar 0)) (eAnd (eNot (eIsi isl [(.b .bool)] (eVar 0))) (eChain fLe fLe (eVar 1) (eVar 0) (eVar 2)))))
noncomputable def m_is_whole : MF := fScope (runF 3 b_is_whole)
noncomputable def l_check_marks_1 : MS := (sIf (tNot (tTru (eCall 3 m_is_whole [] (aCons (eVar 1) (aCons (eC (.int 0)) (aCons (eC (.int 1000)) aNil)))))) (sRaise 1 1 (aCons (eC (.str "marks")) aNil)) sNext)
noncomputable def b_check_marks : MS := (sSeq (sIf (tOr (tNot (tTru (eIsi isl [(.b .list), (.b .tuple)] (eVar 0)))) (NK.tB (eOp fNe (eCB fLen (aCons (eVar 0) aNil)) (eC (.int 2))))) (sRaise 1 1 (aCons (eC (.str "marks")) aNil)) sNext)
    (sFor (iSeq (eVar 0)) (gN 1) l_check_marks_1))
noncomputable def m_check_marks : MF := fScope (runF 2 b_check_marks)
noncomputable def b_is_kind : MS := (sRet (eAnd (eIsi isl [(.b .str)] (eVar 0)) (eOp (fIn false) (eVar 0) (eTup (aCons (eC (.str "s")) (aCons (eC (.str "d")) aNil))))))
noncomputable def m_is_kind : MF := fScope (runF 1 b_is_kind)
noncomputable def b_PersonState___init : MS := (sSeq (sIf (tNot (tTru (eCall 1 m_is_kind [] (aCons (eVar 1) aNil)))) (sRaise 1 1 (aCons (eC (.str "kind")) aNil)) sNext)
    (sSeq (sDrop (eCall 1 m_check_entries [] (aCons (eVar 2) aNil)))
    (sSeq (sDrop (eCall 1 m_check_life_row [] (aCons (eVar 3) aNil)))
    (sSeq (sDrop (eCall 1 m_check_marks [] (aCons (eTup (aCons (eVar 4) (aCons (eC (.int 0)) aNil))) aNil)))
    (sSeq (NK.sFld 2 0 (eVar 0) (eVar 1))
    (sSeq (NK.sFld 2 1 (eVar 0) (eCB fTuple (aCons (eVar 2) aNil)))
    (sSeq (NK.sFld 2 2 (eVar 0) (eCB fTuple (aCons (eVar 3) aNil)))
    (sSeq (NK.sFld 2 3 (eVar 0) (eVar 4))
    (NK.sFld 2 4 (eVar 0) (eTup (aCons (eC (.str "person")) (aCons (eVar 1) (aCons (eFld 2 1 (eVar 0)) (aCons (eFld 2 2 (eVar 0)) (aCons (eVar 4) aNil)))))))))))))))
noncomputable def m_PersonState___init : MF := fScope (runF 5 b_PersonState___init)
noncomputable def b_PersonState___eq : MS := (sRet (eAnd (eIsi isl [(.o 2)] (eVar 1)) (eOp fEq (eFld 2 4 (eVar 0)) (eFld 2 4 (eVar 1)))))
noncomputable def m_PersonState___eq : MF := fScope (runF 2 b_PersonState___eq)
noncomputable def b_u_law_person_right : MS := (sSeq (sPar 3 4 (aCons (eCall 2 m_u_law_pick [] (aCons (eVar 0) (aCons (eScope (eLst (aCons (eC (.str "s")) (aCons (eC (.str "d")) aNil)))) aNil))) (aCons (eCall 2 m_u_law_pick [] (aCons (eVar 0) (aCons (eScope (eLst (aCons (eC (.int 0)) (aCons (eC (.int 0)) (aCons (eC (.int 1)) (aCons (eC (.int 1000)) aNil)))))) aNil))) aNil)))
    (sSeq (sPar 5 6 (aCons (eCB fList (aCons (eVar 1) aNil)) (aCons (eCB fList (aCons (eVar 2) aNil)) aNil)))
    (sSeq (sAsg (eScope (eMake 2 5 m_PersonState___init [] (aCons (eVar 3) (aCons (eVar 5) (aCons (eVar 6) (aCons (eVar 4) aNil)))))) (gN 7))
    (sSeq (sAsg (eScope (eMake 2 5 m_PersonState___init [] (aCons (eVar 3) (aCons (eCB fTuple (aCons (eVar 1) aNil)) (aCons (eCB fTuple (aCons (eVar 2) aNil)) (aCons (eVar 4) aNil)))))) (gN 8))
    (sSeq (sDrop (eBM fApp (eVar 5) (aCons (eC (.int 0)) aNil)))
    (sSeq (sDrop (eBM fApp (eVar 6) (aCons (eC (.str "dead")) aNil)))
    (sSeq (sIf (NK.tB (eOp fNe (eTup (aCons (eFld 2 0 (eVar 7)) (aCons (eFld 2 1 (eVar 7)) (aCons (eFld 2 2 (eVar 7)) (aCons (eFld 2 3 (eVar 7)) aNil))))) (eTup (aCons (eVar 3) (aCons (eCB fTuple (aCons (eVar 1) aNil)) (aCons (eCB fTuple (aCons (eVar 2) aNil)) (aCons (eVar 4) aNil))))))) (sRet (eC (.bl false))) sNext)
    (sSeq (sIf (tOr (tTru (eIsi isl [(.b .bool)] (eFld 2 3 (eVar 7)))) (tOr (tNot (tTru (eIsi isl [(.b .tuple)] (eFld 2 1 (eVar 7))))) (tNot (tTru (eIsi isl [(.b .tuple)] (eFld 2 2 (eVar 7))))))) (sRet (eC (.bl false))) sNext)
    (sSeq (sAsg (eScope (eLst (aCons (eScope (eMake 2 5 m_PersonState___init [] (aCons (eIf (NK.tB (eOp fEq (eVar 3) (eC (.str "s")))) (eC (.str "d")) (eC (.str "s"))) (aCons (eVar 1) (aCons (eVar 2) (aCons (eVar 4) aNil)))))) (aCons (eScope (eMake 2 5 m_PersonState___init [] (aCons (eVar 3) (aCons (eScope (eOp fAdd (eVar 1) (eScope (eLst (aCons (eC .non) aNil))))) (aCons (eVar 2) (aCons (eVar 4) aNil)))))) aNil)))) (gN 9))
    (sSeq (sAsg (eScope (eOp fAdd (eVar 9) (eScope (eLst (aCons (eScope (eMake 2 5 m_PersonState___init [] (aCons (eVar 3) (aCons (eVar 1) (aCons (eScope (eOp fAdd (eVar 2) (eScope (eLst (aCons (eC .non) aNil))))) (aCons (eVar 4) aNil)))))) (aCons (eScope (eMake 2 5 m_PersonState___init [] (aCons (eVar 3) (aCons (eVar 1) (aCons (eVar 2) (aCons (eOp fSub (eC (.int 1)) (eCB fMin2 (aCons (eVar 4) (aCons (eC (.int 1)) aNil)))) aNil)))))) aNil)))))) (gN 9))
    (sRet (eAnd (eOp (fEqO 2 [.o 2, .b .tuple] m_PersonState___eq) (eVar 7) (eVar 8)) (eAnd (eOp fEq (eScope (eComp (iSeq (eVar 9)) (gN 10) (NK.tB (eOp (fEqO 2 [.o 2, .b .tuple] m_PersonState___eq) (eVar 7) (eVar 10))) (eVar 10) [10])) (eScope (eLst aNil))) (eNot (eOp (fEqO 2 [.o 2, .b .tuple] m_PersonState___eq) (eVar 7) (eTup (aCons (eVar 3) (aCons (eVar 1) (aCons (eVar 2) (aCons (eVar 4) aNil))))))))))))))))))))
noncomputable def m_u_law_person_right : MF := fScope (runF 11 b_u_law_person_right)
noncomputable def l_check_borne_1 : MS := (sSeq (sIf (tOr (tNot (tTru (eIsi isl [(.b .list), (.b .tuple)] (eVar 3)))) (NK.tB (eOp fNe (eCB fLen (aCons (eVar 3) aNil)) (eC (.int 2))))) (sRaise 1 1 (aCons (eC (.str "borne")) aNil)) sNext)
    (sSeq (sIf (tOr (tNot (tTru (eCall 3 m_is_whole [] (aCons (eOp fIx (eVar 3) (eC (.int 0))) (aCons (eVar 2) (aCons (eVar 1) aNil)))))) (tNot (tTru (eCall 3 m_is_whole [] (aCons (eOp fIx (eVar 3) (eC (.int 1))) (aCons (eC (.int 0)) (aCons (eC (.int 2)) aNil))))))) (sRaise 1 1 (aCons (eC (.str "borne")) aNil)) sNext)
    (sAsg (eOp fAdd (eOp fIx (eVar 3) (eC (.int 0))) (eC (.int 1))) (gN 2))))
noncomputable def b_check_borne : MS := (sSeq (sIf (tNot (tTru (eIsi isl [(.b .list), (.b .tuple)] (eVar 0)))) (sRaise 1 1 (aCons (eC (.str "borne")) aNil)) sNext)
    (sSeq (sAsg (eC (.int 0)) (gN 2))
    (sFor (iSeq (eVar 0)) (gN 3) l_check_borne_1)))
noncomputable def m_check_borne : MF := fScope (runF 4 b_check_borne)
noncomputable def b_CoupleState___init : MS := (sSeq (sDrop (eCall 1 m_check_entries [] (aCons (eVar 1) aNil)))
    (sSeq (sDrop (eCall 1 m_check_life_row [] (aCons (eVar 2) aNil)))
    (sSeq (sIf (tOr (tNot (tTru (eCall 3 m_is_whole [] (aCons (eVar 3) (aCons (eC (.int 0)) (aCons (eC (.int 3)) aNil)))))) (tNot (tTru (eCall 3 m_is_whole [] (aCons (eVar 4) (aCons (eC (.int 0)) (aCons (eC (.int 3)) aNil))))))) (sRaise 1 1 (aCons (eC (.str "numbers")) aNil)) sNext)
    (sSeq (NK.sFld 3 0 (eVar 0) (eScope (eCB fLenO (aCons (eSc (iSeq (eVar 1)) (gN 7) (NK.tB (eOp fNotN (eVar 7) (eC .non))) (eVar 7) [7]) aNil))))
    (sSeq (sDrop (eCall 2 m_check_borne [] (aCons (eVar 5) (aCons (eFld 3 0 (eVar 0)) aNil))))
    (sSeq (sDrop (eCall 1 m_check_marks [] (aCons (eVar 6) aNil)))
    (sSeq (NK.sFld 3 1 (eVar 0) (eCB fTuple (aCons (eVar 1) aNil)))
    (sSeq (NK.sFld 3 2 (eVar 0) (eCB fTuple (aCons (eVar 2) aNil)))
    (sSeq (NK.sFld 3 3 (eVar 0) (eVar 3))
    (sSeq (NK.sFld 3 4 (eVar 0) (eVar 4))
    (sSeq (NK.sFld 3 5 (eVar 0) (eCB fTuple (aCons (eScope (eComp (iSeq (eVar 5)) (gN 8) NK.tYes (eCB fTuple (aCons (eVar 8) aNil)) [8])) aNil)))
    (sSeq (NK.sFld 3 6 (eVar 0) (eCB fTuple (aCons (eVar 6) aNil)))
    (sSeq (NK.sFld 3 7 (eVar 0) (eTup (aCons (eC (.str "couple")) (aCons (eFld 3 1 (eVar 0)) (aCons (eFld 3 2 (eVar 0)) (aCons (eVar 3) (aCons (eVar 4) (aCons (eFld 3 5 (eVar 0)) (aCons (eFld 3 6 (eVar 0)) aNil)))))))))
    (NK.sFld 3 8 (eVar 0) (eAnd (eOp fEq (eVar 3) (eC (.int 0))) (eAnd (eOp fEq (eVar 4) (eC (.int 0))) (eOp fEq (eCB fLen (aCons (eScope (eComp (iSeq (eFld 3 5 (eVar 0))) (gN 8) (NK.tB (eOp fGt (eOp fIx (eVar 8) (eC (.int 1))) (eC (.int 0)))) (eVar 8) [8])) aNil)) (eC (.int 0)))))))))))))))))))
noncomputable def m_CoupleState___init : MF := fScope (runF 9 b_CoupleState___init)
noncomputable def b_CoupleState___eq : MS := (sRet (eAnd (eIsi isl [(.o 3)] (eVar 1)) (eOp fEq (eFld 3 7 (eVar 0)) (eFld 3 7 (eVar 1)))))
noncomputable def m_CoupleState___eq : MF := fScope (runF 2 b_CoupleState___eq)
noncomputable def b_u_law_many : MS := (sRet (eCB fLen (aCons (eScope (eComp (iRng1 (aCons (eCB fLen (aCons (eVar 0) aNil)) aNil)) (gN 1) (tAnd (NK.tB (eOp fNotN (eOp fIx (eVar 0) (eVar 1)) (eC .non))) (NK.tB (eOp (fIn true) (eOp fIx (eVar 0) (eVar 1)) (eScope (eSl (eVar 0) none (some (eVar 1))))))) (eVar 1) [1])) aNil)))
noncomputable def m_u_law_many : MF := fScope (runF 2 b_u_law_many)
noncomputable def l_CoupleState_mark_of_1 : MS := (sIf (NK.tB (eOp fEq (eVar 2) (eVar 1))) (sRet (eVar 3)) sNext)
noncomputable def b_CoupleState_mark_of : MS := (sSeq (sFor (iSeq (eFld 3 5 (eVar 0))) (gT [2, 3]) l_CoupleState_mark_of_1)
    (sRet (eC .non)))
noncomputable def m_CoupleState_mark_of : MF := fScope (runF 4 b_CoupleState_mark_of)
noncomputable def l_u_law_couple_right_1 : MS := (sSetIx (eVar 9) (eC (.int 1)) (eC (.int 7)))
noncomputable def l_u_law_couple_right_2 : MS := (sSeq (sAsg (eScope (eComp (iSeq (eVar 5)) (gN 9) (NK.tB (eOp fEq (eOp fIx (eVar 9) (eC (.int 0))) (eVar 10))) (eOp fIx (eVar 9) (eC (.int 1))) [9])) (gN 11))
    (sIf (NK.tB (eOp fNe (eMeth 3 2 m_CoupleState_mark_of [] (eVar 7) (aCons (eVar 10) aNil)) (eIf (NK.tB (eOp fNe (eVar 11) (eScope (eLst aNil)))) (eOp fIx (eVar 11) (eC (.int 0))) (eC .non)))) (sRet (eC (.bl false))) sNext))
noncomputable def b_u_law_couple_right : MS := (sSeq (sAsg (eCB fTuple (aCons (eScope (eComp (iSeq (eVar 4)) (gN 9) NK.tYes (eCB fTuple (aCons (eVar 9) aNil)) [9])) aNil)) (gN 5))
    (sSeq (sAsg (eComp (iSeq (eVar 4)) (gN 9) NK.tYes (eCB fList (aCons (eVar 9) aNil)) [9]) (gN 6))
    (sSeq (sAsg (eScope (eMake 3 7 m_CoupleState___init [.tup [.int 0, .int 0]] (aCons (eVar 0) (aCons (eVar 1) (aCons (eVar 2) (aCons (eVar 3) (aCons (eVar 6) aNil))))))) (gN 7))
    (sSeq (sAsg (eScope (eMake 3 7 m_CoupleState___init [] (aCons (eCB fTuple (aCons (eVar 0) aNil)) (aCons (eCB fTuple (aCons (eVar 1) aNil)) (aCons (eVar 2) (aCons (eVar 3) (aCons (eVar 5) (aCons (eScope (eLst (aCons (eC (.int 0)) (aCons (eC (.int 0)) aNil)))) aNil)))))))) (gN 8))
    (sSeq (sFor (iSeq (eVar 6)) (gN 9) l_u_law_couple_right_1)
    (sSeq (sDrop (eBM fApp (eVar 6) (aCons (eC (.int 0)) aNil)))
    (sSeq (sIf (NK.tB (eOp fNe (eTup (aCons (eFld 3 1 (eVar 7)) (aCons (eFld 3 2 (eVar 7)) (aCons (eFld 3 3 (eVar 7)) (aCons (eFld 3 4 (eVar 7)) aNil))))) (eTup (aCons (eCB fTuple (aCons (eVar 0) aNil)) (aCons (eCB fTuple (aCons (eVar 1) aNil)) (aCons (eVar 2) (aCons (eVar 3) aNil))))))) (sRet (eC (.bl false))) sNext)
    (sSeq (sIf (tOr (NK.tB (eOp fNe (eFld 3 5 (eVar 7)) (eVar 5))) (tOr (NK.tB (eOp fNe (eFld 3 6 (eVar 7)) (eTup (aCons (eC (.int 0)) (aCons (eC (.int 0)) aNil))))) (tOr (NK.tB (eOp fNe (eFld 3 6 (eVar 8)) (eTup (aCons (eC (.int 0)) (aCons (eC (.int 0)) aNil))))) (NK.tB (eOp fNe (eFld 3 0 (eVar 7)) (eCall 1 m_u_law_many [] (aCons (eVar 0) aNil))))))) (sRet (eC (.bl false))) sNext)
    (sSeq (sIf (tOr (tNot (tTru (eIsi isl [(.b .bool)] (eFld 3 8 (eVar 7))))) (NK.tB (eOp fNe (eFld 3 8 (eVar 7)) (eOp fEq (eOp fAdd (eOp fAdd (eVar 2) (eVar 3)) (eCB fSum (aCons (eScope (eComp (iSeq (eVar 5)) (gN 9) NK.tYes (eOp fIx (eVar 9) (eC (.int 1))) [9])) aNil))) (eC (.int 0)))))) (sRet (eC (.bl false))) sNext)
    (sSeq (sFor (iRng1 (aCons (eOp fAdd (eCall 1 m_u_law_many [] (aCons (eVar 0) aNil)) (eC (.int 1))) aNil)) (gN 10) l_u_law_couple_right_2)
    (sSeq (sAsg (eLst (aCons (eScope (eMake 3 7 m_CoupleState___init [.tup [.int 0, .int 0]] (aCons (eScope (eOp fAdd (eVar 0) (eScope (eLst (aCons (eC .non) aNil))))) (aCons (eVar 1) (aCons (eVar 2) (aCons (eVar 3) (aCons (eVar 4) aNil))))))) (aCons (eScope (eMake 3 7 m_CoupleState___init [.tup [.int 0, .int 0]] (aCons (eVar 0) (aCons (eScope (eOp fAdd (eVar 1) (eScope (eLst (aCons (eC .non) aNil))))) (aCons (eVar 2) (aCons (eVar 3) (aCons (eVar 4) aNil))))))) aNil))) (gN 12))
    (sSeq (sAsg (eOp fAdd (eVar 12) (eScope (eLst (aCons (eScope (eMake 3 7 m_CoupleState___init [.tup [.int 0, .int 0]] (aCons (eVar 0) (aCons (eVar 1) (aCons (eOp fSub (eC (.int 3)) (eVar 2)) (aCons (eVar 3) (aCons (eVar 4) aNil))))))) (aCons (eScope (eMake 3 7 m_CoupleState___init [.tup [.int 0, .int 0]] (aCons (eVar 0) (aCons (eVar 1) (aCons (eVar 2) (aCons (eOp fSub (eC (.int 3)) (eVar 3)) (aCons (eVar 4) aNil))))))) aNil))))) (gN 12))
    (sSeq (sDrop (eBM fApp (eVar 12) (aCons (eScope (eMake 3 7 m_CoupleState___init [] (aCons (eVar 0) (aCons (eVar 1) (aCons (eVar 2) (aCons (eVar 3) (aCons (eVar 4) (aCons (eTup (aCons (eC (.int 0)) (aCons (eC (.int 7)) aNil))) aNil)))))))) aNil)))
    (sSeq (sIf (NK.tB (eOp fNe (eVar 4) (eScope (eLst aNil)))) (sDrop (eBM fApp (eVar 12) (aCons (eScope (eMake 3 7 m_CoupleState___init [.tup [.int 0, .int 0]] (aCons (eVar 0) (aCons (eVar 1) (aCons (eVar 2) (aCons (eVar 3) (aCons (eScope (eSl (eVar 4) (some (eC (.int 1))) none)) aNil))))))) aNil))) sNext)
    (sRet (eAnd (eOp (fEqO 3 [.o 3, .b .tuple] m_CoupleState___eq) (eVar 7) (eVar 8)) (eAnd (eOp fEq (eScope (eComp (iSeq (eVar 12)) (gN 13) (NK.tB (eOp (fEqO 3 [.o 3, .b .tuple] m_CoupleState___eq) (eVar 7) (eVar 13))) (eVar 13) [13])) (eScope (eLst aNil))) (eNot (eOp (fEqO 3 [.o 3, .b .tuple] m_CoupleState___eq) (eVar 7) (eVar 5))))))))))))))))))))
noncomputable def m_u_law_couple_right : MF := fScope (runF 14 b_u_law_couple_right)
noncomputable def b_u_law_spoilt : MS := (sSeq (sIf (NK.tB (eOp fGt (eCall 2 m_u_law_draw [] (aCons (eVar 0) (aCons (eC (.int 4)) aNil))) (eC (.int 0)))) (sRet (eTup (aCons (eVar 1) (aCons (eC .non) aNil)))) sNext)
    (sRet (eTup (aCons (eCall 2 m_u_law_pick [] (aCons (eVar 0) (aCons (eVar 2) aNil))) (aCons (eVar 3) aNil)))))
noncomputable def m_u_law_spoilt : MF := fScope (runF 4 b_u_law_spoilt)
noncomputable def b_u_law_couple_word : MS := (sSeq (sTry (sDrop (eScope (eMake 3 7 m_CoupleState___init [] (aCons (eVar 0) (aCons (eVar 1) (aCons (eVar 2) (aCons (eVar 3) (aCons (eVar 4) (aCons (eVar 5) aNil))))))))) [false, true] 6 fun x => (sRet (eIf (tTru (eIsE [true, true] x)) (eExf 1 0 x) (eC (.str "class")))))
    (sRet (eC .non)))
noncomputable def m_u_law_couple_word : MF := fScope (runF 7 b_u_law_couple_word)
noncomputable def b_u_law_person_word : MS := (sSeq (sTry (sDrop (eScope (eMake 2 5 m_PersonState___init [] (aCons (eVar 0) (aCons (eVar 1) (aCons (eVar 2) (aCons (eVar 3) aNil))))))) [false, true] 4 fun x => (sRet (eIf (tTru (eIsE [true, true] x)) (eExf 1 0 x) (eC (.str "class")))))
    (sRet (eC .non)))
noncomputable def m_u_law_person_word : MF := fScope (runF 5 b_u_law_person_word)
noncomputable def b_u_law_first : MS := (sSeq (sAsg (eScope (eComp (iSeq (eVar 0)) (gN 2) (NK.tB (eOp fNotN (eVar 2) (eC .non))) (eVar 2) [2])) (gN 1))
    (sRet (eIf (NK.tB (eOp fNe (eVar 1) (eScope (eLst aNil)))) (eOp fIx (eVar 1) (eC (.int 0))) (eC .non))))
noncomputable def m_u_law_first : MF := fScope (runF 3 b_u_law_first)
noncomputable def b_u_law_refusals : MS := (sSeq (sAsg (eScope (eLst (aCons (eScope (eLst (aCons (eC (.int 1)) aNil))) (aCons (eScope (eLst (aCons (eC (.int 0)) (aCons (eC (.int 2)) aNil)))) (aCons (eScope (eLst (aCons (eC (.bl true)) aNil))) (aCons (eScope (eLst (aCons (eUn fNeg (eC (.int 1))) aNil))) (aCons (eC (.str "01")) (aCons (eC .non) (aCons (eScope (eLst (aCons (eC (.int 0)) (aCons (eC (.str "a")) aNil)))) (aCons (eScope (eLst (aCons (eC (.int 0)) (aCons (eC (.int 1)) (aCons (eC (.int 3)) aNil))))) (aCons (eC (.int 0)) aNil))))))))))) (gN 4))
    (sSeq (sAsg (eScope (eLst (aCons (eScope (eLst (aCons (eC (.str "living")) aNil))) (aCons (eC .non) (aCons (eC (.str "alive")) (aCons (eScope (eLst (aCons (eC (.int 0)) aNil))) (aCons (eScope (eLst (aCons (eC (.bl true)) aNil))) (aCons (eScope (eLst (aCons (eC (.str "dead")) (aCons (eC (.str "")) aNil)))) aNil)))))))) (gN 5))
    (sSeq (sAsg (eScope (eLst (aCons (eScope (eLst (aCons (eTup (aCons (eC (.int 9)) (aCons (eC (.int 0)) aNil))) aNil))) (aCons (eScope (eLst (aCons (eTup (aCons (eC (.int 0)) (aCons (eC (.int 3)) aNil))) aNil))) (aCons (eScope (eLst (aCons (eTup (aCons (eC (.int 0)) (aCons (eC (.int 0)) aNil))) (aCons (eTup (aCons (eC (.int 0)) (aCons (eC (.int 1)) aNil))) aNil)))) (aCons (eScope (eLst (aCons (eTup (aCons (eC (.int 1)) (aCons (eC (.int 0)) aNil))) (aCons (eTup (aCons (eC (.int 0)) (aCons (eC (.int 0)) aNil))) aNil)))) (aCons (eScope (eLst (aCons (eTup (aCons (eC (.int 0)) aNil)) aNil))) (aCons (eScope (eLst (aCons (eC (.int 0)) aNil))) (aCons (eC .non) (aCons (eScope (eLst (aCons (eTup (aCons (eC (.int 0)) (aCons (eC (.bl true)) aNil))) aNil))) (aCons (eC (.str "a")) (aCons (eScope (eLst (aCons (eTup (aCons (eUn fNeg (eC (.int 1))) (aCons (eC (.int 0)) aNil))) aNil))) (aCons (eScope (eLst (aCons (eTup (aCons (eC (.int 0)) (aCons (eC (.int 0)) (aCons (eC (.int 0)) aNil)))) aNil))) aNil))))))))))))) (gN 6))
    (sSeq (sAsg (eCall 4 m_u_law_spoilt [] (aCons (eVar 0) (aCons (eCall 2 m_u_law_pick [] (aCons (eVar 0) (aCons (eScope (eLst (aCons (eC (.str "s")) (aCons (eC (.str "d")) aNil)))) aNil))) (aCons (eScope (eLst (aCons (eC (.str "x")) (aCons (eC .non) (aCons (eC (.str "")) (aCons (eC (.int 1)) (aCons (eC (.str "f")) aNil))))))) (aCons (eC (.str "kind")) aNil))))) (gN 7))
    (sSeq (sAsg (eCall 4 m_u_law_spoilt [] (aCons (eVar 0) (aCons (eVar 1) (aCons (eVar 4) (aCons (eC (.str "names")) aNil))))) (gN 8))
    (sSeq (sAsg (eCall 4 m_u_law_spoilt [] (aCons (eVar 0) (aCons (eVar 2) (aCons (eVar 5) (aCons (eC (.str "lives")) aNil))))) (gN 9))
    (sSeq (sAsg (eCall 4 m_u_law_spoilt [] (aCons (eVar 0) (aCons (eCall 2 m_u_law_pick [] (aCons (eVar 0) (aCons (eScope (eLst (aCons (eC (.int 0)) (aCons (eC (.int 1)) (aCons (eC (.int 1000)) aNil))))) aNil))) (aCons (eScope (eLst (aCons (eUn fNeg (eC (.int 1))) (aCons (eC (.int 1001)) (aCons (eC (.bl true)) (aCons (eC .non) (aCons (eC (.str "0")) aNil))))))) (aCons (eC (.str "marks")) aNil))))) (gN 10))
    (sSeq (sIf (NK.tB (eOp fNe (eCall 4 m_u_law_person_word [] (aCons (eOp fIx (eVar 7) (eC (.int 0))) (aCons (eOp fIx (eVar 8) (eC (.int 0))) (aCons (eOp fIx (eVar 9) (eC (.int 0))) (aCons (eOp fIx (eVar 10) (eC (.int 0))) aNil))))) (eCall 1 m_u_law_first [] (aCons (eScope (eLst (aCons (eOp fIx (eVar 7) (eC (.int 1))) (aCons (eOp fIx (eVar 8) (eC (.int 1))) (aCons (eOp fIx (eVar 9) (eC (.int 1))) (aCons (eOp fIx (eVar 10) (eC (.int 1))) aNil)))))) aNil)))) (sRet (eC (.bl false))) sNext)
    (sSeq (sAsg (eCall 4 m_u_law_spoilt [] (aCons (eVar 0) (aCons (eCall 2 m_u_law_draw [] (aCons (eVar 0) (aCons (eC (.int 4)) aNil))) (aCons (eScope (eLst (aCons (eC (.int 4)) (aCons (eUn fNeg (eC (.int 1))) (aCons (eC (.bl true)) (aCons (eC (.str "1")) (aCons (eC .non) aNil))))))) (aCons (eC (.str "numbers")) aNil))))) (gN 11))
    (sSeq (sAsg (eCall 4 m_u_law_spoilt [] (aCons (eVar 0) (aCons (eCall 2 m_u_law_draw [] (aCons (eVar 0) (aCons (eC (.int 4)) aNil))) (aCons (eScope (eLst (aCons (eC (.int 4)) (aCons (eUn fNeg (eC (.int 1))) (aCons (eC (.bl false)) (aCons (eC (.str "1")) (aCons (eC .non) aNil))))))) (aCons (eC (.str "numbers")) aNil))))) (gN 12))
    (sSeq (sAsg (eCall 4 m_u_law_spoilt [] (aCons (eVar 0) (aCons (eIf (NK.tB (eOp fIsN (eOp fIx (eVar 8) (eC (.int 1))) (eC .non))) (eVar 3) (eScope (eLst aNil))) (aCons (eVar 6) (aCons (eC (.str "borne")) aNil))))) (gN 13))
    (sSeq (sAsg (eCall 4 m_u_law_spoilt [] (aCons (eVar 0) (aCons (eScope (eLst (aCons (eC (.int 0)) (aCons (eC (.int 1000)) aNil)))) (aCons (eScope (eLst (aCons (eTup (aCons (eC (.int 0)) aNil)) (aCons (eTup (aCons (eC (.int 0)) (aCons (eC (.int 1001)) aNil))) (aCons (eC .non) (aCons (eTup (aCons (eC (.int 0)) (aCons (eC (.bl true)) aNil))) (aCons (eScope (eLst (aCons (eC (.int 0)) (aCons (eC (.int 0)) (aCons (eC (.int 0)) aNil))))) (aCons (eC (.int 0)) aNil)))))))) (aCons (eC (.str "marks")) aNil))))) (gN 14))
    (sSeq (sAsg (eCall 6 m_u_law_couple_word [] (aCons (eOp fIx (eVar 8) (eC (.int 0))) (aCons (eOp fIx (eVar 9) (eC (.int 0))) (aCons (eOp fIx (eVar 11) (eC (.int 0))) (aCons (eOp fIx (eVar 12) (eC (.int 0))) (aCons (eOp fIx (eVar 13) (eC (.int 0))) (aCons (eOp fIx (eVar 14) (eC (.int 0))) aNil))))))) (gN 15))
    (sRet (eOp fEq (eVar 15) (eCall 1 m_u_law_first [] (aCons (eScope (eLst (aCons (eOp fIx (eVar 8) (eC (.int 1))) (aCons (eOp fIx (eVar 9) (eC (.int 1))) (aCons (eOp fIx (eVar 11) (eC (.int 1))) (aCons (eOp fIx (eVar 12) (eC (.int 1))) (aCons (eOp fIx (eVar 13) (eC (.int 1))) (aCons (eOp fIx (eVar 14) (eC (.int 1))) aNil)))))))) aNil)))))))))))))))))
noncomputable def m_u_law_refusals : MF := fScope (runF 16 b_u_law_refusals)
noncomputable def l_law_1 : MS := (sSeq (sAsg (eCall 1 m_u_law_entries [] (aCons (eVar 1) aNil)) (gN 3))
    (sSeq (sAsg (eCall 1 m_u_law_drawn_lives [] (aCons (eVar 1) aNil)) (gN 4))
    (sSeq (sAsg (eCall 2 m_u_law_drawn_marks [] (aCons (eVar 1) (aCons (eCall 1 m_u_law_many [] (aCons (eVar 3) aNil)) aNil))) (gN 5))
    (sSeq (sIf (tNot (tTru (eCall 3 m_u_law_person_right [] (aCons (eVar 1) (aCons (eVar 3) (aCons (eVar 4) aNil)))))) (sRet (eC (.bl false))) sNext)
    (sSeq (sIf (tNot (tTru (eCall 5 m_u_law_couple_right [] (aCons (eVar 3) (aCons (eVar 4) (aCons (eCall 2 m_u_law_draw [] (aCons (eVar 1) (aCons (eC (.int 4)) aNil))) (aCons (eCall 2 m_u_law_draw [] (aCons (eVar 1) (aCons (eC (.int 4)) aNil))) (aCons (eVar 5) aNil)))))))) (sRet (eC (.bl false))) sNext)
    (sIf (tNot (tTru (eCall 4 m_u_law_refusals [] (aCons (eVar 1) (aCons (eVar 3) (aCons (eVar 4) (aCons (eVar 5) aNil))))))) (sRet (eC (.bl false))) sNext))))))
noncomputable def b_law : MS := (sSeq (sAsg (eCall 1 m_u_law_hand [] (aCons (eVar 0) aNil)) (gN 1))
    (sSeq (sFor (iRng1 (aCons (eC (.int 2)) aNil)) (gN 2) l_law_1)
    (sRet (eAnd (eCall 3 m_u_law_person_right [] (aCons (eVar 1) (aCons (eScope (eLst aNil)) (aCons (eScope (eLst aNil)) aNil)))) (eCall 5 m_u_law_couple_right [] (aCons (eScope (eLst (aCons (eC .non) aNil))) (aCons (eScope (eLst aNil)) (aCons (eC (.int 0)) (aCons (eC (.int 0)) (aCons (eScope (eLst aNil)) aNil))))))))))
noncomputable def m_law : MF := fScope (runF 6 b_law)
end G

set_option Elab.async false
set_option linter.all false
set_option maxRecDepth 100000
set_option maxHeartbeats 4000000
/-! The mirrors of the defs that the law reaches, and the derivations (printed). -/
namespace G
open PySem L2 NK
def top (i : Nat) : Stmt := PySem.Challenge.pw_namesakes_k35_states_made_and_refused.main.body.getD i (.Pass ⟨0, 0, 0, 0⟩)
abbrev PW : Program := PySem.Challenge.pw_namesakes_k35_states_made_and_refused
abbrev s_u_law_hand : Stmt := (top 20)
abbrev s_u_law_mix : Stmt := (top 19)
abbrev s_u_law_draw : Stmt := (top 21)
abbrev s_u_law_classes : Stmt := (top 23)
abbrev s_u_law_pick : Stmt := (top 22)
abbrev s_u_law_entries : Stmt := (top 25)
abbrev s_u_law_drawn_lives : Stmt := (top 26)
abbrev s_u_law_drawn_marks : Stmt := (top 27)
abbrev s_entries_fault : Stmt := (top 9)
abbrev s_BadState___init : Stmt := (inClass (top 3) 0)
abbrev s_check_entries : Stmt := (top 12)
abbrev s_check_life_row : Stmt := (top 13)
abbrev s_is_whole : Stmt := (top 5)
abbrev s_check_marks : Stmt := (top 15)
abbrev s_is_kind : Stmt := (top 6)
abbrev s_PersonState___init : Stmt := (inClass (top 16) 0)
abbrev s_PersonState___eq : Stmt := (inClass (top 16) 1)
abbrev s_u_law_person_right : Stmt := (top 33)
abbrev s_check_borne : Stmt := (top 14)
abbrev s_CoupleState___init : Stmt := (inClass (top 17) 0)
abbrev s_CoupleState___eq : Stmt := (inClass (top 17) 3)
abbrev s_u_law_many : Stmt := (top 24)
abbrev s_CoupleState_mark_of : Stmt := (inClass (top 17) 1)
abbrev s_u_law_couple_right : Stmt := (top 34)
abbrev s_u_law_spoilt : Stmt := (top 31)
abbrev s_u_law_couple_word : Stmt := (top 29)
abbrev s_u_law_person_word : Stmt := (top 28)
abbrev s_u_law_first : Stmt := (top 30)
abbrev s_u_law_refusals : Stmt := (top 32)
abbrev s_law : Stmt := (top 35)
/-- where the text's things lie -/
structure Ad where
  c_CustomError : Addr
  c_BadState : Addr
  c_PersonState : Addr
  c_CoupleState : Addr
  f_u_law_hand : Addr
  d_u_law_hand : FuncData
  f_u_law_mix : Addr
  d_u_law_mix : FuncData
  f_u_law_draw : Addr
  d_u_law_draw : FuncData
  f_u_law_classes : Addr
  d_u_law_classes : FuncData
  f_u_law_pick : Addr
  d_u_law_pick : FuncData
  f_u_law_entries : Addr
  d_u_law_entries : FuncData
  f_u_law_drawn_lives : Addr
  d_u_law_drawn_lives : FuncData
  f_u_law_drawn_marks : Addr
  d_u_law_drawn_marks : FuncData
  f_entries_fault : Addr
  d_entries_fault : FuncData
  f_BadState___init : Addr
  d_BadState___init : FuncData
  f_check_entries : Addr
  d_check_entries : FuncData
  f_check_life_row : Addr
  d_check_life_row : FuncData
  f_is_whole : Addr
  d_is_whole : FuncData
  f_check_marks : Addr
  d_check_marks : FuncData
  f_is_kind : Addr
  d_is_kind : FuncData
  f_PersonState___init : Addr
  d_PersonState___init : FuncData
  f_PersonState___eq : Addr
  d_PersonState___eq : FuncData
  f_u_law_person_right : Addr
  d_u_law_person_right : FuncData
  f_check_borne : Addr
  d_check_borne : FuncData
  f_CoupleState___init : Addr
  d_CoupleState___init : FuncData
  f_CoupleState___eq : Addr
  d_CoupleState___eq : FuncData
  f_u_law_many : Addr
  d_u_law_many : FuncData
  f_CoupleState_mark_of : Addr
  d_CoupleState_mark_of : FuncData
  f_u_law_couple_right : Addr
  d_u_law_couple_right : FuncData
  f_u_law_spoilt : Addr
  d_u_law_spoilt : FuncData
  f_u_law_couple_word : Addr
  d_u_law_couple_word : FuncData
  f_u_law_person_word : Addr
  d_u_law_person_word : FuncData
  f_u_law_first : Addr
  d_u_law_first : FuncData
  f_u_law_refusals : Addr
  d_u_law_refusals : FuncData
  f_law : Addr
  d_law : FuncData
  cda_BadState : Addr
  cc_BadState : Addr
  v_MOST_MARK : Value
  v_MOST_PLACES : Value
  t_PersonState___init : Addr
  ds_PersonState___init : List Value
  t_CoupleState___init : Addr
  ds_CoupleState___init : List Value
def tb (w : World) (K : PySem.W.Frag) (a : Ad) : Tb where
  w := w
  K := K
  cls := fun k => match k with
    | 0 => a.c_CustomError
    | 1 => a.c_BadState
    | 2 => a.c_PersonState
    | 3 => a.c_CoupleState
    | _ => 0
  fld := fldN
/-- what the top has written -/
structure Txt (K : PySem.W.Frag) (mg : Str → Option Value) (a : Ad) : Prop where
  z_abs : mg "abs" = none
  z_bool : mg "bool" = none
  z_enumerate : mg "enumerate" = none
  z_int : mg "int" = none
  z_isinstance : mg "isinstance" = none
  z_len : mg "len" = none
  z_list : mg "list" = none
  z_min : mg "min" = none
  z_range : mg "range" = none
  z_str : mg "str" = none
  z_sum : mg "sum" = none
  z_super : mg "super" = none
  z_tuple : mg "tuple" = none
  g_MOST_MARK : RelV (.int 1000) a.v_MOST_MARK ∧ mg "MOST_MARK" = some a.v_MOST_MARK
  g_MOST_PLACES : RelV (.int 40) a.v_MOST_PLACES ∧ mg "MOST_PLACES" = some a.v_MOST_PLACES
  c_CustomError : mg "CustomError" = some (.ref a.c_CustomError)
  c_BadState : mg "BadState" = some (.ref a.c_BadState)
  c_PersonState : mg "PersonState" = some (.ref a.c_PersonState)
  c_CoupleState : mg "CoupleState" = some (.ref a.c_CoupleState)
  F_u_law_hand : FunD K "_law_hand" "_law_hand" (defArgs s_u_law_hand) (defBody s_u_law_hand) (defScope s_u_law_hand) [] [] a.f_u_law_hand a.d_u_law_hand
  b_u_law_hand : Binds K a.d_u_law_hand (["_law_script"] : List Str) []
  m_u_law_hand : mg "_law_hand" = some (.ref a.f_u_law_hand)
  k_u_law_hand : PySem.W.keepIn K (.ref a.f_u_law_hand) = true
  F_u_law_mix : FunD K "_law_mix" "_law_mix" (defArgs s_u_law_mix) (defBody s_u_law_mix) (defScope s_u_law_mix) [] [] a.f_u_law_mix a.d_u_law_mix
  b_u_law_mix : Binds K a.d_u_law_mix (["_law_number", "_law_turn"] : List Str) []
  m_u_law_mix : mg "_law_mix" = some (.ref a.f_u_law_mix)
  k_u_law_mix : PySem.W.keepIn K (.ref a.f_u_law_mix) = true
  F_u_law_draw : FunD K "_law_draw" "_law_draw" (defArgs s_u_law_draw) (defBody s_u_law_draw) (defScope s_u_law_draw) [] [] a.f_u_law_draw a.d_u_law_draw
  b_u_law_draw : Binds K a.d_u_law_draw (["_law_hand_here", "_law_many_here"] : List Str) []
  m_u_law_draw : mg "_law_draw" = some (.ref a.f_u_law_draw)
  k_u_law_draw : PySem.W.keepIn K (.ref a.f_u_law_draw) = true
  F_u_law_classes : FunD K "_law_classes" "_law_classes" (defArgs s_u_law_classes) (defBody s_u_law_classes) (defScope s_u_law_classes) [] [] a.f_u_law_classes a.d_u_law_classes
  b_u_law_classes : Binds K a.d_u_law_classes (["_law_things"] : List Str) []
  m_u_law_classes : mg "_law_classes" = some (.ref a.f_u_law_classes)
  k_u_law_classes : PySem.W.keepIn K (.ref a.f_u_law_classes) = true
  F_u_law_pick : FunD K "_law_pick" "_law_pick" (defArgs s_u_law_pick) (defBody s_u_law_pick) (defScope s_u_law_pick) [] [] a.f_u_law_pick a.d_u_law_pick
  b_u_law_pick : Binds K a.d_u_law_pick (["_law_hand_here", "_law_things"] : List Str) []
  m_u_law_pick : mg "_law_pick" = some (.ref a.f_u_law_pick)
  k_u_law_pick : PySem.W.keepIn K (.ref a.f_u_law_pick) = true
  F_u_law_entries : FunD K "_law_entries" "_law_entries" (defArgs s_u_law_entries) (defBody s_u_law_entries) (defScope s_u_law_entries) [] [] a.f_u_law_entries a.d_u_law_entries
  b_u_law_entries : Binds K a.d_u_law_entries (["_law_hand_here"] : List Str) []
  m_u_law_entries : mg "_law_entries" = some (.ref a.f_u_law_entries)
  k_u_law_entries : PySem.W.keepIn K (.ref a.f_u_law_entries) = true
  F_u_law_drawn_lives : FunD K "_law_drawn_lives" "_law_drawn_lives" (defArgs s_u_law_drawn_lives) (defBody s_u_law_drawn_lives) (defScope s_u_law_drawn_lives) [] [] a.f_u_law_drawn_lives a.d_u_law_drawn_lives
  b_u_law_drawn_lives : Binds K a.d_u_law_drawn_lives (["_law_hand_here"] : List Str) []
  m_u_law_drawn_lives : mg "_law_drawn_lives" = some (.ref a.f_u_law_drawn_lives)
  k_u_law_drawn_lives : PySem.W.keepIn K (.ref a.f_u_law_drawn_lives) = true
  F_u_law_drawn_marks : FunD K "_law_drawn_marks" "_law_drawn_marks" (defArgs s_u_law_drawn_marks) (defBody s_u_law_drawn_marks) (defScope s_u_law_drawn_marks) [] [] a.f_u_law_drawn_marks a.d_u_law_drawn_marks
  b_u_law_drawn_marks : Binds K a.d_u_law_drawn_marks (["_law_hand_here", "_law_many_here"] : List Str) []
  m_u_law_drawn_marks : mg "_law_drawn_marks" = some (.ref a.f_u_law_drawn_marks)
  k_u_law_drawn_marks : PySem.W.keepIn K (.ref a.f_u_law_drawn_marks) = true
  F_entries_fault : FunD K "entries_fault" "entries_fault" (defArgs s_entries_fault) (defBody s_entries_fault) (defScope s_entries_fault) [] [] a.f_entries_fault a.d_entries_fault
  b_entries_fault : Binds K a.d_entries_fault (["thing"] : List Str) []
  m_entries_fault : mg "entries_fault" = some (.ref a.f_entries_fault)
  k_entries_fault : PySem.W.keepIn K (.ref a.f_entries_fault) = true
  l_BadState : ∃ (oc : Value) (od : Option Addr) (osl : Array (Option Value)) (dV kV doc pm : Value) (an : Option Addr) (ct : Value), a.d_BadState___init = PySem.W.ksFn "__init__" "BadState.__init__" (defArgs s_BadState___init) (defBody s_BadState___init) (defScope s_BadState___init) dV kV doc pm an (.ref a.cda_BadState) ct a.cc_BadState ∧ K.lookup a.f_BadState___init = some ⟨oc, od, .func a.d_BadState___init, osl⟩ ∧ PySem.W.codeIn K (.ref a.cda_BadState) "BadState.__init__" = true
  b_BadState___init : Binds K a.d_BadState___init (["self", "what"] : List Str) []
  S_BadState : Sup PW K mg (["self", "what"] : List Str) (["self", "what"] : List Str) (defScope s_BadState___init) a.c_BadState a.cda_BadState a.cc_BadState
  e_BadState : OexC K a.c_BadState
  ei_BadState : PySem.W.findIn K (.ref a.c_BadState) "__init__" = some (some (.ref a.f_BadState___init))
  et_BadState : PySem.W.typeIn K (.ref a.f_BadState___init) = some (.type "function")
  x_BadState : XfC K a.c_BadState
  n_BadState_what : PySem.W.findIn K (.ref a.c_BadState) "what" = some none
  F_check_entries : FunD K "check_entries" "check_entries" (defArgs s_check_entries) (defBody s_check_entries) (defScope s_check_entries) [] [] a.f_check_entries a.d_check_entries
  b_check_entries : Binds K a.d_check_entries (["names"] : List Str) []
  m_check_entries : mg "check_entries" = some (.ref a.f_check_entries)
  k_check_entries : PySem.W.keepIn K (.ref a.f_check_entries) = true
  F_check_life_row : FunD K "check_life_row" "check_life_row" (defArgs s_check_life_row) (defBody s_check_life_row) (defScope s_check_life_row) [] [] a.f_check_life_row a.d_check_life_row
  b_check_life_row : Binds K a.d_check_life_row (["lives"] : List Str) []
  m_check_life_row : mg "check_life_row" = some (.ref a.f_check_life_row)
  k_check_life_row : PySem.W.keepIn K (.ref a.f_check_life_row) = true
  F_is_whole : FunD K "is_whole" "is_whole" (defArgs s_is_whole) (defBody s_is_whole) (defScope s_is_whole) [] [] a.f_is_whole a.d_is_whole
  b_is_whole : Binds K a.d_is_whole (["thing", "low", "high"] : List Str) []
  m_is_whole : mg "is_whole" = some (.ref a.f_is_whole)
  k_is_whole : PySem.W.keepIn K (.ref a.f_is_whole) = true
  F_check_marks : FunD K "check_marks" "check_marks" (defArgs s_check_marks) (defBody s_check_marks) (defScope s_check_marks) [] [] a.f_check_marks a.d_check_marks
  b_check_marks : Binds K a.d_check_marks (["marks"] : List Str) []
  m_check_marks : mg "check_marks" = some (.ref a.f_check_marks)
  k_check_marks : PySem.W.keepIn K (.ref a.f_check_marks) = true
  F_is_kind : FunD K "is_kind" "is_kind" (defArgs s_is_kind) (defBody s_is_kind) (defScope s_is_kind) [] [] a.f_is_kind a.d_is_kind
  b_is_kind : Binds K a.d_is_kind (["thing"] : List Str) []
  m_is_kind : mg "is_kind" = some (.ref a.f_is_kind)
  k_is_kind : PySem.W.keepIn K (.ref a.f_is_kind) = true
  F_PersonState___init : FunD K "__init__" "PersonState.__init__" (defArgs s_PersonState___init) (defBody s_PersonState___init) (defScope s_PersonState___init) [V.int 0] [] a.f_PersonState___init a.d_PersonState___init
  b_PersonState___init : Binds K a.d_PersonState___init (["self", "kind", "names", "lives", "mark"] : List Str) []
  bd_PersonState___init : Binds K a.d_PersonState___init (["self", "kind", "names", "lives", "mark"] : List Str) a.ds_PersonState___init ∧ Vals [V.int 0] a.ds_PersonState___init
  F_PersonState___eq : FunD K "__eq__" "PersonState.__eq__" (defArgs s_PersonState___eq) (defBody s_PersonState___eq) (defScope s_PersonState___eq) [] [] a.f_PersonState___eq a.d_PersonState___eq
  b_PersonState___eq : Binds K a.d_PersonState___eq (["self", "other"] : List Str) []
  F_u_law_person_right : FunD K "_law_person_right" "_law_person_right" (defArgs s_u_law_person_right) (defBody s_u_law_person_right) (defScope s_u_law_person_right) [] [] a.f_u_law_person_right a.d_u_law_person_right
  b_u_law_person_right : Binds K a.d_u_law_person_right (["_law_hand_here", "_law_names", "_law_lives"] : List Str) []
  m_u_law_person_right : mg "_law_person_right" = some (.ref a.f_u_law_person_right)
  k_u_law_person_right : PySem.W.keepIn K (.ref a.f_u_law_person_right) = true
  F_check_borne : FunD K "check_borne" "check_borne" (defArgs s_check_borne) (defBody s_check_borne) (defScope s_check_borne) [] [] a.f_check_borne a.d_check_borne
  b_check_borne : Binds K a.d_check_borne (["borne", "count"] : List Str) []
  m_check_borne : mg "check_borne" = some (.ref a.f_check_borne)
  k_check_borne : PySem.W.keepIn K (.ref a.f_check_borne) = true
  F_CoupleState___init : FunD K "__init__" "CoupleState.__init__" (defArgs s_CoupleState___init) (defBody s_CoupleState___init) (defScope s_CoupleState___init) [V.ref a.t_CoupleState___init] [] a.f_CoupleState___init a.d_CoupleState___init
  b_CoupleState___init : Binds K a.d_CoupleState___init (["self", "names", "lives", "sons", "daughters", "borne", "marks"] : List Str) []
  bd_CoupleState___init : Binds K a.d_CoupleState___init (["self", "names", "lives", "sons", "daughters", "borne", "marks"] : List Str) a.ds_CoupleState___init ∧ Vals [V.ref a.t_CoupleState___init] a.ds_CoupleState___init
  td_CoupleState___init : SqT K (fun _ => none) a.t_CoupleState___init [.int 0, .int 0]
  F_CoupleState___eq : FunD K "__eq__" "CoupleState.__eq__" (defArgs s_CoupleState___eq) (defBody s_CoupleState___eq) (defScope s_CoupleState___eq) [] [] a.f_CoupleState___eq a.d_CoupleState___eq
  b_CoupleState___eq : Binds K a.d_CoupleState___eq (["self", "other"] : List Str) []
  F_u_law_many : FunD K "_law_many" "_law_many" (defArgs s_u_law_many) (defBody s_u_law_many) (defScope s_u_law_many) [] [] a.f_u_law_many a.d_u_law_many
  b_u_law_many : Binds K a.d_u_law_many (["_law_names"] : List Str) []
  m_u_law_many : mg "_law_many" = some (.ref a.f_u_law_many)
  k_u_law_many : PySem.W.keepIn K (.ref a.f_u_law_many) = true
  F_CoupleState_mark_of : FunD K "mark_of" "CoupleState.mark_of" (defArgs s_CoupleState_mark_of) (defBody s_CoupleState_mark_of) (defScope s_CoupleState_mark_of) [] [] a.f_CoupleState_mark_of a.d_CoupleState_mark_of
  b_CoupleState_mark_of : Binds K a.d_CoupleState_mark_of (["self", "number"] : List Str) []
  h_CoupleState_mark_of : Meth K a.c_CoupleState "mark_of" a.f_CoupleState_mark_of
  F_u_law_couple_right : FunD K "_law_couple_right" "_law_couple_right" (defArgs s_u_law_couple_right) (defBody s_u_law_couple_right) (defScope s_u_law_couple_right) [] [] a.f_u_law_couple_right a.d_u_law_couple_right
  b_u_law_couple_right : Binds K a.d_u_law_couple_right (["_law_names", "_law_lives", "_law_sons", "_law_daughters", "_law_pairs"] : List Str) []
  m_u_law_couple_right : mg "_law_couple_right" = some (.ref a.f_u_law_couple_right)
  k_u_law_couple_right : PySem.W.keepIn K (.ref a.f_u_law_couple_right) = true
  F_u_law_spoilt : FunD K "_law_spoilt" "_law_spoilt" (defArgs s_u_law_spoilt) (defBody s_u_law_spoilt) (defScope s_u_law_spoilt) [] [] a.f_u_law_spoilt a.d_u_law_spoilt
  b_u_law_spoilt : Binds K a.d_u_law_spoilt (["_law_hand_here", "_law_good", "_law_bad", "_law_word"] : List Str) []
  m_u_law_spoilt : mg "_law_spoilt" = some (.ref a.f_u_law_spoilt)
  k_u_law_spoilt : PySem.W.keepIn K (.ref a.f_u_law_spoilt) = true
  F_u_law_couple_word : FunD K "_law_couple_word" "_law_couple_word" (defArgs s_u_law_couple_word) (defBody s_u_law_couple_word) (defScope s_u_law_couple_word) [] [] a.f_u_law_couple_word a.d_u_law_couple_word
  b_u_law_couple_word : Binds K a.d_u_law_couple_word (["_law_names", "_law_lives", "_law_sons", "_law_daughters", "_law_pairs", "_law_both"] : List Str) []
  m_u_law_couple_word : mg "_law_couple_word" = some (.ref a.f_u_law_couple_word)
  k_u_law_couple_word : PySem.W.keepIn K (.ref a.f_u_law_couple_word) = true
  F_u_law_person_word : FunD K "_law_person_word" "_law_person_word" (defArgs s_u_law_person_word) (defBody s_u_law_person_word) (defScope s_u_law_person_word) [] [] a.f_u_law_person_word a.d_u_law_person_word
  b_u_law_person_word : Binds K a.d_u_law_person_word (["_law_kind", "_law_names", "_law_lives", "_law_worth"] : List Str) []
  m_u_law_person_word : mg "_law_person_word" = some (.ref a.f_u_law_person_word)
  k_u_law_person_word : PySem.W.keepIn K (.ref a.f_u_law_person_word) = true
  F_u_law_first : FunD K "_law_first" "_law_first" (defArgs s_u_law_first) (defBody s_u_law_first) (defScope s_u_law_first) [] [] a.f_u_law_first a.d_u_law_first
  b_u_law_first : Binds K a.d_u_law_first (["_law_words"] : List Str) []
  m_u_law_first : mg "_law_first" = some (.ref a.f_u_law_first)
  k_u_law_first : PySem.W.keepIn K (.ref a.f_u_law_first) = true
  F_u_law_refusals : FunD K "_law_refusals" "_law_refusals" (defArgs s_u_law_refusals) (defBody s_u_law_refusals) (defScope s_u_law_refusals) [] [] a.f_u_law_refusals a.d_u_law_refusals
  b_u_law_refusals : Binds K a.d_u_law_refusals (["_law_hand_here", "_law_names", "_law_lives", "_law_pairs"] : List Str) []
  m_u_law_refusals : mg "_law_refusals" = some (.ref a.f_u_law_refusals)
  k_u_law_refusals : PySem.W.keepIn K (.ref a.f_u_law_refusals) = true
  F_law : FunD K "law" "law" (defArgs s_law) (defBody s_law) (defScope s_law) [] [] a.f_law a.d_law
  b_law : Binds K a.d_law (["_law_script"] : List Str) []
  m_law : mg "law" = some (.ref a.f_law)
  k_law : PySem.W.keepIn K (.ref a.f_law) = true
  hn : PySem.W.specialIn K (.builtin "object.__class__") "__get__" = some (some (.builtin "getset_descriptor.__get__"))
  ht : PySem.W.takesIn K (.builtin "object.__class__") = some true
  cl_PersonState : Cls K a.c_PersonState
  ha_PersonState : PySem.W.findIn K (.ref a.c_PersonState) "__class__" = some (some (.builtin "object.__class__"))
  hm_PersonState : PySem.W.mroIn K a.c_PersonState (.type "object") = some true
  na_PersonState_kind : NoAttr K a.c_PersonState "kind"
  na_PersonState_names : NoAttr K a.c_PersonState "names"
  na_PersonState_lives : NoAttr K a.c_PersonState "lives"
  na_PersonState_mark : NoAttr K a.c_PersonState "mark"
  na_PersonState_key : NoAttr K a.c_PersonState "key"
  mk_PersonState : Mk K a.c_PersonState a.f_PersonState___init
  q_PersonState : PySem.W.findIn K (.ref a.c_PersonState) "__eq__" = some (some (.ref a.f_PersonState___eq)) ∧ PySem.W.isFn K (.ref a.f_PersonState___eq) = true
  nf_PersonState_PersonState : PySem.W.notFirst K a.c_PersonState (.ref a.c_PersonState) = true
  nf_PersonState_tuple : PySem.W.notFirst K a.c_PersonState (.type "tuple") = true
  cl_CoupleState : Cls K a.c_CoupleState
  ha_CoupleState : PySem.W.findIn K (.ref a.c_CoupleState) "__class__" = some (some (.builtin "object.__class__"))
  hm_CoupleState : PySem.W.mroIn K a.c_CoupleState (.type "object") = some true
  na_CoupleState_classes : NoAttr K a.c_CoupleState "classes"
  na_CoupleState_names : NoAttr K a.c_CoupleState "names"
  na_CoupleState_lives : NoAttr K a.c_CoupleState "lives"
  na_CoupleState_sons : NoAttr K a.c_CoupleState "sons"
  na_CoupleState_daughters : NoAttr K a.c_CoupleState "daughters"
  na_CoupleState_borne : NoAttr K a.c_CoupleState "borne"
  na_CoupleState_marks : NoAttr K a.c_CoupleState "marks"
  na_CoupleState_key : NoAttr K a.c_CoupleState "key"
  na_CoupleState_is_new : NoAttr K a.c_CoupleState "is_new"
  mk_CoupleState : Mk K a.c_CoupleState a.f_CoupleState___init
  q_CoupleState : PySem.W.findIn K (.ref a.c_CoupleState) "__eq__" = some (some (.ref a.f_CoupleState___eq)) ∧ PySem.W.isFn K (.ref a.f_CoupleState___eq) = true
  nf_CoupleState_CoupleState : PySem.W.notFirst K a.c_CoupleState (.ref a.c_CoupleState) = true
  nf_CoupleState_tuple : PySem.W.notFirst K a.c_CoupleState (.type "tuple") = true
  is_0 : PySem.W.kitOne K (.ref a.c_PersonState) (.ref a.c_PersonState) = some true
  is_1 : PySem.W.kitOne K (.type "tuple") (.ref a.c_PersonState) = some false
  is_2 : PySem.W.kitOne K (.ref a.c_CoupleState) (.ref a.c_CoupleState) = some true
  is_3 : PySem.W.kitOne K (.type "tuple") (.ref a.c_CoupleState) = some false
  xm_BadState_0 : PySem.W.exmOne K (.ref a.c_CustomError) (.ref a.c_BadState) = some false
  xm_BadState_1 : PySem.W.exmOne K (.ref a.c_BadState) (.ref a.c_BadState) = some true
  ie_CustomError_0 : PySem.W.kitOne K (.ref a.c_CustomError) (.ref a.c_CustomError) = some true
  ie_CustomError_1 : PySem.W.kitOne K (.ref a.c_BadState) (.ref a.c_CustomError) = some true
  ex_0 : ExcC K a.c_CustomError
  ex_1 : ExcC K a.c_BadState
section
variable {w : World} {K : PySem.W.Frag} {mg : Str → Option Value} {a : Ad} {base : Heap}
theorem Txt.i_PersonState (T : Txt K mg a) : InsC (tb w K a) 2 := ⟨T.cl_PersonState, T.ha_PersonState, T.hn, T.ht, T.hm_PersonState⟩
theorem Txt.o_PersonState_kind (T : Txt K mg a) : FldOk (tb w K a) 2 0 "kind" := ⟨T.cl_PersonState, T.na_PersonState_kind, rfl, (show (fldN 2).Nodup by decide +kernel), (show (fldN 2).length ≤ 900 by decide)⟩
theorem Txt.o_PersonState_names (T : Txt K mg a) : FldOk (tb w K a) 2 1 "names" := ⟨T.cl_PersonState, T.na_PersonState_names, rfl, (show (fldN 2).Nodup by decide +kernel), (show (fldN 2).length ≤ 900 by decide)⟩
theorem Txt.o_PersonState_lives (T : Txt K mg a) : FldOk (tb w K a) 2 2 "lives" := ⟨T.cl_PersonState, T.na_PersonState_lives, rfl, (show (fldN 2).Nodup by decide +kernel), (show (fldN 2).length ≤ 900 by decide)⟩
theorem Txt.o_PersonState_mark (T : Txt K mg a) : FldOk (tb w K a) 2 3 "mark" := ⟨T.cl_PersonState, T.na_PersonState_mark, rfl, (show (fldN 2).Nodup by decide +kernel), (show (fldN 2).length ≤ 900 by decide)⟩
theorem Txt.o_PersonState_key (T : Txt K mg a) : FldOk (tb w K a) 2 4 "key" := ⟨T.cl_PersonState, T.na_PersonState_key, rfl, (show (fldN 2).Nodup by decide +kernel), (show (fldN 2).length ≤ 900 by decide)⟩
theorem Txt.nf_PersonState (T : Txt K mg a) : ∀ t ∈ ([.o 2, .b .tuple] : List Tr), TrOk (tb w K a) t ∧ PySem.W.notFirst (tb w K a).K ((tb w K a).cls 2) (t.v (tb w K a)) = true := by
  intro t h
  simp only [List.mem_cons, List.not_mem_nil, or_false] at h
  rcases h with rfl | rfl
  · exact ⟨T.i_PersonState, T.nf_PersonState_PersonState⟩
  · exact ⟨True.intro, T.nf_PersonState_tuple⟩
theorem Txt.i_CoupleState (T : Txt K mg a) : InsC (tb w K a) 3 := ⟨T.cl_CoupleState, T.ha_CoupleState, T.hn, T.ht, T.hm_CoupleState⟩
theorem Txt.o_CoupleState_classes (T : Txt K mg a) : FldOk (tb w K a) 3 0 "classes" := ⟨T.cl_CoupleState, T.na_CoupleState_classes, rfl, (show (fldN 3).Nodup by decide +kernel), (show (fldN 3).length ≤ 900 by decide)⟩
theorem Txt.o_CoupleState_names (T : Txt K mg a) : FldOk (tb w K a) 3 1 "names" := ⟨T.cl_CoupleState, T.na_CoupleState_names, rfl, (show (fldN 3).Nodup by decide +kernel), (show (fldN 3).length ≤ 900 by decide)⟩
theorem Txt.o_CoupleState_lives (T : Txt K mg a) : FldOk (tb w K a) 3 2 "lives" := ⟨T.cl_CoupleState, T.na_CoupleState_lives, rfl, (show (fldN 3).Nodup by decide +kernel), (show (fldN 3).length ≤ 900 by decide)⟩
theorem Txt.o_CoupleState_sons (T : Txt K mg a) : FldOk (tb w K a) 3 3 "sons" := ⟨T.cl_CoupleState, T.na_CoupleState_sons, rfl, (show (fldN 3).Nodup by decide +kernel), (show (fldN 3).length ≤ 900 by decide)⟩
theorem Txt.o_CoupleState_daughters (T : Txt K mg a) : FldOk (tb w K a) 3 4 "daughters" := ⟨T.cl_CoupleState, T.na_CoupleState_daughters, rfl, (show (fldN 3).Nodup by decide +kernel), (show (fldN 3).length ≤ 900 by decide)⟩
theorem Txt.o_CoupleState_borne (T : Txt K mg a) : FldOk (tb w K a) 3 5 "borne" := ⟨T.cl_CoupleState, T.na_CoupleState_borne, rfl, (show (fldN 3).Nodup by decide +kernel), (show (fldN 3).length ≤ 900 by decide)⟩
theorem Txt.o_CoupleState_marks (T : Txt K mg a) : FldOk (tb w K a) 3 6 "marks" := ⟨T.cl_CoupleState, T.na_CoupleState_marks, rfl, (show (fldN 3).Nodup by decide +kernel), (show (fldN 3).length ≤ 900 by decide)⟩
theorem Txt.o_CoupleState_key (T : Txt K mg a) : FldOk (tb w K a) 3 7 "key" := ⟨T.cl_CoupleState, T.na_CoupleState_key, rfl, (show (fldN 3).Nodup by decide +kernel), (show (fldN 3).length ≤ 900 by decide)⟩
theorem Txt.o_CoupleState_is_new (T : Txt K mg a) : FldOk (tb w K a) 3 8 "is_new" := ⟨T.cl_CoupleState, T.na_CoupleState_is_new, rfl, (show (fldN 3).Nodup by decide +kernel), (show (fldN 3).length ≤ 900 by decide)⟩
theorem Txt.nf_CoupleState (T : Txt K mg a) : ∀ t ∈ ([.o 3, .b .tuple] : List Tr), TrOk (tb w K a) t ∧ PySem.W.notFirst (tb w K a).K ((tb w K a).cls 3) (t.v (tb w K a)) = true := by
  intro t h
  simp only [List.mem_cons, List.not_mem_nil, or_false] at h
  rcases h with rfl | rfl
  · exact ⟨T.i_CoupleState, T.nf_CoupleState_CoupleState⟩
  · exact ⟨True.intro, T.nf_CoupleState_tuple⟩
theorem Txt.isok (T : Txt K mg a) : IsOk (tb w K a) isl := by
  intro p h
  unfold isl at h
  simp only [List.mem_cons, List.not_mem_nil, or_false] at h
  rcases h with rfl | rfl | rfl | rfl
  · exact ⟨T.i_PersonState, T.is_0⟩
  · exact ⟨True.intro, T.is_1⟩
  · exact ⟨T.i_CoupleState, T.is_2⟩
  · exact ⟨True.intro, T.is_3⟩
theorem Txt.exm_BadState (T : Txt K mg a) : ∀ (k : Nat) (b : Bool), ([false, true] : List Bool)[k]? = some b → PySem.W.exmOne K (.ref ((tb w K a).cls k)) (.ref a.c_BadState) = some b := by
  intro k b h
  match k, h with
  | 0, h => cases h; exact T.xm_BadState_0
  | 1, h => cases h; exact T.xm_BadState_1
  | n + 2, h => simp at h
theorem Txt.ise_CustomError (T : Txt K mg a) : ∀ (k : Nat) (b : Bool), ([true, true] : List Bool)[k]? = some b → ExcC K ((tb w K a).cls k) ∧ PySem.W.kitOne K (.ref ((tb w K a).cls k)) (.ref a.c_CustomError) = some b := by
  intro k b h
  match k, h with
  | 0, h => cases h; exact ⟨T.ex_0, T.ie_CustomError_0⟩
  | 1, h => cases h; exact ⟨T.ex_1, T.ie_CustomError_1⟩
  | n + 2, h => simp at h
theorem Txt.dm (T : Txt K mg a) (c : Cn) : RpL (tb w K a) c [.tup [.int 0, .int 0]] [V.ref a.t_CoupleState___init] := .one (.tup (T.td_CoupleState___init.elim (fun h => by rcases h with h | ⟨_, h⟩ <;> cases h) .inr) (.cons (.int 0) (.one (.int 0))))
theorem sc_u_law_hand : FnScope (["_law_script", "_law_total", "_law_k", "_law_cell"] : List Str) (["_law_script"] : List Str) (defScope s_u_law_hand) := ⟨rfl, rfl, rfl, by decide +kernel, rfl, by decide +kernel, by decide +kernel⟩
theorem ok_u_law_hand (T : Txt K mg a) : FnOk PW w K mg base (L2.CX PW w) 1 a.f_u_law_hand a.d_u_law_hand (["_law_script"] : List Str) (spOf (tb w K a) 1 m_u_law_hand) :=
  fund_okl T.F_u_law_hand sc_u_law_hand fun cdv A outer s H E hr =>
    (pssm_cons (psm_set (i := 1) sc_u_law_hand.nd rfl (Or.inl rfl) pem_int)
    (pssm_cons (psm_for (passes_of rfl) rfl (pim_enumA rfl rfl T.z_enumerate (pam_cons (pem_var (pv 0)) pam_nil)) (pgm_tup rfl rfl (PGN.cons (pg_name (i := 2) sc_u_law_hand.nd rfl (Or.inl rfl)) rfl (PGN.cons (pg_name (i := 3) sc_u_law_hand.nd rfl (Or.inl rfl)) rfl PGN.nil rfl) rfl)) (pssm_one (psm_set (i := 1) sc_u_law_hand.nd rfl (Or.inl rfl) (pem_op op_mod sim_mod (pem_callTy call_int1 sim_int rfl T.z_int bt_int (pam_cons (pem_op op_addAll sim_add (pem_op op_mulAll sim_mul (pem_var (pv 1)) pem_int) (pem_op op_mulAll sim_mul (pem_callTy call_int1 sim_int rfl T.z_int bt_int (pam_cons (pem_var (pv 3)) pam_nil)) (pem_op op_addAll sim_add (pem_var (pv 2)) pem_int))) pam_nil)) pem_int))))
    (pssm_one (psm_ret (pem_lst (pam_cons (pem_scope (pem_comp (own := [("_law_cell", 3)]) rfl sc_u_law_hand.nd (pim_seq rfl (pem_var (pv 0))) (show BlkOk (["_law_script", "_law_total", "_law_k", "_law_cell"] : List Str) (defScope s_u_law_hand) _ [("_law_cell", 3)] from ⟨rfl, by decide +kernel, by decide +kernel, by decide +kernel, by decide +kernel⟩) (fun _ _ _ _ _ => (pg_name (i := 3) sc_u_law_hand.nd rfl (Or.inl rfl))) (gr_name rfl) (gw_name (by decide)) (fun _ _ _ _ _ => (ptsm_nil (σ := ()))) (fun _ _ _ _ _ => (pem_callB call_abs sim_abs rfl T.z_abs bt_abs (pam_cons (pem_callTy call_int1 sim_int rfl T.z_int bt_int (pam_cons (pem_var (pv 3)) pam_nil)) pam_nil))))) (pam_cons pem_int (pam_cons pem_int (pam_cons (pem_var (pv 1)) pam_nil)))))))))
theorem sc_u_law_mix : FnScope (["_law_number", "_law_turn", "_law_once", "_law_twice"] : List Str) (["_law_number", "_law_turn"] : List Str) (defScope s_u_law_mix) := ⟨rfl, rfl, rfl, by decide +kernel, rfl, by decide +kernel, by decide +kernel⟩
theorem ok_u_law_mix (T : Txt K mg a) : FnOk PW w K mg base (L2.CX PW w) 1 a.f_u_law_mix a.d_u_law_mix (["_law_number", "_law_turn"] : List Str) (spOf (tb w K a) 2 m_u_law_mix) :=
  fund_okm T.F_u_law_mix sc_u_law_mix fun cdv A outer s H E hr =>
    (pssm_cons (psm_set (i := 2) sc_u_law_mix.nd rfl (Or.inl rfl) (pem_op op_mod sim_mod (pem_callTy call_int1 sim_int rfl T.z_int bt_int (pam_cons (pem_op op_addAll sim_add (pem_op op_addAll sim_add (pem_op op_mulAll sim_mul (pem_var (pv 0)) pem_int) (pem_op op_mulAll sim_mul (pem_var (pv 1)) pem_int)) pem_int) pam_nil)) pem_int))
    (pssm_cons (psm_set (i := 3) sc_u_law_mix.nd rfl (Or.inl rfl) (pem_op op_mod sim_mod (pem_callTy call_int1 sim_int rfl T.z_int bt_int (pam_cons (pem_op op_addAll sim_add (pem_op op_addAll sim_add (pem_op op_mulAll sim_mul (pem_var (pv 2)) (pem_var (pv 2))) (pem_op op_mulAll sim_mul (pem_op op_fdivW sim_div (pem_var (pv 2)) pem_int) pem_int)) (pem_op op_mulAll sim_mul (pem_var (pv 1)) pem_int)) pam_nil)) pem_int))
    (pssm_one (psm_ret (pem_op op_fdivW sim_div (pem_op op_mod sim_mod (pem_callTy call_int1 sim_int rfl T.z_int bt_int (pam_cons (pem_op op_addAll sim_add (pem_op op_fdivW sim_div (pem_op op_mulAll sim_mul (pem_var (pv 3)) (pem_var (pv 3))) pem_int) (pem_var (pv 2))) pam_nil)) pem_int) pem_int)))))
theorem sc_u_law_draw : FnScope (["_law_hand_here", "_law_many_here", "_law_cell", "_law_rest"] : List Str) (["_law_hand_here", "_law_many_here"] : List Str) (defScope s_u_law_draw) := ⟨rfl, rfl, rfl, by decide +kernel, rfl, by decide +kernel, by decide +kernel⟩
theorem ok_u_law_draw (T : Txt K mg a) : FnOk PW w K mg base (L2.CX PW w) 2 a.f_u_law_draw a.d_u_law_draw (["_law_hand_here", "_law_many_here"] : List Str) (spOf (tb w K a) 2 m_u_law_draw) :=
  fund_okm T.F_u_law_draw sc_u_law_draw fun cdv A outer s H E hr =>
    (pssm_cons (psm_if (PWm.pt (pwm_and (ptm_cmp (op_eqD hr.units) sim_eq (pem_ix ix_seq sim_ix (pem_var (pv 0)) pem_int) pem_int (nomark _)) (pwm_and1 (ptm_cmp op_lt sim_lt (pem_ix ix_seq sim_ix (pem_var (pv 0)) pem_int) (pem_callB call_len sim_len rfl T.z_len bt_len (pam_cons (pem_ix ix_seq sim_ix (pem_var (pv 0)) pem_int) pam_nil)) (nomark _))))) (pssm_cons (psm_set (i := 2) sc_u_law_draw.nd rfl (Or.inl rfl) (pem_ix ix_seq sim_ix (pem_ix ix_seq sim_ix (pem_var (pv 0)) pem_int) (pem_ix ix_seq sim_ix (pem_var (pv 0)) pem_int)))
    (pssm_cons (psm_setIx (ps_asg (pem_op op_addAll sim_add (pem_ix ix_seq sim_ix (pem_var (pv 0)) pem_int) pem_int) (pg_sub (pem_var (pv 0)) pem_int set_list)))
    (pssm_cons (psm_if (ptm_cmp op_lt sim_lt (pem_var (pv 2)) (pem_op op_pow sim_pow pem_int pem_int) (nomark _)) (pssm_one (psm_ret (pem_op op_mod sim_mod (pem_callTy call_int1 sim_int rfl T.z_int bt_int (pam_cons (pem_call (takes_of rfl rfl rfl rfl) (ok_u_law_mix T) (hr.mono (by decide)) rfl T.m_u_law_mix T.k_u_law_mix T.b_u_law_mix .nil (fun _ => .nil) rfl (pam_cons (pem_op op_mod sim_mod (pem_callTy call_int1 sim_int rfl T.z_int bt_int (pam_cons (pem_var (pv 2)) pam_nil)) pem_int) (pam_cons (pem_ix ix_seq sim_ix (pem_var (pv 0)) pem_int) pam_nil))) pam_nil)) (pem_var (pv 1))))) pssm_nil)
    (pssm_one (psm_setIx (ps_asg (pem_var (pv 2)) (pg_sub (pem_var (pv 0)) pem_int set_list))))))) pssm_nil)
    (pssm_cons (psm_if (ptm_cmp op_gt sim_gt (pem_ix ix_seq sim_ix (pem_var (pv 0)) pem_int) pem_int (nomark _)) (pssm_cons (psm_set (i := 3) sc_u_law_draw.nd rfl (Or.inl rfl) (pem_ix ix_seq sim_ix (pem_var (pv 0)) pem_int))
    (pssm_cons (psm_setIx (ps_asg (pem_op op_fdivW sim_div (pem_var (pv 3)) (pem_var (pv 1))) (pg_sub (pem_var (pv 0)) pem_int set_list)))
    (pssm_one (psm_ret (pem_op op_mod sim_mod (pem_callTy call_int1 sim_int rfl T.z_int bt_int (pam_cons (pem_var (pv 3)) pam_nil)) (pem_var (pv 1))))))) pssm_nil)
    (pssm_cons (psm_setIx (ps_asg (pem_op op_mod sim_mod (pem_callTy call_int1 sim_int rfl T.z_int bt_int (pam_cons (pem_op op_addAll sim_add (pem_ix ix_seq sim_ix (pem_var (pv 0)) pem_int) pem_int) pam_nil)) pem_int) (pg_sub (pem_var (pv 0)) pem_int set_list)))
    (pssm_one (psm_ret (pem_op op_mod sim_mod (pem_callTy call_int1 sim_int rfl T.z_int bt_int (pam_cons (pem_call (takes_of rfl rfl rfl rfl) (ok_u_law_mix T) (hr.mono (by decide)) rfl T.m_u_law_mix T.k_u_law_mix T.b_u_law_mix .nil (fun _ => .nil) rfl (pam_cons (pem_ix ix_seq sim_ix (pem_var (pv 0)) pem_int) (pam_cons (pem_ix ix_seq sim_ix (pem_var (pv 0)) pem_int) pam_nil))) pam_nil)) (pem_var (pv 1))))))))
theorem sc_u_law_classes : FnScope (["_law_things", "_law_numbers", "_law_found", "_law_thing"] : List Str) (["_law_things"] : List Str) (defScope s_u_law_classes) := ⟨rfl, rfl, rfl, by decide +kernel, rfl, by decide +kernel, by decide +kernel⟩
theorem ok_u_law_classes (T : Txt K mg a) : FnOk PW w K mg base (L2.CX PW w) 1 a.f_u_law_classes a.d_u_law_classes (["_law_things"] : List Str) (spOf (tb w K a) 1 m_u_law_classes) :=
  fund_okm T.F_u_law_classes sc_u_law_classes fun cdv A outer s H E hr =>
    (pssm_cons (psm_set (i := 1) sc_u_law_classes.nd rfl (Or.inl rfl) pem_dict)
    (pssm_cons (psm_set (i := 2) sc_u_law_classes.nd rfl (Or.inl rfl) (pem_lst pam_nil))
    (pssm_cons (psm_for (passes_of rfl) rfl (pim_seq rfl (pem_var (pv 0))) (pgm_name (pg_name (i := 3) sc_u_law_classes.nd rfl (Or.inl rfl))) (pssm_cons (psm_if (PWm.pt (pwm_and (ptm_cmp op_notN sim_notN (pem_var (pv 3)) pem_non (nomark _)) (pwm_and1 (ptm_pc (pcm_dnotin (units1 hr) (pem_var (pv 3)) (pem_var (pv 1))))))) (pssm_one (psm_dput (ps_dput (units1 hr) (pem_var (pv 1)) (pem_var (pv 3)) (pem_callB call_lenO (sim_lenO (T := (tb w K a))) rfl T.z_len bt_len (pam_cons (pem_var (pv 1)) pam_nil)) rfl))) pssm_nil)
    (pssm_one (psm_expr (pem_bm sim_app (pe_bm PySem.F.plainAttrs_list PySem.F.slot_list_append PySem.F.type_list_append mt_append (pem_var (pv 2)) (pam_cons (pem_ifExp (ptm_cmp op_isN sim_isN (pem_var (pv 3)) pem_non (nomark _)) pem_non (pem_dget (units1 hr) (pem_var (pv 1)) (pem_var (pv 3)) fun _ _ => rfl)) pam_nil)))))))
    (pssm_one (psm_ret (pem_callTy call_tuple_of sim_tuple rfl T.z_tuple bt_tuple (pam_cons (pem_var (pv 2)) pam_nil)))))))
theorem sc_u_law_pick : FnScope (["_law_hand_here", "_law_things"] : List Str) (["_law_hand_here", "_law_things"] : List Str) (defScope s_u_law_pick) := ⟨rfl, rfl, rfl, by decide +kernel, rfl, by decide +kernel, by decide +kernel⟩
theorem ok_u_law_pick (T : Txt K mg a) : FnOk PW w K mg base (L2.CX PW w) 3 a.f_u_law_pick a.d_u_law_pick (["_law_hand_here", "_law_things"] : List Str) (spOf (tb w K a) 2 m_u_law_pick) :=
  fund_okm T.F_u_law_pick sc_u_law_pick fun cdv A outer s H E hr =>
    (pssm_one (psm_ret (pem_ix ix_seq sim_ix (pem_var (pv 1)) (pem_call (takes_of rfl rfl rfl rfl) (ok_u_law_draw T) (hr.mono (by decide)) rfl T.m_u_law_draw T.k_u_law_draw T.b_u_law_draw .nil (fun _ => .nil) rfl (pam_cons (pem_var (pv 0)) (pam_cons (pem_callB call_len sim_len rfl T.z_len bt_len (pam_cons (pem_var (pv 1)) pam_nil)) pam_nil))))))
theorem sc_u_law_entries : FnScope (["_law_hand_here", "_law_many_here", "_law_k"] : List Str) (["_law_hand_here"] : List Str) (defScope s_u_law_entries) := ⟨rfl, rfl, rfl, by decide +kernel, rfl, by decide +kernel, by decide +kernel⟩
theorem ok_u_law_entries (T : Txt K mg a) : FnOk PW w K mg base (L2.CX PW w) 4 a.f_u_law_entries a.d_u_law_entries (["_law_hand_here"] : List Str) (spOf (tb w K a) 1 m_u_law_entries) :=
  fund_okm T.F_u_law_entries sc_u_law_entries fun cdv A outer s H E hr =>
    (pssm_cons (psm_set (i := 1) sc_u_law_entries.nd rfl (Or.inl rfl) (pem_call (takes_of rfl rfl rfl rfl) (ok_u_law_draw T) (hr.mono (by decide)) rfl T.m_u_law_draw T.k_u_law_draw T.b_u_law_draw .nil (fun _ => .nil) rfl (pam_cons (pem_var (pv 0)) (pam_cons pem_int pam_nil))))
    (pssm_one (psm_ret (pem_scope (pem_callTy call_list_of sim_list rfl T.z_list bt_list (pam_cons (pem_call (takes_of rfl rfl rfl rfl) (ok_u_law_classes T) (hr.mono (by decide)) rfl T.m_u_law_classes T.k_u_law_classes T.b_u_law_classes .nil (fun _ => .nil) rfl (pam_cons (pem_scope (pem_comp (own := [("_law_k", 2)]) rfl sc_u_law_entries.nd (pim_range1 rfl T.z_range (pam_cons (pem_var (pv 1)) pam_nil)) (show BlkOk (["_law_hand_here", "_law_many_here", "_law_k"] : List Str) (defScope s_u_law_entries) _ [("_law_k", 2)] from ⟨rfl, by decide +kernel, by decide +kernel, by decide +kernel, by decide +kernel⟩) (fun _ _ _ _ _ => (pg_name (i := 2) sc_u_law_entries.nd rfl (Or.inl rfl))) (gr_name rfl) (gw_name (by decide)) (fun _ _ _ _ _ => (ptsm_nil (σ := ()))) (fun _ _ _ _ _ => (pem_call takes0 (ok_u_law_pick T) (hr.mono (by decide)) rfl T.m_u_law_pick T.k_u_law_pick T.b_u_law_pick .nil (fun _ => .nil) rfl (pam_cons (pem_var (pv 0)) (pam_cons (pem_scope (pem_lst (pam_cons pem_non (pam_cons pem_int (pam_cons pem_int (pam_cons pem_int (pam_cons pem_int (pam_cons pem_int (pam_cons pem_int pam_nil))))))))) pam_nil)))))) pam_nil)) pam_nil))))))
theorem sc_u_law_drawn_lives : FnScope (["_law_hand_here", "_law_k"] : List Str) (["_law_hand_here"] : List Str) (defScope s_u_law_drawn_lives) := ⟨rfl, rfl, rfl, by decide +kernel, rfl, by decide +kernel, by decide +kernel⟩
theorem ok_u_law_drawn_lives (T : Txt K mg a) : FnOk PW w K mg base (L2.CX PW w) 4 a.f_u_law_drawn_lives a.d_u_law_drawn_lives (["_law_hand_here"] : List Str) (spOf (tb w K a) 1 m_u_law_drawn_lives) :=
  fund_okm T.F_u_law_drawn_lives sc_u_law_drawn_lives fun cdv A outer s H E hr =>
    (pssm_one (psm_ret (pem_scope (pem_comp (own := [("_law_k", 1)]) rfl sc_u_law_drawn_lives.nd (pim_range1 rfl T.z_range (pam_cons (pem_call (takes_of rfl rfl rfl rfl) (ok_u_law_draw T) (hr.mono (by decide)) rfl T.m_u_law_draw T.k_u_law_draw T.b_u_law_draw .nil (fun _ => .nil) rfl (pam_cons (pem_var (pv 0)) (pam_cons pem_int pam_nil))) pam_nil)) (show BlkOk (["_law_hand_here", "_law_k"] : List Str) (defScope s_u_law_drawn_lives) _ [("_law_k", 1)] from ⟨rfl, by decide +kernel, by decide +kernel, by decide +kernel, by decide +kernel⟩) (fun _ _ _ _ _ => (pg_name (i := 1) sc_u_law_drawn_lives.nd rfl (Or.inl rfl))) (gr_name rfl) (gw_name (by decide)) (fun _ _ _ _ _ => (ptsm_nil (σ := ()))) (fun _ _ _ _ _ => (pem_call takes0 (ok_u_law_pick T) (hr.mono (by decide)) rfl T.m_u_law_pick T.k_u_law_pick T.b_u_law_pick .nil (fun _ => .nil) rfl (pam_cons (pem_var (pv 0)) (pam_cons (pem_scope (pem_lst (pam_cons pem_str (pam_cons pem_str (pam_cons pem_non pam_nil))))) pam_nil))))))))
theorem sc_u_law_drawn_marks : FnScope (["_law_hand_here", "_law_many_here", "_law_pairs", "_law_number"] : List Str) (["_law_hand_here", "_law_many_here"] : List Str) (defScope s_u_law_drawn_marks) := ⟨rfl, rfl, rfl, by decide +kernel, rfl, by decide +kernel, by decide +kernel⟩
theorem ok_u_law_drawn_marks (T : Txt K mg a) : FnOk PW w K mg base (L2.CX PW w) 3 a.f_u_law_drawn_marks a.d_u_law_drawn_marks (["_law_hand_here", "_law_many_here"] : List Str) (spOf (tb w K a) 2 m_u_law_drawn_marks) :=
  fund_okm T.F_u_law_drawn_marks sc_u_law_drawn_marks fun cdv A outer s H E hr =>
    (pssm_cons (psm_set (i := 2) sc_u_law_drawn_marks.nd rfl (Or.inl rfl) (pem_lst pam_nil))
    (pssm_cons (psm_for (passes_of rfl) rfl (pim_range1 rfl T.z_range (pam_cons (pem_op op_addAll sim_add (pem_var (pv 1)) pem_int) pam_nil)) (pgm_name (pg_name (i := 3) sc_u_law_drawn_marks.nd rfl (Or.inl rfl))) (pssm_one (psm_if (ptm_cmp (op_eqD hr.units) sim_eq (pem_call (takes_of rfl rfl rfl rfl) (ok_u_law_draw T) (hr.mono (by decide)) rfl T.m_u_law_draw T.k_u_law_draw T.b_u_law_draw .nil (fun _ => .nil) rfl (pam_cons (pem_var (pv 0)) (pam_cons pem_int pam_nil))) pem_int (nomark _)) (pssm_one (psm_expr (pem_bm sim_app (pe_bm PySem.F.plainAttrs_list PySem.F.slot_list_append PySem.F.type_list_append mt_append (pem_var (pv 2)) (pam_cons (pem_scope (pem_lst (pam_cons (pem_var (pv 3)) (pam_cons (pem_call (takes_of rfl rfl rfl rfl) (ok_u_law_draw T) (hr.mono (by decide)) rfl T.m_u_law_draw T.k_u_law_draw T.b_u_law_draw .nil (fun _ => .nil) rfl (pam_cons (pem_var (pv 0)) (pam_cons pem_int pam_nil))) pam_nil)))) pam_nil))))) pssm_nil)))
    (pssm_one (psm_ret (pem_var (pv 2))))))
theorem sc_entries_fault : FnScope (["thing", "least_new", "at", "entry"] : List Str) (["thing"] : List Str) (defScope s_entries_fault) := ⟨rfl, rfl, rfl, by decide +kernel, rfl, by decide +kernel, by decide +kernel⟩
theorem ok_entries_fault (T : Txt K mg a) : FnOk PW w K mg base (L2.CX PW w) 1 a.f_entries_fault a.d_entries_fault (["thing"] : List Str) (spOf (tb w K a) 1 m_entries_fault) :=
  fund_okm T.F_entries_fault sc_entries_fault fun cdv A outer s H E hr =>
    (pssm_cons (psm_if (PWm.pt (pwm_or (ptm_not (ptm_tru rfl (pem_isiT T.isok rfl rfl T.z_isinstance (pem_var (pv 0)) (pa_cons (pe_bltn rfl T.z_list bt_list rfl) (pa_cons (pe_bltn rfl T.z_tuple bt_tuple rfl) pa_nil)) (by simp) (by decide)))) (pwm_or1 (ptm_cmp op_gt sim_gt (pem_callB call_len sim_len rfl T.z_len bt_len (pam_cons (pem_var (pv 0)) pam_nil)) (pem_c (pe_glob rfl T.g_MOST_PLACES.2 T.g_MOST_PLACES.1) fun _ => .int 40) (nomark _))))) (pssm_one (psm_ret (pem_tup (pam_cons pem_int (pam_cons pem_str pam_nil))))) pssm_nil)
    (pssm_cons (psm_set (i := 1) sc_entries_fault.nd rfl (Or.inl rfl) pem_int)
    (pssm_cons (psm_for (passes_of rfl) rfl (pim_enumA rfl rfl T.z_enumerate (pam_cons (pem_var (pv 0)) pam_nil)) (pgm_tup rfl rfl (PGN.cons (pg_name (i := 2) sc_entries_fault.nd rfl (Or.inl rfl)) rfl (PGN.cons (pg_name (i := 3) sc_entries_fault.nd rfl (Or.inl rfl)) rfl PGN.nil rfl) rfl)) (pssm_cons (psm_if (ptm_cmp op_isN sim_isN (pem_var (pv 3)) pem_non (nomark _)) (pssm_one psm_cont) pssm_nil)
    (pssm_cons (psm_if (PWm.pt (pwm_or (ptm_not (ptm_tru rfl (pem_isi1 T.isok rfl rfl T.z_isinstance (pem_var (pv 3)) (pe_bltn rfl T.z_int bt_int rfl)))) (pwm_or (ptm_tru rfl (pem_isi1 T.isok rfl rfl T.z_isinstance (pem_var (pv 3)) (pe_bltn rfl T.z_bool bt_bool rfl))) (pwm_or1 (ptm_cmp op_lt sim_lt (pem_var (pv 3)) pem_int (nomark _)))))) (pssm_one (psm_ret (pem_tup (pam_cons (pem_var (pv 2)) (pam_cons pem_str pam_nil))))) pssm_nil)
    (pssm_cons (psm_if (ptm_cmp op_gt sim_gt (pem_var (pv 3)) (pem_var (pv 1)) (nomark _)) (pssm_one (psm_ret (pem_tup (pam_cons (pem_var (pv 2)) (pam_cons pem_str pam_nil))))) pssm_nil)
    (pssm_one (psm_if (ptm_cmp (op_eqD hr.units) sim_eq (pem_var (pv 3)) (pem_var (pv 1)) (nomark _)) (pssm_one (psm_set (i := 1) sc_entries_fault.nd rfl (Or.inl rfl) (pem_op op_addAll sim_add (pem_var (pv 1)) pem_int))) pssm_nil))))))
    (pssm_one (psm_ret pem_non)))))
theorem ok_BadState___init (T : Txt K mg a) : FnOk PW w K mg base (L2.CX PW w) 1 a.f_BadState___init a.d_BadState___init (["self", "what"] : List Str) (spIni a.c_BadState (fldN 1)) := by
  obtain ⟨oc, od, osl, dV, kV, doc, pm, an, ct, e, l, cd⟩ := T.l_BadState
  rw [e] at l ⊢
  exact init_ok l cd T.S_BadState rfl rfl rfl (by decide) (by decide) (fun A outer s H E => ⟨_, (pa_cons pe_str pa_nil), fun σ H Q _ k => k _ (by simp)⟩) (fun A outer s H E => (.cons (pv 0) (pv 1) T.n_BadState_what rfl .nil))
theorem sc_check_entries : FnScope (["names"] : List Str) (["names"] : List Str) (defScope s_check_entries) := ⟨rfl, rfl, rfl, by decide +kernel, rfl, by decide +kernel, by decide +kernel⟩
theorem ok_check_entries (T : Txt K mg a) : FnOk PW w K mg base (L2.CX PW w) 3 a.f_check_entries a.d_check_entries (["names"] : List Str) (spOf (tb w K a) 1 m_check_entries) :=
  fund_okm T.F_check_entries sc_check_entries fun cdv A outer s H E hr =>
    (pssm_one (psm_if (ptm_cmp op_notN sim_notN (pem_call (takes_of rfl rfl rfl rfl) (ok_entries_fault T) (hr.mono (by decide)) rfl T.m_entries_fault T.k_entries_fault T.b_entries_fault .nil (fun _ => .nil) rfl (pam_cons (pem_var (pv 0)) pam_nil)) pem_non (nomark _)) (pssm_one (psm_raise (k := 1) rfl (takes_of rfl rfl rfl rfl) T.e_BadState T.ei_BadState T.et_BadState (ok_BadState___init T) (hr.mono (by decide)) T.b_BadState___init rfl T.c_BadState rfl (by decide) (pam_cons pem_str pam_nil))) pssm_nil))
theorem sc_check_life_row : FnScope (["lives", "life"] : List Str) (["lives"] : List Str) (defScope s_check_life_row) := ⟨rfl, rfl, rfl, by decide +kernel, rfl, by decide +kernel, by decide +kernel⟩
theorem ok_check_life_row (T : Txt K mg a) : FnOk PW w K mg base (L2.CX PW w) 3 a.f_check_life_row a.d_check_life_row (["lives"] : List Str) (spOf (tb w K a) 1 m_check_life_row) :=
  fund_okm T.F_check_life_row sc_check_life_row fun cdv A outer s H E hr =>
    (pssm_cons (psm_if (ptm_not (ptm_tru rfl (pem_isiT T.isok rfl rfl T.z_isinstance (pem_var (pv 0)) (pa_cons (pe_bltn rfl T.z_list bt_list rfl) (pa_cons (pe_bltn rfl T.z_tuple bt_tuple rfl) pa_nil)) (by simp) (by decide)))) (pssm_one (psm_raise (k := 1) rfl (takes_of rfl rfl rfl rfl) T.e_BadState T.ei_BadState T.et_BadState (ok_BadState___init T) (hr.mono (by decide)) T.b_BadState___init rfl T.c_BadState rfl (by decide) (pam_cons pem_str pam_nil))) pssm_nil)
    (pssm_one (psm_for (passes_of rfl) rfl (pim_seq rfl (pem_var (pv 0))) (pgm_name (pg_name (i := 1) sc_check_life_row.nd rfl (Or.inl rfl))) (pssm_one (psm_if (PWm.pt (pwm_and (ptm_cmp op_notN sim_notN (pem_var (pv 1)) pem_non (nomark _)) (pwm_and1 (ptm_cmp op_notIn_seq sim_in (pem_var (pv 1)) (pem_tup (pam_cons pem_str (pam_cons pem_str pam_nil))) (by rfl))))) (pssm_one (psm_raise (k := 1) rfl (takes_of rfl rfl rfl rfl) T.e_BadState T.ei_BadState T.et_BadState (ok_BadState___init T) (hr.mono (by decide)) T.b_BadState___init rfl T.c_BadState rfl (by decide) (pam_cons pem_str pam_nil))) pssm_nil)))))
theorem sc_is_whole : FnScope (["thing", "low", "high"] : List Str) (["thing", "low", "high"] : List Str) (defScope s_is_whole) := ⟨rfl, rfl, rfl, by decide +kernel, rfl, by decide +kernel, by decide +kernel⟩
theorem ok_is_whole (T : Txt K mg a) : FnOk PW w K mg base (L2.CX PW w) 1 a.f_is_whole a.d_is_whole (["thing", "low", "high"] : List Str) (spOf (tb w K a) 3 m_is_whole) :=
  fund_okm T.F_is_whole sc_is_whole fun cdv A outer s H E hr =>
    (pssm_one (psm_ret (pem_and (pem_isi1 T.isok rfl rfl T.z_isinstance (pem_var (pv 0)) (pe_bltn rfl T.z_int bt_int rfl)) (pem_and (pem_not (pem_isi1 T.isok rfl rfl T.z_isinstance (pem_var (pv 0)) (pe_bltn rfl T.z_bool bt_bool rfl))) (pem_one (pem_chain op_le sim_le op_le sim_le (pem_var (pv 1)) (pem_var (pv 0)) (pem_var (pv 2))))))))
theorem sc_check_marks : FnScope (["marks", "mark"] : List Str) (["marks"] : List Str) (defScope s_check_marks) := ⟨rfl, rfl, rfl, by decide +kernel, rfl, by decide +kernel, by decide +kernel⟩
theorem ok_check_marks (T : Txt K mg a) : FnOk PW w K mg base (L2.CX PW w) 3 a.f_check_marks a.d_check_marks (["marks"] : List Str) (spOf (tb w K a) 1 m_check_marks) :=
  fund_okm T.F_check_marks sc_check_marks fun cdv A outer s H E hr =>
    (pssm_cons (psm_if (PWm.pt (pwm_or (ptm_not (ptm_tru rfl (pem_isiT T.isok rfl rfl T.z_isinstance (pem_var (pv 0)) (pa_cons (pe_bltn rfl T.z_list bt_list rfl) (pa_cons (pe_bltn rfl T.z_tuple bt_tuple rfl) pa_nil)) (by simp) (by decide)))) (pwm_or1 (ptm_cmp (op_neD hr.units) sim_ne (pem_callB call_len sim_len rfl T.z_len bt_len (pam_cons (pem_var (pv 0)) pam_nil)) pem_int (nomark _))))) (pssm_one (psm_raise (k := 1) rfl (takes_of rfl rfl rfl rfl) T.e_BadState T.ei_BadState T.et_BadState (ok_BadState___init T) (hr.mono (by decide)) T.b_BadState___init rfl T.c_BadState rfl (by decide) (pam_cons pem_str pam_nil))) pssm_nil)
    (pssm_one (psm_for (passes_of rfl) rfl (pim_seq rfl (pem_var (pv 0))) (pgm_name (pg_name (i := 1) sc_check_marks.nd rfl (Or.inl rfl))) (pssm_one (psm_if (ptm_not (ptm_tru rfl (pem_call (takes_of rfl rfl rfl rfl) (ok_is_whole T) (hr.mono (by decide)) rfl T.m_is_whole T.k_is_whole T.b_is_whole .nil (fun _ => .nil) rfl (pam_cons (pem_var (pv 1)) (pam_cons pem_int (pam_cons (pem_c (pe_glob rfl T.g_MOST_MARK.2 T.g_MOST_MARK.1) fun _ => .int 1000) pam_nil)))))) (pssm_one (psm_raise (k := 1) rfl (takes_of rfl rfl rfl rfl) T.e_BadState T.ei_BadState T.et_BadState (ok_BadState___init T) (hr.mono (by decide)) T.b_BadState___init rfl T.c_BadState rfl (by decide) (pam_cons pem_str pam_nil))) pssm_nil)))))
theorem sc_is_kind : FnScope (["thing"] : List Str) (["thing"] : List Str) (defScope s_is_kind) := ⟨rfl, rfl, rfl, by decide +kernel, rfl, by decide +kernel, by decide +kernel⟩
theorem ok_is_kind (T : Txt K mg a) : FnOk PW w K mg base (L2.CX PW w) 1 a.f_is_kind a.d_is_kind (["thing"] : List Str) (spOf (tb w K a) 1 m_is_kind) :=
  fund_okm T.F_is_kind sc_is_kind fun cdv A outer s H E hr =>
    (pssm_one (psm_ret (pem_and (pem_isi1 T.isok rfl rfl T.z_isinstance (pem_var (pv 0)) (pe_bltn rfl T.z_str bt_str rfl)) (pem_one (pem_cmp op_in_seq sim_in (pem_var (pv 0)) (pem_tup (pam_cons pem_str (pam_cons pem_str pam_nil))) (by rfl))))))
theorem sc_PersonState___init : FnScope (["self", "kind", "names", "lives", "mark"] : List Str) (["self", "kind", "names", "lives", "mark"] : List Str) (defScope s_PersonState___init) := ⟨rfl, rfl, rfl, by decide +kernel, rfl, by decide +kernel, by decide +kernel⟩
theorem ok_PersonState___init (T : Txt K mg a) : FnOk PW w K mg base (L2.CX PW w) 4 a.f_PersonState___init a.d_PersonState___init (["self", "kind", "names", "lives", "mark"] : List Str) (spOf (tb w K a) 5 m_PersonState___init) :=
  fund_okm T.F_PersonState___init sc_PersonState___init fun cdv A outer s H E hr =>
    (pssm_cons (psm_if (ptm_not (ptm_tru rfl (pem_call (takes_of rfl rfl rfl rfl) (ok_is_kind T) (hr.mono (by decide)) rfl T.m_is_kind T.k_is_kind T.b_is_kind .nil (fun _ => .nil) rfl (pam_cons (pem_var (pv 1)) pam_nil)))) (pssm_one (psm_raise (k := 1) rfl (takes_of rfl rfl rfl rfl) T.e_BadState T.ei_BadState T.et_BadState (ok_BadState___init T) (hr.mono (by decide)) T.b_BadState___init rfl T.c_BadState rfl (by decide) (pam_cons pem_str pam_nil))) pssm_nil)
    (pssm_cons (psm_expr (pem_call (takes_of rfl rfl rfl rfl) (ok_check_entries T) (hr.mono (by decide)) rfl T.m_check_entries T.k_check_entries T.b_check_entries .nil (fun _ => .nil) rfl (pam_cons (pem_var (pv 2)) pam_nil)))
    (pssm_cons (psm_expr (pem_call (takes_of rfl rfl rfl rfl) (ok_check_life_row T) (hr.mono (by decide)) rfl T.m_check_life_row T.k_check_life_row T.b_check_life_row .nil (fun _ => .nil) rfl (pam_cons (pem_var (pv 3)) pam_nil)))
    (pssm_cons (psm_expr (pem_call (takes_of rfl rfl rfl rfl) (ok_check_marks T) (hr.mono (by decide)) rfl T.m_check_marks T.k_check_marks T.b_check_marks .nil (fun _ => .nil) rfl (pam_cons (pem_tup (pam_cons (pem_var (pv 4)) (pam_cons pem_int pam_nil))) pam_nil)))
    (pssm_cons (psm_fld rfl T.o_PersonState_kind (ps_fld (pem_var (pv 0)) (pem_var (pv 1)) rfl))
    (pssm_cons (psm_fld rfl T.o_PersonState_names (ps_fld (pem_var (pv 0)) (pem_callTy call_tuple_of sim_tuple rfl T.z_tuple bt_tuple (pam_cons (pem_var (pv 2)) pam_nil)) rfl))
    (pssm_cons (psm_fld rfl T.o_PersonState_lives (ps_fld (pem_var (pv 0)) (pem_callTy call_tuple_of sim_tuple rfl T.z_tuple bt_tuple (pam_cons (pem_var (pv 3)) pam_nil)) rfl))
    (pssm_cons (psm_fld rfl T.o_PersonState_mark (ps_fld (pem_var (pv 0)) (pem_var (pv 4)) rfl))
    (pssm_one (psm_fld rfl T.o_PersonState_key (ps_fld (pem_var (pv 0)) (pem_tup (pam_cons pem_str (pam_cons (pem_var (pv 1)) (pam_cons (pem_fld rfl T.o_PersonState_names (pe_fld (pem_var (pv 0)) rfl)) (pam_cons (pem_fld rfl T.o_PersonState_lives (pe_fld (pem_var (pv 0)) rfl)) (pam_cons (pem_var (pv 4)) pam_nil)))))) rfl)))))))))))
theorem sc_PersonState___eq : FnScope (["self", "other"] : List Str) (["self", "other"] : List Str) (defScope s_PersonState___eq) := ⟨rfl, rfl, rfl, by decide +kernel, rfl, by decide +kernel, by decide +kernel⟩
theorem ok_PersonState___eq (T : Txt K mg a) : FnOk PW w K mg base (L2.CX PW w) 1 a.f_PersonState___eq a.d_PersonState___eq (["self", "other"] : List Str) (spOf (tb w K a) 2 m_PersonState___eq) :=
  fund_okm T.F_PersonState___eq sc_PersonState___eq fun cdv A outer s H E hr =>
    (pssm_one (psm_ret (pem_and (pem_isi1 T.isok rfl rfl T.z_isinstance (pem_var (pv 1)) (pe_glob rfl T.c_PersonState rfl)) (pem_one (pem_cmp (op_eqD hr.units) sim_eq (pem_fld rfl T.o_PersonState_key (pe_fld (pem_var (pv 0)) rfl)) (pem_fld rfl T.o_PersonState_key (pe_fld (pem_var (pv 1)) rfl)) (nomark _))))))
theorem sc_u_law_person_right : FnScope (["_law_hand_here", "_law_names", "_law_lives", "_law_kind", "_law_worth", "_law_handed", "_law_given", "_law_one", "_law_two", "_law_others", "_law_other"] : List Str) (["_law_hand_here", "_law_names", "_law_lives"] : List Str) (defScope s_u_law_person_right) := ⟨rfl, rfl, rfl, by decide +kernel, rfl, by decide +kernel, by decide +kernel⟩
theorem ok_u_law_person_right (T : Txt K mg a) : FnOk PW w K mg base (L2.CX PW w) 6 a.f_u_law_person_right a.d_u_law_person_right (["_law_hand_here", "_law_names", "_law_lives"] : List Str) (spOf (tb w K a) 3 m_u_law_person_right) :=
  fund_okm T.F_u_law_person_right sc_u_law_person_right fun cdv A outer s H E hr =>
    (pssm_cons (psm_par (i := 3) (j := 4) rfl sc_u_law_person_right.nd rfl rfl (by decide) rfl rfl (pam_cons (pem_call (takes_of rfl rfl rfl rfl) (ok_u_law_pick T) (hr.mono (by decide)) rfl T.m_u_law_pick T.k_u_law_pick T.b_u_law_pick .nil (fun _ => .nil) rfl (pam_cons (pem_var (pv 0)) (pam_cons (pem_scope (pem_lst (pam_cons pem_str (pam_cons pem_str pam_nil)))) pam_nil))) (pam_cons (pem_call (takes_of rfl rfl rfl rfl) (ok_u_law_pick T) (hr.mono (by decide)) rfl T.m_u_law_pick T.k_u_law_pick T.b_u_law_pick .nil (fun _ => .nil) rfl (pam_cons (pem_var (pv 0)) (pam_cons (pem_scope (pem_lst (pam_cons pem_int (pam_cons pem_int (pam_cons pem_int (pam_cons pem_int pam_nil)))))) pam_nil))) pam_nil)) rfl)
    (pssm_cons (psm_par (i := 5) (j := 6) rfl sc_u_law_person_right.nd rfl rfl (by decide) rfl rfl (pam_cons (pem_callTy call_list_of sim_list rfl T.z_list bt_list (pam_cons (pem_var (pv 1)) pam_nil)) (pam_cons (pem_callTy call_list_of sim_list rfl T.z_list bt_list (pam_cons (pem_var (pv 2)) pam_nil)) pam_nil)) rfl)
    (pssm_cons (psm_set (i := 7) sc_u_law_person_right.nd rfl (Or.inr rfl) (pem_scope (pem_make (takes_of rfl rfl rfl rfl) T.mk_PersonState (ok_PersonState___init T) (hr.mono (by decide)) rfl T.c_PersonState T.b_PersonState___init .nil (fun _ => .nil) (pam_cons (pem_var (pv 3)) (pam_cons (pem_var (pv 5)) (pam_cons (pem_var (pv 6)) (pam_cons (pem_var (pv 4)) pam_nil)))))))
    (pssm_cons (psm_set (i := 8) sc_u_law_person_right.nd rfl (Or.inl rfl) (pem_scope (pem_make (takes_of rfl rfl rfl rfl) T.mk_PersonState (ok_PersonState___init T) (hr.mono (by decide)) rfl T.c_PersonState T.b_PersonState___init .nil (fun _ => .nil) (pam_cons (pem_var (pv 3)) (pam_cons (pem_callTy call_tuple_of sim_tuple rfl T.z_tuple bt_tuple (pam_cons (pem_var (pv 1)) pam_nil)) (pam_cons (pem_callTy call_tuple_of sim_tuple rfl T.z_tuple bt_tuple (pam_cons (pem_var (pv 2)) pam_nil)) (pam_cons (pem_var (pv 4)) pam_nil)))))))
    (pssm_cons (psm_expr (pem_bm sim_app (pe_bm PySem.F.plainAttrs_list PySem.F.slot_list_append PySem.F.type_list_append mt_append (pem_var (pv 5)) (pam_cons pem_int pam_nil))))
    (pssm_cons (psm_expr (pem_bm sim_app (pe_bm PySem.F.plainAttrs_list PySem.F.slot_list_append PySem.F.type_list_append mt_append (pem_var (pv 6)) (pam_cons pem_str pam_nil))))
    (pssm_cons (psm_if (ptm_cmp (op_neD hr.units) sim_ne (pem_tup (pam_cons (pem_fld rfl T.o_PersonState_kind (pe_fld (pem_var (pv 7)) rfl)) (pam_cons (pem_fld rfl T.o_PersonState_names (pe_fld (pem_var (pv 7)) rfl)) (pam_cons (pem_fld rfl T.o_PersonState_lives (pe_fld (pem_var (pv 7)) rfl)) (pam_cons (pem_fld rfl T.o_PersonState_mark (pe_fld (pem_var (pv 7)) rfl)) pam_nil))))) (pem_tup (pam_cons (pem_var (pv 3)) (pam_cons (pem_callTy call_tuple_of sim_tuple rfl T.z_tuple bt_tuple (pam_cons (pem_var (pv 1)) pam_nil)) (pam_cons (pem_callTy call_tuple_of sim_tuple rfl T.z_tuple bt_tuple (pam_cons (pem_var (pv 2)) pam_nil)) (pam_cons (pem_var (pv 4)) pam_nil))))) (nomark _)) (pssm_one (psm_ret pem_bl)) pssm_nil)
    (pssm_cons (psm_if (PWm.pt (pwm_or (ptm_tru rfl (pem_isi1 T.isok rfl rfl T.z_isinstance (pem_fld rfl T.o_PersonState_mark (pe_fld (pem_var (pv 7)) rfl)) (pe_bltn rfl T.z_bool bt_bool rfl))) (pwm_or (ptm_not (ptm_tru rfl (pem_isi1 T.isok rfl rfl T.z_isinstance (pem_fld rfl T.o_PersonState_names (pe_fld (pem_var (pv 7)) rfl)) (pe_bltn rfl T.z_tuple bt_tuple rfl)))) (pwm_or1 (ptm_not (ptm_tru rfl (pem_isi1 T.isok rfl rfl T.z_isinstance (pem_fld rfl T.o_PersonState_lives (pe_fld (pem_var (pv 7)) rfl)) (pe_bltn rfl T.z_tuple bt_tuple rfl)))))))) (pssm_one (psm_ret pem_bl)) pssm_nil)
    (pssm_cons (psm_set (i := 9) sc_u_law_person_right.nd rfl (Or.inl rfl) (pem_scope (pem_lst (pam_cons (pem_scope (pem_make (takes_of rfl rfl rfl rfl) T.mk_PersonState (ok_PersonState___init T) (hr.mono (by decide)) rfl T.c_PersonState T.b_PersonState___init .nil (fun _ => .nil) (pam_cons (pem_ifExp (ptm_cmp (op_eqD hr.units) sim_eq (pem_var (pv 3)) pem_str (nomark _)) pem_str pem_str) (pam_cons (pem_var (pv 1)) (pam_cons (pem_var (pv 2)) (pam_cons (pem_var (pv 4)) pam_nil)))))) (pam_cons (pem_scope (pem_make (takes_of rfl rfl rfl rfl) T.mk_PersonState (ok_PersonState___init T) (hr.mono (by decide)) rfl T.c_PersonState T.b_PersonState___init .nil (fun _ => .nil) (pam_cons (pem_var (pv 3)) (pam_cons (pem_scope (pem_op op_addAll sim_add (pem_var (pv 1)) (pem_scope (pem_lst (pam_cons pem_non pam_nil))))) (pam_cons (pem_var (pv 2)) (pam_cons (pem_var (pv 4)) pam_nil)))))) pam_nil)))))
    (pssm_cons (psm_set (i := 9) sc_u_law_person_right.nd rfl (Or.inl rfl) (pem_scope (pem_op op_addAll sim_add (pem_var (pv 9)) (pem_scope (pem_lst (pam_cons (pem_scope (pem_make (takes_of rfl rfl rfl rfl) T.mk_PersonState (ok_PersonState___init T) (hr.mono (by decide)) rfl T.c_PersonState T.b_PersonState___init .nil (fun _ => .nil) (pam_cons (pem_var (pv 3)) (pam_cons (pem_var (pv 1)) (pam_cons (pem_scope (pem_op op_addAll sim_add (pem_var (pv 2)) (pem_scope (pem_lst (pam_cons pem_non pam_nil))))) (pam_cons (pem_var (pv 4)) pam_nil)))))) (pam_cons (pem_scope (pem_make (takes_of rfl rfl rfl rfl) T.mk_PersonState (ok_PersonState___init T) (hr.mono (by decide)) rfl T.c_PersonState T.b_PersonState___init .nil (fun _ => .nil) (pam_cons (pem_var (pv 3)) (pam_cons (pem_var (pv 1)) (pam_cons (pem_var (pv 2)) (pam_cons (pem_op op_sub sim_sub pem_int (pem_callB (call_min2 rfl) sim_min2 rfl T.z_min bt_min (pam_cons (pem_var (pv 4)) (pam_cons pem_int pam_nil)))) pam_nil)))))) pam_nil)))))))
    (pssm_one (psm_ret (pem_and (pem_cmp (op_own (ok_PersonState___eq T) (hr.mono (by decide)) T.q_PersonState.1 T.q_PersonState.2 T.b_PersonState___eq passL) (sim_own T.nf_PersonState) (pem_var (pv 7)) (pem_var (pv 8)) (nomark _)) (pem_and (pem_cmp (op_eqD hr.units) sim_eq (pem_scope (pem_comp (own := [("_law_other", 10)]) rfl sc_u_law_person_right.nd (pim_seq rfl (pem_var (pv 9))) (show BlkOk (["_law_hand_here", "_law_names", "_law_lives", "_law_kind", "_law_worth", "_law_handed", "_law_given", "_law_one", "_law_two", "_law_others", "_law_other"] : List Str) (defScope s_u_law_person_right) _ [("_law_other", 10)] from ⟨rfl, by decide +kernel, by decide +kernel, by decide +kernel, by decide +kernel⟩) (fun _ _ _ _ _ => (pg_name (i := 10) sc_u_law_person_right.nd rfl (Or.inl rfl))) (gr_name rfl) (gw_name (by decide)) (fun _ _ _ _ _ => (ptsm_one (ptm_cmp (op_own (ok_PersonState___eq T) (hr.mono (by decide)) T.q_PersonState.1 T.q_PersonState.2 T.b_PersonState___eq passL) (sim_own T.nf_PersonState) (pem_var (pv 7)) (pem_var (pv 10)) (nomark _)))) (fun _ _ _ _ _ => (pem_var (pv 10))))) (pem_scope (pem_lst pam_nil)) (nomark _)) (pem_one (pem_not (pem_cmp (op_own (ok_PersonState___eq T) (hr.mono (by decide)) T.q_PersonState.1 T.q_PersonState.2 T.b_PersonState___eq passL) (sim_own T.nf_PersonState) (pem_var (pv 7)) (pem_tup (pam_cons (pem_var (pv 3)) (pam_cons (pem_var (pv 1)) (pam_cons (pem_var (pv 2)) (pam_cons (pem_var (pv 4)) pam_nil))))) (nomark _))))))))))))))))))
theorem sc_check_borne : FnScope (["borne", "count", "least", "pair"] : List Str) (["borne", "count"] : List Str) (defScope s_check_borne) := ⟨rfl, rfl, rfl, by decide +kernel, rfl, by decide +kernel, by decide +kernel⟩
theorem ok_check_borne (T : Txt K mg a) : FnOk PW w K mg base (L2.CX PW w) 3 a.f_check_borne a.d_check_borne (["borne", "count"] : List Str) (spOf (tb w K a) 2 m_check_borne) :=
  fund_okm T.F_check_borne sc_check_borne fun cdv A outer s H E hr =>
    (pssm_cons (psm_if (ptm_not (ptm_tru rfl (pem_isiT T.isok rfl rfl T.z_isinstance (pem_var (pv 0)) (pa_cons (pe_bltn rfl T.z_list bt_list rfl) (pa_cons (pe_bltn rfl T.z_tuple bt_tuple rfl) pa_nil)) (by simp) (by decide)))) (pssm_one (psm_raise (k := 1) rfl (takes_of rfl rfl rfl rfl) T.e_BadState T.ei_BadState T.et_BadState (ok_BadState___init T) (hr.mono (by decide)) T.b_BadState___init rfl T.c_BadState rfl (by decide) (pam_cons pem_str pam_nil))) pssm_nil)
    (pssm_cons (psm_set (i := 2) sc_check_borne.nd rfl (Or.inl rfl) pem_int)
    (pssm_one (psm_for (passes_of rfl) rfl (pim_seq rfl (pem_var (pv 0))) (pgm_name (pg_name (i := 3) sc_check_borne.nd rfl (Or.inl rfl))) (pssm_cons (psm_if (PWm.pt (pwm_or (ptm_not (ptm_tru rfl (pem_isiT T.isok rfl rfl T.z_isinstance (pem_var (pv 3)) (pa_cons (pe_bltn rfl T.z_list bt_list rfl) (pa_cons (pe_bltn rfl T.z_tuple bt_tuple rfl) pa_nil)) (by simp) (by decide)))) (pwm_or1 (ptm_cmp (op_neD hr.units) sim_ne (pem_callB call_len sim_len rfl T.z_len bt_len (pam_cons (pem_var (pv 3)) pam_nil)) pem_int (nomark _))))) (pssm_one (psm_raise (k := 1) rfl (takes_of rfl rfl rfl rfl) T.e_BadState T.ei_BadState T.et_BadState (ok_BadState___init T) (hr.mono (by decide)) T.b_BadState___init rfl T.c_BadState rfl (by decide) (pam_cons pem_str pam_nil))) pssm_nil)
    (pssm_cons (psm_if (PWm.pt (pwm_or (ptm_not (ptm_tru rfl (pem_call (takes_of rfl rfl rfl rfl) (ok_is_whole T) (hr.mono (by decide)) rfl T.m_is_whole T.k_is_whole T.b_is_whole .nil (fun _ => .nil) rfl (pam_cons (pem_ix ix_seq sim_ix (pem_var (pv 3)) pem_int) (pam_cons (pem_var (pv 2)) (pam_cons (pem_var (pv 1)) pam_nil)))))) (pwm_or1 (ptm_not (ptm_tru rfl (pem_call (takes_of rfl rfl rfl rfl) (ok_is_whole T) (hr.mono (by decide)) rfl T.m_is_whole T.k_is_whole T.b_is_whole .nil (fun _ => .nil) rfl (pam_cons (pem_ix ix_seq sim_ix (pem_var (pv 3)) pem_int) (pam_cons pem_int (pam_cons pem_int pam_nil))))))))) (pssm_one (psm_raise (k := 1) rfl (takes_of rfl rfl rfl rfl) T.e_BadState T.ei_BadState T.et_BadState (ok_BadState___init T) (hr.mono (by decide)) T.b_BadState___init rfl T.c_BadState rfl (by decide) (pam_cons pem_str pam_nil))) pssm_nil)
    (pssm_one (psm_set (i := 2) sc_check_borne.nd rfl (Or.inl rfl) (pem_op op_addAll sim_add (pem_ix ix_seq sim_ix (pem_var (pv 3)) pem_int) pem_int)))))))))
theorem sc_CoupleState___init : FnScope (["self", "names", "lives", "sons", "daughters", "borne", "marks", "entry", "pair"] : List Str) (["self", "names", "lives", "sons", "daughters", "borne", "marks"] : List Str) (defScope s_CoupleState___init) := ⟨rfl, rfl, rfl, by decide +kernel, rfl, by decide +kernel, by decide +kernel⟩
theorem ok_CoupleState___init (T : Txt K mg a) : FnOk PW w K mg base (L2.CX PW w) 4 a.f_CoupleState___init a.d_CoupleState___init (["self", "names", "lives", "sons", "daughters", "borne", "marks"] : List Str) (spOf (tb w K a) 7 m_CoupleState___init) :=
  fund_okm T.F_CoupleState___init sc_CoupleState___init fun cdv A outer s H E hr =>
    (pssm_cons (psm_expr (pem_call (takes_of rfl rfl rfl rfl) (ok_check_entries T) (hr.mono (by decide)) rfl T.m_check_entries T.k_check_entries T.b_check_entries .nil (fun _ => .nil) rfl (pam_cons (pem_var (pv 1)) pam_nil)))
    (pssm_cons (psm_expr (pem_call (takes_of rfl rfl rfl rfl) (ok_check_life_row T) (hr.mono (by decide)) rfl T.m_check_life_row T.k_check_life_row T.b_check_life_row .nil (fun _ => .nil) rfl (pam_cons (pem_var (pv 2)) pam_nil)))
    (pssm_cons (psm_if (PWm.pt (pwm_or (ptm_not (ptm_tru rfl (pem_call (takes_of rfl rfl rfl rfl) (ok_is_whole T) (hr.mono (by decide)) rfl T.m_is_whole T.k_is_whole T.b_is_whole .nil (fun _ => .nil) rfl (pam_cons (pem_var (pv 3)) (pam_cons pem_int (pam_cons pem_int pam_nil)))))) (pwm_or1 (ptm_not (ptm_tru rfl (pem_call (takes_of rfl rfl rfl rfl) (ok_is_whole T) (hr.mono (by decide)) rfl T.m_is_whole T.k_is_whole T.b_is_whole .nil (fun _ => .nil) rfl (pam_cons (pem_var (pv 4)) (pam_cons pem_int (pam_cons pem_int pam_nil))))))))) (pssm_one (psm_raise (k := 1) rfl (takes_of rfl rfl rfl rfl) T.e_BadState T.ei_BadState T.et_BadState (ok_BadState___init T) (hr.mono (by decide)) T.b_BadState___init rfl T.c_BadState rfl (by decide) (pam_cons pem_str pam_nil))) pssm_nil)
    (pssm_cons (psm_fld rfl T.o_CoupleState_classes (ps_fld (pem_var (pv 0)) (pem_scope (pem_callB call_lenO (sim_lenO (T := (tb w K a))) rfl T.z_len bt_len (pam_cons (pem_sc rfl (own := [("entry", 7)]) rfl sc_CoupleState___init.nd (pim_seq rfl (pem_var (pv 1))) (show BlkOk (["self", "names", "lives", "sons", "daughters", "borne", "marks", "entry", "pair"] : List Str) (defScope s_CoupleState___init) _ [("entry", 7)] from ⟨rfl, by decide +kernel, by decide +kernel, by decide +kernel, by decide +kernel⟩) (fun _ _ _ _ _ => (pg_name (i := 7) sc_CoupleState___init.nd rfl (Or.inl rfl))) (gr_name rfl) (gw_name (by decide)) (fun _ _ _ _ _ => (ptsm_one (ptm_cmp op_notN sim_notN (pem_var (pv 7)) pem_non (nomark _)))) (fun _ _ _ _ _ => (pem_var (pv 7)))) pam_nil))) rfl))
    (pssm_cons (psm_expr (pem_call (takes_of rfl rfl rfl rfl) (ok_check_borne T) (hr.mono (by decide)) rfl T.m_check_borne T.k_check_borne T.b_check_borne .nil (fun _ => .nil) rfl (pam_cons (pem_var (pv 5)) (pam_cons (pem_fld rfl T.o_CoupleState_classes (pe_fld (pem_var (pv 0)) rfl)) pam_nil))))
    (pssm_cons (psm_expr (pem_call (takes_of rfl rfl rfl rfl) (ok_check_marks T) (hr.mono (by decide)) rfl T.m_check_marks T.k_check_marks T.b_check_marks .nil (fun _ => .nil) rfl (pam_cons (pem_var (pv 6)) pam_nil)))
    (pssm_cons (psm_fld rfl T.o_CoupleState_names (ps_fld (pem_var (pv 0)) (pem_callTy call_tuple_of sim_tuple rfl T.z_tuple bt_tuple (pam_cons (pem_var (pv 1)) pam_nil)) rfl))
    (pssm_cons (psm_fld rfl T.o_CoupleState_lives (ps_fld (pem_var (pv 0)) (pem_callTy call_tuple_of sim_tuple rfl T.z_tuple bt_tuple (pam_cons (pem_var (pv 2)) pam_nil)) rfl))
    (pssm_cons (psm_fld rfl T.o_CoupleState_sons (ps_fld (pem_var (pv 0)) (pem_var (pv 3)) rfl))
    (pssm_cons (psm_fld rfl T.o_CoupleState_daughters (ps_fld (pem_var (pv 0)) (pem_var (pv 4)) rfl))
    (pssm_cons (psm_fld rfl T.o_CoupleState_borne (ps_fld (pem_var (pv 0)) (pem_callTy call_tuple_of sim_tuple rfl T.z_tuple bt_tuple (pam_cons (pem_scope (pem_comp (own := [("pair", 8)]) rfl sc_CoupleState___init.nd (pim_seq rfl (pem_var (pv 5))) (show BlkOk (["self", "names", "lives", "sons", "daughters", "borne", "marks", "entry", "pair"] : List Str) (defScope s_CoupleState___init) _ [("pair", 8)] from ⟨rfl, by decide +kernel, by decide +kernel, by decide +kernel, by decide +kernel⟩) (fun _ _ _ _ _ => (pg_name (i := 8) sc_CoupleState___init.nd rfl (Or.inl rfl))) (gr_name rfl) (gw_name (by decide)) (fun _ _ _ _ _ => (ptsm_nil (σ := ()))) (fun _ _ _ _ _ => (pem_callTy call_tuple_of sim_tuple rfl T.z_tuple bt_tuple (pam_cons (pem_var (pv 8)) pam_nil))))) pam_nil)) rfl))
    (pssm_cons (psm_fld rfl T.o_CoupleState_marks (ps_fld (pem_var (pv 0)) (pem_callTy call_tuple_of sim_tuple rfl T.z_tuple bt_tuple (pam_cons (pem_var (pv 6)) pam_nil)) rfl))
    (pssm_cons (psm_fld rfl T.o_CoupleState_key (ps_fld (pem_var (pv 0)) (pem_tup (pam_cons pem_str (pam_cons (pem_fld rfl T.o_CoupleState_names (pe_fld (pem_var (pv 0)) rfl)) (pam_cons (pem_fld rfl T.o_CoupleState_lives (pe_fld (pem_var (pv 0)) rfl)) (pam_cons (pem_var (pv 3)) (pam_cons (pem_var (pv 4)) (pam_cons (pem_fld rfl T.o_CoupleState_borne (pe_fld (pem_var (pv 0)) rfl)) (pam_cons (pem_fld rfl T.o_CoupleState_marks (pe_fld (pem_var (pv 0)) rfl)) pam_nil)))))))) rfl))
    (pssm_one (psm_fld rfl T.o_CoupleState_is_new (ps_fld (pem_var (pv 0)) (pem_and (pem_cmp (op_eqD hr.units) sim_eq (pem_var (pv 3)) pem_int (nomark _)) (pem_and (pem_cmp (op_eqD hr.units) sim_eq (pem_var (pv 4)) pem_int (nomark _)) (pem_one (pem_cmp (op_eqD hr.units) sim_eq (pem_callB call_len sim_len rfl T.z_len bt_len (pam_cons (pem_scope (pem_comp (own := [("pair", 8)]) rfl sc_CoupleState___init.nd (pim_seq rfl (pem_fld rfl T.o_CoupleState_borne (pe_fld (pem_var (pv 0)) rfl))) (show BlkOk (["self", "names", "lives", "sons", "daughters", "borne", "marks", "entry", "pair"] : List Str) (defScope s_CoupleState___init) _ [("pair", 8)] from ⟨rfl, by decide +kernel, by decide +kernel, by decide +kernel, by decide +kernel⟩) (fun _ _ _ _ _ => (pg_name (i := 8) sc_CoupleState___init.nd rfl (Or.inl rfl))) (gr_name rfl) (gw_name (by decide)) (fun _ _ _ _ _ => (ptsm_one (ptm_cmp op_gt sim_gt (pem_ix ix_seq sim_ix (pem_var (pv 8)) pem_int) pem_int (nomark _)))) (fun _ _ _ _ _ => (pem_var (pv 8))))) pam_nil)) pem_int (nomark _))))) rfl))))))))))))))))
theorem sc_CoupleState___eq : FnScope (["self", "other"] : List Str) (["self", "other"] : List Str) (defScope s_CoupleState___eq) := ⟨rfl, rfl, rfl, by decide +kernel, rfl, by decide +kernel, by decide +kernel⟩
theorem ok_CoupleState___eq (T : Txt K mg a) : FnOk PW w K mg base (L2.CX PW w) 1 a.f_CoupleState___eq a.d_CoupleState___eq (["self", "other"] : List Str) (spOf (tb w K a) 2 m_CoupleState___eq) :=
  fund_okm T.F_CoupleState___eq sc_CoupleState___eq fun cdv A outer s H E hr =>
    (pssm_one (psm_ret (pem_and (pem_isi1 T.isok rfl rfl T.z_isinstance (pem_var (pv 1)) (pe_glob rfl T.c_CoupleState rfl)) (pem_one (pem_cmp (op_eqD hr.units) sim_eq (pem_fld rfl T.o_CoupleState_key (pe_fld (pem_var (pv 0)) rfl)) (pem_fld rfl T.o_CoupleState_key (pe_fld (pem_var (pv 1)) rfl)) (nomark _))))))
theorem sc_u_law_many : FnScope (["_law_names", "_law_at"] : List Str) (["_law_names"] : List Str) (defScope s_u_law_many) := ⟨rfl, rfl, rfl, by decide +kernel, rfl, by decide +kernel, by decide +kernel⟩
theorem ok_u_law_many (T : Txt K mg a) : FnOk PW w K mg base (L2.CX PW w) 1 a.f_u_law_many a.d_u_law_many (["_law_names"] : List Str) (spOf (tb w K a) 1 m_u_law_many) :=
  fund_okm T.F_u_law_many sc_u_law_many fun cdv A outer s H E hr =>
    (pssm_one (psm_ret (pem_callB call_len sim_len rfl T.z_len bt_len (pam_cons (pem_scope (pem_comp (own := [("_law_at", 1)]) rfl sc_u_law_many.nd (pim_range1 rfl T.z_range (pam_cons (pem_callB call_len sim_len rfl T.z_len bt_len (pam_cons (pem_var (pv 0)) pam_nil)) pam_nil)) (show BlkOk (["_law_names", "_law_at"] : List Str) (defScope s_u_law_many) _ [("_law_at", 1)] from ⟨rfl, by decide +kernel, by decide +kernel, by decide +kernel, by decide +kernel⟩) (fun _ _ _ _ _ => (pg_name (i := 1) sc_u_law_many.nd rfl (Or.inl rfl))) (gr_name rfl) (gw_name (by decide)) (fun _ _ _ _ _ => (ptsm_one (PWm.pt (pwm_and (ptm_cmp op_notN sim_notN (pem_ix ix_seq sim_ix (pem_var (pv 0)) (pem_var (pv 1))) pem_non (nomark _)) (pwm_and1 (ptm_cmp op_notIn_seq sim_in (pem_ix ix_seq sim_ix (pem_var (pv 0)) (pem_var (pv 1))) (pem_scope (pem_sl rfl (pem_var (pv 0)) pom_none (pom_some (pem_var (pv 1))))) (by rfl))))))) (fun _ _ _ _ _ => (pem_var (pv 1))))) pam_nil))))
theorem sc_CoupleState_mark_of : FnScope (["self", "number", "other", "mark"] : List Str) (["self", "number"] : List Str) (defScope s_CoupleState_mark_of) := ⟨rfl, rfl, rfl, by decide +kernel, rfl, by decide +kernel, by decide +kernel⟩
theorem ok_CoupleState_mark_of (T : Txt K mg a) : FnOk PW w K mg base (L2.CX PW w) 1 a.f_CoupleState_mark_of a.d_CoupleState_mark_of (["self", "number"] : List Str) (spOf (tb w K a) 2 m_CoupleState_mark_of) :=
  fund_okm T.F_CoupleState_mark_of sc_CoupleState_mark_of fun cdv A outer s H E hr =>
    (pssm_cons (psm_for (passes_of rfl) rfl (pim_seq rfl (pem_fld rfl T.o_CoupleState_borne (pe_fld (pem_var (pv 0)) rfl))) (pgm_tup rfl rfl (PGN.cons (pg_name (i := 2) sc_CoupleState_mark_of.nd rfl (Or.inl rfl)) rfl (PGN.cons (pg_name (i := 3) sc_CoupleState_mark_of.nd rfl (Or.inl rfl)) rfl PGN.nil rfl) rfl)) (pssm_one (psm_if (ptm_cmp (op_eqD hr.units) sim_eq (pem_var (pv 2)) (pem_var (pv 1)) (nomark _)) (pssm_one (psm_ret (pem_var (pv 3)))) pssm_nil)))
    (pssm_one (psm_ret pem_non)))
theorem sc_u_law_couple_right : FnScope (["_law_names", "_law_lives", "_law_sons", "_law_daughters", "_law_pairs", "_law_plain", "_law_handed", "_law_one", "_law_two", "_law_pair", "_law_number", "_law_due", "_law_others", "_law_other"] : List Str) (["_law_names", "_law_lives", "_law_sons", "_law_daughters", "_law_pairs"] : List Str) (defScope s_u_law_couple_right) := ⟨rfl, rfl, rfl, by decide +kernel, rfl, by decide +kernel, by decide +kernel⟩
theorem ok_u_law_couple_right (T : Txt K mg a) : FnOk PW w K mg base (L2.CX PW w) 6 a.f_u_law_couple_right a.d_u_law_couple_right (["_law_names", "_law_lives", "_law_sons", "_law_daughters", "_law_pairs"] : List Str) (spOf (tb w K a) 5 m_u_law_couple_right) :=
  fund_okm T.F_u_law_couple_right sc_u_law_couple_right fun cdv A outer s H E hr =>
    (pssm_cons (psm_set (i := 5) sc_u_law_couple_right.nd rfl (Or.inl rfl) (pem_callTy call_tuple_of sim_tuple rfl T.z_tuple bt_tuple (pam_cons (pem_scope (pem_comp (own := [("_law_pair", 9)]) rfl sc_u_law_couple_right.nd (pim_seq rfl (pem_var (pv 4))) (show BlkOk (["_law_names", "_law_lives", "_law_sons", "_law_daughters", "_law_pairs", "_law_plain", "_law_handed", "_law_one", "_law_two", "_law_pair", "_law_number", "_law_due", "_law_others", "_law_other"] : List Str) (defScope s_u_law_couple_right) _ [("_law_pair", 9)] from ⟨rfl, by decide +kernel, by decide +kernel, by decide +kernel, by decide +kernel⟩) (fun _ _ _ _ _ => (pg_name (i := 9) sc_u_law_couple_right.nd rfl (Or.inl rfl))) (gr_name rfl) (gw_name (by decide)) (fun _ _ _ _ _ => (ptsm_nil (σ := ()))) (fun _ _ _ _ _ => (pem_callTy call_tuple_of sim_tuple rfl T.z_tuple bt_tuple (pam_cons (pem_var (pv 9)) pam_nil))))) pam_nil)))
    (pssm_cons (psm_setLc (own := [("_law_pair", 9)]) (fun _ _ _ h => h) rfl sc_u_law_couple_right.nd rfl rfl rfl (pim_seq rfl (pem_var (pv 4))) (show BlkOk (["_law_names", "_law_lives", "_law_sons", "_law_daughters", "_law_pairs", "_law_plain", "_law_handed", "_law_one", "_law_two", "_law_pair", "_law_number", "_law_due", "_law_others", "_law_other"] : List Str) (defScope s_u_law_couple_right) _ [("_law_pair", 9)] from ⟨rfl, by decide +kernel, by decide +kernel, by decide +kernel, by decide +kernel⟩) (fun _ _ _ _ _ => (pg_name (i := 9) sc_u_law_couple_right.nd rfl (Or.inl rfl))) (gr_name rfl) (gw_name (by decide)) (fun _ _ _ _ _ => (ptsm_nil (σ := ()))) (fun _ _ _ _ _ => (pem_callTy call_list_of sim_list rfl T.z_list bt_list (pam_cons (pem_var (pv 9)) pam_nil))))
    (pssm_cons (psm_set (i := 7) sc_u_law_couple_right.nd rfl (Or.inr rfl) (pem_scope (pem_make (takes_of rfl rfl rfl rfl) T.mk_CoupleState (ok_CoupleState___init T) (hr.mono (by decide)) rfl T.c_CoupleState T.bd_CoupleState___init.1 T.bd_CoupleState___init.2 T.dm (pam_cons (pem_var (pv 0)) (pam_cons (pem_var (pv 1)) (pam_cons (pem_var (pv 2)) (pam_cons (pem_var (pv 3)) (pam_cons (pem_var (pv 6)) pam_nil))))))))
    (pssm_cons (psm_set (i := 8) sc_u_law_couple_right.nd rfl (Or.inl rfl) (pem_scope (pem_make (takes_of rfl rfl rfl rfl) T.mk_CoupleState (ok_CoupleState___init T) (hr.mono (by decide)) rfl T.c_CoupleState T.b_CoupleState___init .nil (fun _ => .nil) (pam_cons (pem_callTy call_tuple_of sim_tuple rfl T.z_tuple bt_tuple (pam_cons (pem_var (pv 0)) pam_nil)) (pam_cons (pem_callTy call_tuple_of sim_tuple rfl T.z_tuple bt_tuple (pam_cons (pem_var (pv 1)) pam_nil)) (pam_cons (pem_var (pv 2)) (pam_cons (pem_var (pv 3)) (pam_cons (pem_var (pv 5)) (pam_cons (pem_scope (pem_lst (pam_cons pem_int (pam_cons pem_int pam_nil)))) pam_nil)))))))))
    (pssm_cons (psm_for (passes_of rfl) rfl (pim_seq rfl (pem_var (pv 6))) (pgm_name (pg_name (i := 9) sc_u_law_couple_right.nd rfl (Or.inl rfl))) (pssm_one (psm_setIx (ps_asg pem_int (pg_sub (pem_var (pv 9)) pem_int set_list)))))
    (pssm_cons (psm_expr (pem_bm sim_app (pe_bm PySem.F.plainAttrs_list PySem.F.slot_list_append PySem.F.type_list_append mt_append (pem_var (pv 6)) (pam_cons pem_int pam_nil))))
    (pssm_cons (psm_if (ptm_cmp (op_neD hr.units) sim_ne (pem_tup (pam_cons (pem_fld rfl T.o_CoupleState_names (pe_fld (pem_var (pv 7)) rfl)) (pam_cons (pem_fld rfl T.o_CoupleState_lives (pe_fld (pem_var (pv 7)) rfl)) (pam_cons (pem_fld rfl T.o_CoupleState_sons (pe_fld (pem_var (pv 7)) rfl)) (pam_cons (pem_fld rfl T.o_CoupleState_daughters (pe_fld (pem_var (pv 7)) rfl)) pam_nil))))) (pem_tup (pam_cons (pem_callTy call_tuple_of sim_tuple rfl T.z_tuple bt_tuple (pam_cons (pem_var (pv 0)) pam_nil)) (pam_cons (pem_callTy call_tuple_of sim_tuple rfl T.z_tuple bt_tuple (pam_cons (pem_var (pv 1)) pam_nil)) (pam_cons (pem_var (pv 2)) (pam_cons (pem_var (pv 3)) pam_nil))))) (nomark _)) (pssm_one (psm_ret pem_bl)) pssm_nil)
    (pssm_cons (psm_if (PWm.pt (pwm_or (ptm_cmp (op_neD hr.units) sim_ne (pem_fld rfl T.o_CoupleState_borne (pe_fld (pem_var (pv 7)) rfl)) (pem_var (pv 5)) (nomark _)) (pwm_or (ptm_cmp (op_neD hr.units) sim_ne (pem_fld rfl T.o_CoupleState_marks (pe_fld (pem_var (pv 7)) rfl)) (pem_tup (pam_cons pem_int (pam_cons pem_int pam_nil))) (nomark _)) (pwm_or (ptm_cmp (op_neD hr.units) sim_ne (pem_fld rfl T.o_CoupleState_marks (pe_fld (pem_var (pv 8)) rfl)) (pem_tup (pam_cons pem_int (pam_cons pem_int pam_nil))) (nomark _)) (pwm_or1 (ptm_cmp (op_neD hr.units) sim_ne (pem_fld rfl T.o_CoupleState_classes (pe_fld (pem_var (pv 7)) rfl)) (pem_call (takes_of rfl rfl rfl rfl) (ok_u_law_many T) (hr.mono (by decide)) rfl T.m_u_law_many T.k_u_law_many T.b_u_law_many .nil (fun _ => .nil) rfl (pam_cons (pem_var (pv 0)) pam_nil)) (nomark _))))))) (pssm_one (psm_ret pem_bl)) pssm_nil)
    (pssm_cons (psm_if (PWm.pt (pwm_or (ptm_not (ptm_tru rfl (pem_isi1 T.isok rfl rfl T.z_isinstance (pem_fld rfl T.o_CoupleState_is_new (pe_fld (pem_var (pv 7)) rfl)) (pe_bltn rfl T.z_bool bt_bool rfl)))) (pwm_or1 (ptm_cmp (op_neD hr.units) sim_ne (pem_fld rfl T.o_CoupleState_is_new (pe_fld (pem_var (pv 7)) rfl)) (pem_cmp (op_eqD hr.units) sim_eq (pem_op op_addAll sim_add (pem_op op_addAll sim_add (pem_var (pv 2)) (pem_var (pv 3))) (pem_callB (cr_sum rfl) sim_sum rfl T.z_sum bt_sum (pam_cons (pem_scope (pem_comp (own := [("_law_pair", 9)]) rfl sc_u_law_couple_right.nd (pim_seq rfl (pem_var (pv 5))) (show BlkOk (["_law_names", "_law_lives", "_law_sons", "_law_daughters", "_law_pairs", "_law_plain", "_law_handed", "_law_one", "_law_two", "_law_pair", "_law_number", "_law_due", "_law_others", "_law_other"] : List Str) (defScope s_u_law_couple_right) _ [("_law_pair", 9)] from ⟨rfl, by decide +kernel, by decide +kernel, by decide +kernel, by decide +kernel⟩) (fun _ _ _ _ _ => (pg_name (i := 9) sc_u_law_couple_right.nd rfl (Or.inl rfl))) (gr_name rfl) (gw_name (by decide)) (fun _ _ _ _ _ => (ptsm_nil (σ := ()))) (fun _ _ _ _ _ => (pem_ix ix_seq sim_ix (pem_var (pv 9)) pem_int)))) pam_nil))) pem_int (nomark _)) (nomark _))))) (pssm_one (psm_ret pem_bl)) pssm_nil)
    (pssm_cons (psm_for (passes_of rfl) rfl (pim_range1 rfl T.z_range (pam_cons (pem_op op_addAll sim_add (pem_call (takes_of rfl rfl rfl rfl) (ok_u_law_many T) (hr.mono (by decide)) rfl T.m_u_law_many T.k_u_law_many T.b_u_law_many .nil (fun _ => .nil) rfl (pam_cons (pem_var (pv 0)) pam_nil)) pem_int) pam_nil)) (pgm_name (pg_name (i := 10) sc_u_law_couple_right.nd rfl (Or.inr rfl))) (pssm_cons (psm_setLc (own := [("_law_pair", 9)]) scope_hm rfl sc_u_law_couple_right.nd rfl rfl rfl (pim_seq rfl (pem_var (pv 5))) (show BlkOk (["_law_names", "_law_lives", "_law_sons", "_law_daughters", "_law_pairs", "_law_plain", "_law_handed", "_law_one", "_law_two", "_law_pair", "_law_number", "_law_due", "_law_others", "_law_other"] : List Str) (defScope s_u_law_couple_right) _ [("_law_pair", 9)] from ⟨rfl, by decide +kernel, by decide +kernel, by decide +kernel, by decide +kernel⟩) (fun _ _ _ _ _ => (pg_name (i := 9) sc_u_law_couple_right.nd rfl (Or.inl rfl))) (gr_name rfl) (gw_name (by decide)) (fun _ _ _ _ _ => (ptsm_one (ptm_cmp (op_eqD hr.units) sim_eq (pem_ix ix_seq sim_ix (pem_var (pv 9)) pem_int) (pem_var (pv 10)) (nomark _)))) (fun _ _ _ _ _ => (pem_ix ix_seq sim_ix (pem_var (pv 9)) pem_int)))
    (pssm_one (psm_if (ptm_cmp (op_neD hr.units) sim_ne (pem_meth (takes_of rfl rfl rfl rfl) (ok_CoupleState_mark_of T) (hr.mono (by decide)) T.i_CoupleState.cl T.h_CoupleState_mark_of (show ¬ ("mark_of" : Str) ∈ fldN 3 by decide +kernel) T.b_CoupleState_mark_of .nil (fun _ => .nil) (pem_var (pv 7)) (pam_cons (pem_var (pv 10)) pam_nil)) (pem_ifExp (ptm_cmp (op_neD hr.units) sim_ne (pem_var (pv 11)) (pem_scope (pem_lst pam_nil)) (nomark _)) (pem_ix ix_seq sim_ix (pem_var (pv 11)) pem_int) pem_non) (nomark _)) (pssm_one (psm_ret pem_bl)) pssm_nil))))
    (pssm_cons (psm_set (i := 12) sc_u_law_couple_right.nd rfl (Or.inl rfl) (pem_lst (pam_cons (pem_scope (pem_make (takes_of rfl rfl rfl rfl) T.mk_CoupleState (ok_CoupleState___init T) (hr.mono (by decide)) rfl T.c_CoupleState T.bd_CoupleState___init.1 T.bd_CoupleState___init.2 T.dm (pam_cons (pem_scope (pem_op op_addAll sim_add (pem_var (pv 0)) (pem_scope (pem_lst (pam_cons pem_non pam_nil))))) (pam_cons (pem_var (pv 1)) (pam_cons (pem_var (pv 2)) (pam_cons (pem_var (pv 3)) (pam_cons (pem_var (pv 4)) pam_nil))))))) (pam_cons (pem_scope (pem_make (takes_of rfl rfl rfl rfl) T.mk_CoupleState (ok_CoupleState___init T) (hr.mono (by decide)) rfl T.c_CoupleState T.bd_CoupleState___init.1 T.bd_CoupleState___init.2 T.dm (pam_cons (pem_var (pv 0)) (pam_cons (pem_scope (pem_op op_addAll sim_add (pem_var (pv 1)) (pem_scope (pem_lst (pam_cons pem_non pam_nil))))) (pam_cons (pem_var (pv 2)) (pam_cons (pem_var (pv 3)) (pam_cons (pem_var (pv 4)) pam_nil))))))) pam_nil))))
    (pssm_cons (psm_set (i := 12) sc_u_law_couple_right.nd rfl (Or.inl rfl) (pem_op op_addAll sim_add (pem_var (pv 12)) (pem_scope (pem_lst (pam_cons (pem_scope (pem_make (takes_of rfl rfl rfl rfl) T.mk_CoupleState (ok_CoupleState___init T) (hr.mono (by decide)) rfl T.c_CoupleState T.bd_CoupleState___init.1 T.bd_CoupleState___init.2 T.dm (pam_cons (pem_var (pv 0)) (pam_cons (pem_var (pv 1)) (pam_cons (pem_op op_sub sim_sub pem_int (pem_var (pv 2))) (pam_cons (pem_var (pv 3)) (pam_cons (pem_var (pv 4)) pam_nil))))))) (pam_cons (pem_scope (pem_make (takes_of rfl rfl rfl rfl) T.mk_CoupleState (ok_CoupleState___init T) (hr.mono (by decide)) rfl T.c_CoupleState T.bd_CoupleState___init.1 T.bd_CoupleState___init.2 T.dm (pam_cons (pem_var (pv 0)) (pam_cons (pem_var (pv 1)) (pam_cons (pem_var (pv 2)) (pam_cons (pem_op op_sub sim_sub pem_int (pem_var (pv 3))) (pam_cons (pem_var (pv 4)) pam_nil))))))) pam_nil))))))
    (pssm_cons (psm_expr (pem_bm sim_app (pe_bm PySem.F.plainAttrs_list PySem.F.slot_list_append PySem.F.type_list_append mt_append (pem_var (pv 12)) (pam_cons (pem_scope (pem_make (takes_of rfl rfl rfl rfl) T.mk_CoupleState (ok_CoupleState___init T) (hr.mono (by decide)) rfl T.c_CoupleState T.b_CoupleState___init .nil (fun _ => .nil) (pam_cons (pem_var (pv 0)) (pam_cons (pem_var (pv 1)) (pam_cons (pem_var (pv 2)) (pam_cons (pem_var (pv 3)) (pam_cons (pem_var (pv 4)) (pam_cons (pem_tup (pam_cons pem_int (pam_cons pem_int pam_nil))) pam_nil)))))))) pam_nil))))
    (pssm_cons (psm_if (ptm_cmp (op_neD hr.units) sim_ne (pem_var (pv 4)) (pem_scope (pem_lst pam_nil)) (nomark _)) (pssm_one (psm_expr (pem_bm sim_app (pe_bm PySem.F.plainAttrs_list PySem.F.slot_list_append PySem.F.type_list_append mt_append (pem_var (pv 12)) (pam_cons (pem_scope (pem_make (takes_of rfl rfl rfl rfl) T.mk_CoupleState (ok_CoupleState___init T) (hr.mono (by decide)) rfl T.c_CoupleState T.bd_CoupleState___init.1 T.bd_CoupleState___init.2 T.dm (pam_cons (pem_var (pv 0)) (pam_cons (pem_var (pv 1)) (pam_cons (pem_var (pv 2)) (pam_cons (pem_var (pv 3)) (pam_cons (pem_scope (pem_sl rfl (pem_var (pv 4)) (pom_some pem_int) pom_none)) pam_nil))))))) pam_nil))))) pssm_nil)
    (pssm_one (psm_ret (pem_and (pem_cmp (op_own (ok_CoupleState___eq T) (hr.mono (by decide)) T.q_CoupleState.1 T.q_CoupleState.2 T.b_CoupleState___eq passL) (sim_own T.nf_CoupleState) (pem_var (pv 7)) (pem_var (pv 8)) (nomark _)) (pem_and (pem_cmp (op_eqD hr.units) sim_eq (pem_scope (pem_comp (own := [("_law_other", 13)]) rfl sc_u_law_couple_right.nd (pim_seq rfl (pem_var (pv 12))) (show BlkOk (["_law_names", "_law_lives", "_law_sons", "_law_daughters", "_law_pairs", "_law_plain", "_law_handed", "_law_one", "_law_two", "_law_pair", "_law_number", "_law_due", "_law_others", "_law_other"] : List Str) (defScope s_u_law_couple_right) _ [("_law_other", 13)] from ⟨rfl, by decide +kernel, by decide +kernel, by decide +kernel, by decide +kernel⟩) (fun _ _ _ _ _ => (pg_name (i := 13) sc_u_law_couple_right.nd rfl (Or.inl rfl))) (gr_name rfl) (gw_name (by decide)) (fun _ _ _ _ _ => (ptsm_one (ptm_cmp (op_own (ok_CoupleState___eq T) (hr.mono (by decide)) T.q_CoupleState.1 T.q_CoupleState.2 T.b_CoupleState___eq passL) (sim_own T.nf_CoupleState) (pem_var (pv 7)) (pem_var (pv 13)) (nomark _)))) (fun _ _ _ _ _ => (pem_var (pv 13))))) (pem_scope (pem_lst pam_nil)) (nomark _)) (pem_one (pem_not (pem_cmp (op_own (ok_CoupleState___eq T) (hr.mono (by decide)) T.q_CoupleState.1 T.q_CoupleState.2 T.b_CoupleState___eq passL) (sim_own T.nf_CoupleState) (pem_var (pv 7)) (pem_var (pv 5)) (nomark _))))))))))))))))))))))
theorem sc_u_law_spoilt : FnScope (["_law_hand_here", "_law_good", "_law_bad", "_law_word"] : List Str) (["_law_hand_here", "_law_good", "_law_bad", "_law_word"] : List Str) (defScope s_u_law_spoilt) := ⟨rfl, rfl, rfl, by decide +kernel, rfl, by decide +kernel, by decide +kernel⟩
theorem ok_u_law_spoilt (T : Txt K mg a) : FnOk PW w K mg base (L2.CX PW w) 4 a.f_u_law_spoilt a.d_u_law_spoilt (["_law_hand_here", "_law_good", "_law_bad", "_law_word"] : List Str) (spOf (tb w K a) 4 m_u_law_spoilt) :=
  fund_okm T.F_u_law_spoilt sc_u_law_spoilt fun cdv A outer s H E hr =>
    (pssm_cons (psm_if (ptm_cmp op_gt sim_gt (pem_call (takes_of rfl rfl rfl rfl) (ok_u_law_draw T) (hr.mono (by decide)) rfl T.m_u_law_draw T.k_u_law_draw T.b_u_law_draw .nil (fun _ => .nil) rfl (pam_cons (pem_var (pv 0)) (pam_cons pem_int pam_nil))) pem_int (nomark _)) (pssm_one (psm_ret (pem_tup (pam_cons (pem_var (pv 1)) (pam_cons pem_non pam_nil))))) pssm_nil)
    (pssm_one (psm_ret (pem_tup (pam_cons (pem_call (takes_of rfl rfl rfl rfl) (ok_u_law_pick T) (hr.mono (by decide)) rfl T.m_u_law_pick T.k_u_law_pick T.b_u_law_pick .nil (fun _ => .nil) rfl (pam_cons (pem_var (pv 0)) (pam_cons (pem_var (pv 2)) pam_nil))) (pam_cons (pem_var (pv 3)) pam_nil))))))
theorem sc_u_law_couple_word : FnScope (["_law_names", "_law_lives", "_law_sons", "_law_daughters", "_law_pairs", "_law_both", "e"] : List Str) (["_law_names", "_law_lives", "_law_sons", "_law_daughters", "_law_pairs", "_law_both"] : List Str) (defScope s_u_law_couple_word) := ⟨rfl, rfl, rfl, by decide +kernel, rfl, by decide +kernel, by decide +kernel⟩
theorem ok_u_law_couple_word (T : Txt K mg a) : FnOk PW w K mg base (L2.CX PW w) 6 a.f_u_law_couple_word a.d_u_law_couple_word (["_law_names", "_law_lives", "_law_sons", "_law_daughters", "_law_pairs", "_law_both"] : List Str) (spOf (tb w K a) 6 m_u_law_couple_word) :=
  fund_okm T.F_u_law_couple_word sc_u_law_couple_word fun cdv A outer s H E hr =>
    (pssm_cons (psm_try (i := 6) rfl rfl sc_u_law_couple_word.nd rfl rfl ⟨rfl, by decide, Or.inl T.c_BadState⟩ (takes_of rfl rfl rfl rfl) T.exm_BadState (fun W pn xe tk own => (pssm_one (psm_expr (pem_scope (pem_make tk T.mk_CoupleState (ok_CoupleState___init T) (hr.mono (by decide)) rfl T.c_CoupleState T.b_CoupleState___init .nil (fun _ => .nil) (pam_cons (pem_var (pv 0)) (pam_cons (pem_var (pv 1)) (pam_cons (pem_var (pv 2)) (pam_cons (pem_var (pv 3)) (pam_cons (pem_var (pv 4)) (pam_cons (pem_var (pv 5)) pam_nil))))))))))) (fun ax oe cls d pn x hz hv => (pssm_one (psm_ret (pem_ifExp (ptm_tru rfl (pem_isE T.ise_CustomError hz hv (pv 6) (pe_glob rfl T.c_CustomError rfl) rfl T.z_isinstance)) (pem_exf rfl T.x_BadState rfl (show (fldN 1).Nodup by decide +kernel) T.n_BadState_what hz hv (pv 6)) pem_str)))))
    (pssm_one (psm_ret pem_non)))
theorem sc_u_law_person_word : FnScope (["_law_kind", "_law_names", "_law_lives", "_law_worth", "e"] : List Str) (["_law_kind", "_law_names", "_law_lives", "_law_worth"] : List Str) (defScope s_u_law_person_word) := ⟨rfl, rfl, rfl, by decide +kernel, rfl, by decide +kernel, by decide +kernel⟩
theorem ok_u_law_person_word (T : Txt K mg a) : FnOk PW w K mg base (L2.CX PW w) 6 a.f_u_law_person_word a.d_u_law_person_word (["_law_kind", "_law_names", "_law_lives", "_law_worth"] : List Str) (spOf (tb w K a) 4 m_u_law_person_word) :=
  fund_okm T.F_u_law_person_word sc_u_law_person_word fun cdv A outer s H E hr =>
    (pssm_cons (psm_try (i := 4) rfl rfl sc_u_law_person_word.nd rfl rfl ⟨rfl, by decide, Or.inl T.c_BadState⟩ (takes_of rfl rfl rfl rfl) T.exm_BadState (fun W pn xe tk own => (pssm_one (psm_expr (pem_scope (pem_make tk T.mk_PersonState (ok_PersonState___init T) (hr.mono (by decide)) rfl T.c_PersonState T.b_PersonState___init .nil (fun _ => .nil) (pam_cons (pem_var (pv 0)) (pam_cons (pem_var (pv 1)) (pam_cons (pem_var (pv 2)) (pam_cons (pem_var (pv 3)) pam_nil))))))))) (fun ax oe cls d pn x hz hv => (pssm_one (psm_ret (pem_ifExp (ptm_tru rfl (pem_isE T.ise_CustomError hz hv (pv 4) (pe_glob rfl T.c_CustomError rfl) rfl T.z_isinstance)) (pem_exf rfl T.x_BadState rfl (show (fldN 1).Nodup by decide +kernel) T.n_BadState_what hz hv (pv 4)) pem_str)))))
    (pssm_one (psm_ret pem_non)))
theorem sc_u_law_first : FnScope (["_law_words", "_law_found", "_law_word"] : List Str) (["_law_words"] : List Str) (defScope s_u_law_first) := ⟨rfl, rfl, rfl, by decide +kernel, rfl, by decide +kernel, by decide +kernel⟩
theorem ok_u_law_first (T : Txt K mg a) : FnOk PW w K mg base (L2.CX PW w) 1 a.f_u_law_first a.d_u_law_first (["_law_words"] : List Str) (spOf (tb w K a) 1 m_u_law_first) :=
  fund_okm T.F_u_law_first sc_u_law_first fun cdv A outer s H E hr =>
    (pssm_cons (psm_setLc (own := [("_law_word", 2)]) scope_hm rfl sc_u_law_first.nd rfl rfl rfl (pim_seq rfl (pem_var (pv 0))) (show BlkOk (["_law_words", "_law_found", "_law_word"] : List Str) (defScope s_u_law_first) _ [("_law_word", 2)] from ⟨rfl, by decide +kernel, by decide +kernel, by decide +kernel, by decide +kernel⟩) (fun _ _ _ _ _ => (pg_name (i := 2) sc_u_law_first.nd rfl (Or.inl rfl))) (gr_name rfl) (gw_name (by decide)) (fun _ _ _ _ _ => (ptsm_one (ptm_cmp op_notN sim_notN (pem_var (pv 2)) pem_non (nomark _)))) (fun _ _ _ _ _ => (pem_var (pv 2))))
    (pssm_one (psm_ret (pem_ifExp (ptm_cmp (op_neD hr.units) sim_ne (pem_var (pv 1)) (pem_scope (pem_lst pam_nil)) (nomark _)) (pem_ix ix_seq sim_ix (pem_var (pv 1)) pem_int) pem_non))))
theorem sc_u_law_refusals : FnScope (["_law_hand_here", "_law_names", "_law_lives", "_law_pairs", "_law_bad_names", "_law_bad_lives", "_law_bad_pairs", "_law_one", "_law_two", "_law_three", "_law_four", "_law_sons", "_law_daughters", "_law_five", "_law_six", "_law_told"] : List Str) (["_law_hand_here", "_law_names", "_law_lives", "_law_pairs"] : List Str) (defScope s_u_law_refusals) := ⟨rfl, rfl, rfl, by decide +kernel, rfl, by decide +kernel, by decide +kernel⟩
theorem ok_u_law_refusals (T : Txt K mg a) : FnOk PW w K mg base (L2.CX PW w) 7 a.f_u_law_refusals a.d_u_law_refusals (["_law_hand_here", "_law_names", "_law_lives", "_law_pairs"] : List Str) (spOf (tb w K a) 4 m_u_law_refusals) :=
  fund_okm T.F_u_law_refusals sc_u_law_refusals fun cdv A outer s H E hr =>
    (pssm_cons (psm_set (i := 4) sc_u_law_refusals.nd rfl (Or.inl rfl) (pem_scope (pem_lst (pam_cons (pem_scope (pem_lst (pam_cons pem_int pam_nil))) (pam_cons (pem_scope (pem_lst (pam_cons pem_int (pam_cons pem_int pam_nil)))) (pam_cons (pem_scope (pem_lst (pam_cons pem_bl pam_nil))) (pam_cons (pem_scope (pem_lst (pam_cons (pem_un un_neg sim_neg pem_int) pam_nil))) (pam_cons pem_str (pam_cons pem_non (pam_cons (pem_scope (pem_lst (pam_cons pem_int (pam_cons pem_str pam_nil)))) (pam_cons (pem_scope (pem_lst (pam_cons pem_int (pam_cons pem_int (pam_cons pem_int pam_nil))))) (pam_cons pem_int pam_nil))))))))))))
    (pssm_cons (psm_set (i := 5) sc_u_law_refusals.nd rfl (Or.inl rfl) (pem_scope (pem_lst (pam_cons (pem_scope (pem_lst (pam_cons pem_str pam_nil))) (pam_cons pem_non (pam_cons pem_str (pam_cons (pem_scope (pem_lst (pam_cons pem_int pam_nil))) (pam_cons (pem_scope (pem_lst (pam_cons pem_bl pam_nil))) (pam_cons (pem_scope (pem_lst (pam_cons pem_str (pam_cons pem_str pam_nil)))) pam_nil)))))))))
    (pssm_cons (psm_set (i := 6) sc_u_law_refusals.nd rfl (Or.inl rfl) (pem_scope (pem_lst (pam_cons (pem_scope (pem_lst (pam_cons (pem_tup (pam_cons pem_int (pam_cons pem_int pam_nil))) pam_nil))) (pam_cons (pem_scope (pem_lst (pam_cons (pem_tup (pam_cons pem_int (pam_cons pem_int pam_nil))) pam_nil))) (pam_cons (pem_scope (pem_lst (pam_cons (pem_tup (pam_cons pem_int (pam_cons pem_int pam_nil))) (pam_cons (pem_tup (pam_cons pem_int (pam_cons pem_int pam_nil))) pam_nil)))) (pam_cons (pem_scope (pem_lst (pam_cons (pem_tup (pam_cons pem_int (pam_cons pem_int pam_nil))) (pam_cons (pem_tup (pam_cons pem_int (pam_cons pem_int pam_nil))) pam_nil)))) (pam_cons (pem_scope (pem_lst (pam_cons (pem_tup (pam_cons pem_int pam_nil)) pam_nil))) (pam_cons (pem_scope (pem_lst (pam_cons pem_int pam_nil))) (pam_cons pem_non (pam_cons (pem_scope (pem_lst (pam_cons (pem_tup (pam_cons pem_int (pam_cons pem_bl pam_nil))) pam_nil))) (pam_cons pem_str (pam_cons (pem_scope (pem_lst (pam_cons (pem_tup (pam_cons (pem_un un_neg sim_neg pem_int) (pam_cons pem_int pam_nil))) pam_nil))) (pam_cons (pem_scope (pem_lst (pam_cons (pem_tup (pam_cons pem_int (pam_cons pem_int (pam_cons pem_int pam_nil)))) pam_nil))) pam_nil))))))))))))))
    (pssm_cons (psm_set (i := 7) sc_u_law_refusals.nd rfl (Or.inl rfl) (pem_call (takes_of rfl rfl rfl rfl) (ok_u_law_spoilt T) (hr.mono (by decide)) rfl T.m_u_law_spoilt T.k_u_law_spoilt T.b_u_law_spoilt .nil (fun _ => .nil) rfl (pam_cons (pem_var (pv 0)) (pam_cons (pem_call (takes_of rfl rfl rfl rfl) (ok_u_law_pick T) (hr.mono (by decide)) rfl T.m_u_law_pick T.k_u_law_pick T.b_u_law_pick .nil (fun _ => .nil) rfl (pam_cons (pem_var (pv 0)) (pam_cons (pem_scope (pem_lst (pam_cons pem_str (pam_cons pem_str pam_nil)))) pam_nil))) (pam_cons (pem_scope (pem_lst (pam_cons pem_str (pam_cons pem_non (pam_cons pem_str (pam_cons pem_int (pam_cons pem_str pam_nil))))))) (pam_cons pem_str pam_nil))))))
    (pssm_cons (psm_set (i := 8) sc_u_law_refusals.nd rfl (Or.inl rfl) (pem_call (takes_of rfl rfl rfl rfl) (ok_u_law_spoilt T) (hr.mono (by decide)) rfl T.m_u_law_spoilt T.k_u_law_spoilt T.b_u_law_spoilt .nil (fun _ => .nil) rfl (pam_cons (pem_var (pv 0)) (pam_cons (pem_var (pv 1)) (pam_cons (pem_var (pv 4)) (pam_cons pem_str pam_nil))))))
    (pssm_cons (psm_set (i := 9) sc_u_law_refusals.nd rfl (Or.inl rfl) (pem_call (takes_of rfl rfl rfl rfl) (ok_u_law_spoilt T) (hr.mono (by decide)) rfl T.m_u_law_spoilt T.k_u_law_spoilt T.b_u_law_spoilt .nil (fun _ => .nil) rfl (pam_cons (pem_var (pv 0)) (pam_cons (pem_var (pv 2)) (pam_cons (pem_var (pv 5)) (pam_cons pem_str pam_nil))))))
    (pssm_cons (psm_set (i := 10) sc_u_law_refusals.nd rfl (Or.inl rfl) (pem_call (takes_of rfl rfl rfl rfl) (ok_u_law_spoilt T) (hr.mono (by decide)) rfl T.m_u_law_spoilt T.k_u_law_spoilt T.b_u_law_spoilt .nil (fun _ => .nil) rfl (pam_cons (pem_var (pv 0)) (pam_cons (pem_call (takes_of rfl rfl rfl rfl) (ok_u_law_pick T) (hr.mono (by decide)) rfl T.m_u_law_pick T.k_u_law_pick T.b_u_law_pick .nil (fun _ => .nil) rfl (pam_cons (pem_var (pv 0)) (pam_cons (pem_scope (pem_lst (pam_cons pem_int (pam_cons pem_int (pam_cons pem_int pam_nil))))) pam_nil))) (pam_cons (pem_scope (pem_lst (pam_cons (pem_un un_neg sim_neg pem_int) (pam_cons pem_int (pam_cons pem_bl (pam_cons pem_non (pam_cons pem_str pam_nil))))))) (pam_cons pem_str pam_nil))))))
    (pssm_cons (psm_if (ptm_cmp (op_neD hr.units) sim_ne (pem_call (takes_of rfl rfl rfl rfl) (ok_u_law_person_word T) (hr.mono (by decide)) rfl T.m_u_law_person_word T.k_u_law_person_word T.b_u_law_person_word .nil (fun _ => .nil) rfl (pam_cons (pem_ix ix_seq sim_ix (pem_var (pv 7)) pem_int) (pam_cons (pem_ix ix_seq sim_ix (pem_var (pv 8)) pem_int) (pam_cons (pem_ix ix_seq sim_ix (pem_var (pv 9)) pem_int) (pam_cons (pem_ix ix_seq sim_ix (pem_var (pv 10)) pem_int) pam_nil))))) (pem_call (takes_of rfl rfl rfl rfl) (ok_u_law_first T) (hr.mono (by decide)) rfl T.m_u_law_first T.k_u_law_first T.b_u_law_first .nil (fun _ => .nil) rfl (pam_cons (pem_scope (pem_lst (pam_cons (pem_ix ix_seq sim_ix (pem_var (pv 7)) pem_int) (pam_cons (pem_ix ix_seq sim_ix (pem_var (pv 8)) pem_int) (pam_cons (pem_ix ix_seq sim_ix (pem_var (pv 9)) pem_int) (pam_cons (pem_ix ix_seq sim_ix (pem_var (pv 10)) pem_int) pam_nil)))))) pam_nil)) (nomark _)) (pssm_one (psm_ret pem_bl)) pssm_nil)
    (pssm_cons (psm_set (i := 11) sc_u_law_refusals.nd rfl (Or.inl rfl) (pem_call (takes_of rfl rfl rfl rfl) (ok_u_law_spoilt T) (hr.mono (by decide)) rfl T.m_u_law_spoilt T.k_u_law_spoilt T.b_u_law_spoilt .nil (fun _ => .nil) rfl (pam_cons (pem_var (pv 0)) (pam_cons (pem_call (takes_of rfl rfl rfl rfl) (ok_u_law_draw T) (hr.mono (by decide)) rfl T.m_u_law_draw T.k_u_law_draw T.b_u_law_draw .nil (fun _ => .nil) rfl (pam_cons (pem_var (pv 0)) (pam_cons pem_int pam_nil))) (pam_cons (pem_scope (pem_lst (pam_cons pem_int (pam_cons (pem_un un_neg sim_neg pem_int) (pam_cons pem_bl (pam_cons pem_str (pam_cons pem_non pam_nil))))))) (pam_cons pem_str pam_nil))))))
    (pssm_cons (psm_set (i := 12) sc_u_law_refusals.nd rfl (Or.inl rfl) (pem_call (takes_of rfl rfl rfl rfl) (ok_u_law_spoilt T) (hr.mono (by decide)) rfl T.m_u_law_spoilt T.k_u_law_spoilt T.b_u_law_spoilt .nil (fun _ => .nil) rfl (pam_cons (pem_var (pv 0)) (pam_cons (pem_call (takes_of rfl rfl rfl rfl) (ok_u_law_draw T) (hr.mono (by decide)) rfl T.m_u_law_draw T.k_u_law_draw T.b_u_law_draw .nil (fun _ => .nil) rfl (pam_cons (pem_var (pv 0)) (pam_cons pem_int pam_nil))) (pam_cons (pem_scope (pem_lst (pam_cons pem_int (pam_cons (pem_un un_neg sim_neg pem_int) (pam_cons pem_bl (pam_cons pem_str (pam_cons pem_non pam_nil))))))) (pam_cons pem_str pam_nil))))))
    (pssm_cons (psm_set (i := 13) sc_u_law_refusals.nd rfl (Or.inl rfl) (pem_call (takes_of rfl rfl rfl rfl) (ok_u_law_spoilt T) (hr.mono (by decide)) rfl T.m_u_law_spoilt T.k_u_law_spoilt T.b_u_law_spoilt .nil (fun _ => .nil) rfl (pam_cons (pem_var (pv 0)) (pam_cons (pem_ifExp (ptm_cmp op_isN sim_isN (pem_ix ix_seq sim_ix (pem_var (pv 8)) pem_int) pem_non (nomark _)) (pem_var (pv 3)) (pem_scope (pem_lst pam_nil))) (pam_cons (pem_var (pv 6)) (pam_cons pem_str pam_nil))))))
    (pssm_cons (psm_set (i := 14) sc_u_law_refusals.nd rfl (Or.inl rfl) (pem_call (takes_of rfl rfl rfl rfl) (ok_u_law_spoilt T) (hr.mono (by decide)) rfl T.m_u_law_spoilt T.k_u_law_spoilt T.b_u_law_spoilt .nil (fun _ => .nil) rfl (pam_cons (pem_var (pv 0)) (pam_cons (pem_scope (pem_lst (pam_cons pem_int (pam_cons pem_int pam_nil)))) (pam_cons (pem_scope (pem_lst (pam_cons (pem_tup (pam_cons pem_int pam_nil)) (pam_cons (pem_tup (pam_cons pem_int (pam_cons pem_int pam_nil))) (pam_cons pem_non (pam_cons (pem_tup (pam_cons pem_int (pam_cons pem_bl pam_nil))) (pam_cons (pem_scope (pem_lst (pam_cons pem_int (pam_cons pem_int (pam_cons pem_int pam_nil))))) (pam_cons pem_int pam_nil)))))))) (pam_cons pem_str pam_nil))))))
    (pssm_cons (psm_set (i := 15) sc_u_law_refusals.nd rfl (Or.inl rfl) (pem_call (takes_of rfl rfl rfl rfl) (ok_u_law_couple_word T) (hr.mono (by decide)) rfl T.m_u_law_couple_word T.k_u_law_couple_word T.b_u_law_couple_word .nil (fun _ => .nil) rfl (pam_cons (pem_ix ix_seq sim_ix (pem_var (pv 8)) pem_int) (pam_cons (pem_ix ix_seq sim_ix (pem_var (pv 9)) pem_int) (pam_cons (pem_ix ix_seq sim_ix (pem_var (pv 11)) pem_int) (pam_cons (pem_ix ix_seq sim_ix (pem_var (pv 12)) pem_int) (pam_cons (pem_ix ix_seq sim_ix (pem_var (pv 13)) pem_int) (pam_cons (pem_ix ix_seq sim_ix (pem_var (pv 14)) pem_int) pam_nil))))))))
    (pssm_one (psm_ret (pem_cmp (op_eqD hr.units) sim_eq (pem_var (pv 15)) (pem_call (takes_of rfl rfl rfl rfl) (ok_u_law_first T) (hr.mono (by decide)) rfl T.m_u_law_first T.k_u_law_first T.b_u_law_first .nil (fun _ => .nil) rfl (pam_cons (pem_scope (pem_lst (pam_cons (pem_ix ix_seq sim_ix (pem_var (pv 8)) pem_int) (pam_cons (pem_ix ix_seq sim_ix (pem_var (pv 9)) pem_int) (pam_cons (pem_ix ix_seq sim_ix (pem_var (pv 11)) pem_int) (pam_cons (pem_ix ix_seq sim_ix (pem_var (pv 12)) pem_int) (pam_cons (pem_ix ix_seq sim_ix (pem_var (pv 13)) pem_int) (pam_cons (pem_ix ix_seq sim_ix (pem_var (pv 14)) pem_int) pam_nil)))))))) pam_nil)) (nomark _)))))))))))))))))
theorem sc_law : FnScope (["_law_script", "_law_hand_here", "_law_turn", "_law_names", "_law_lives", "_law_pairs"] : List Str) (["_law_script"] : List Str) (defScope s_law) := ⟨rfl, rfl, rfl, by decide +kernel, rfl, by decide +kernel, by decide +kernel⟩
theorem ok_law (T : Txt K mg a) : FnOk PW w K mg base (L2.CX PW w) 8 a.f_law a.d_law (["_law_script"] : List Str) (spOf (tb w K a) 1 m_law) :=
  fund_okm T.F_law sc_law fun cdv A outer s H E hr =>
    (pssm_cons (psm_set (i := 1) sc_law.nd rfl (Or.inl rfl) (pem_call (takes_of rfl rfl rfl rfl) (ok_u_law_hand T) (hr.mono (by decide)) rfl T.m_u_law_hand T.k_u_law_hand T.b_u_law_hand .nil (fun _ => .nil) rfl (pam_cons (pem_var (pv 0)) pam_nil)))
    (pssm_cons (psm_for (passes_of rfl) rfl (pim_range1 rfl T.z_range (pam_cons pem_int pam_nil)) (pgm_name (pg_name (i := 2) sc_law.nd rfl (Or.inl rfl))) (pssm_cons (psm_set (i := 3) sc_law.nd rfl (Or.inl rfl) (pem_call (takes_of rfl rfl rfl rfl) (ok_u_law_entries T) (hr.mono (by decide)) rfl T.m_u_law_entries T.k_u_law_entries T.b_u_law_entries .nil (fun _ => .nil) rfl (pam_cons (pem_var (pv 1)) pam_nil)))
    (pssm_cons (psm_set (i := 4) sc_law.nd rfl (Or.inl rfl) (pem_call (takes_of rfl rfl rfl rfl) (ok_u_law_drawn_lives T) (hr.mono (by decide)) rfl T.m_u_law_drawn_lives T.k_u_law_drawn_lives T.b_u_law_drawn_lives .nil (fun _ => .nil) rfl (pam_cons (pem_var (pv 1)) pam_nil)))
    (pssm_cons (psm_set (i := 5) sc_law.nd rfl (Or.inl rfl) (pem_call (takes_of rfl rfl rfl rfl) (ok_u_law_drawn_marks T) (hr.mono (by decide)) rfl T.m_u_law_drawn_marks T.k_u_law_drawn_marks T.b_u_law_drawn_marks .nil (fun _ => .nil) rfl (pam_cons (pem_var (pv 1)) (pam_cons (pem_call (takes_of rfl rfl rfl rfl) (ok_u_law_many T) (hr.mono (by decide)) rfl T.m_u_law_many T.k_u_law_many T.b_u_law_many .nil (fun _ => .nil) rfl (pam_cons (pem_var (pv 3)) pam_nil)) pam_nil))))
    (pssm_cons (psm_if (ptm_not (ptm_tru rfl (pem_call (takes_of rfl rfl rfl rfl) (ok_u_law_person_right T) (hr.mono (by decide)) rfl T.m_u_law_person_right T.k_u_law_person_right T.b_u_law_person_right .nil (fun _ => .nil) rfl (pam_cons (pem_var (pv 1)) (pam_cons (pem_var (pv 3)) (pam_cons (pem_var (pv 4)) pam_nil)))))) (pssm_one (psm_ret pem_bl)) pssm_nil)
    (pssm_cons (psm_if (ptm_not (ptm_tru rfl (pem_call (takes_of rfl rfl rfl rfl) (ok_u_law_couple_right T) (hr.mono (by decide)) rfl T.m_u_law_couple_right T.k_u_law_couple_right T.b_u_law_couple_right .nil (fun _ => .nil) rfl (pam_cons (pem_var (pv 3)) (pam_cons (pem_var (pv 4)) (pam_cons (pem_call (takes_of rfl rfl rfl rfl) (ok_u_law_draw T) (hr.mono (by decide)) rfl T.m_u_law_draw T.k_u_law_draw T.b_u_law_draw .nil (fun _ => .nil) rfl (pam_cons (pem_var (pv 1)) (pam_cons pem_int pam_nil))) (pam_cons (pem_call (takes_of rfl rfl rfl rfl) (ok_u_law_draw T) (hr.mono (by decide)) rfl T.m_u_law_draw T.k_u_law_draw T.b_u_law_draw .nil (fun _ => .nil) rfl (pam_cons (pem_var (pv 1)) (pam_cons pem_int pam_nil))) (pam_cons (pem_var (pv 5)) pam_nil)))))))) (pssm_one (psm_ret pem_bl)) pssm_nil)
    (pssm_one (psm_if (ptm_not (ptm_tru rfl (pem_call (takes_of rfl rfl rfl rfl) (ok_u_law_refusals T) (hr.mono (by decide)) rfl T.m_u_law_refusals T.k_u_law_refusals T.b_u_law_refusals .nil (fun _ => .nil) rfl (pam_cons (pem_var (pv 1)) (pam_cons (pem_var (pv 3)) (pam_cons (pem_var (pv 4)) (pam_cons (pem_var (pv 5)) pam_nil))))))) (pssm_one (psm_ret pem_bl)) pssm_nil))))))))
    (pssm_one (psm_ret (pem_and (pem_call (takes_of rfl rfl rfl rfl) (ok_u_law_person_right T) (hr.mono (by decide)) rfl T.m_u_law_person_right T.k_u_law_person_right T.b_u_law_person_right .nil (fun _ => .nil) rfl (pam_cons (pem_var (pv 1)) (pam_cons (pem_scope (pem_lst pam_nil)) (pam_cons (pem_scope (pem_lst pam_nil)) pam_nil)))) (pem_one (pem_call (takes_of rfl rfl rfl rfl) (ok_u_law_couple_right T) (hr.mono (by decide)) rfl T.m_u_law_couple_right T.k_u_law_couple_right T.b_u_law_couple_right .nil (fun _ => .nil) rfl (pam_cons (pem_scope (pem_lst (pam_cons pem_non pam_nil))) (pam_cons (pem_scope (pem_lst pam_nil)) (pam_cons pem_int (pam_cons pem_int (pam_cons (pem_scope (pem_lst pam_nil)) pam_nil))))))))))))
end
end G

set_option Elab.async false
set_option linter.all false
set_option maxRecDepth 100000
set_option maxHeartbeats 2000000
/-! Q35a: the hand and the draws. -/
namespace G
open PySem L2 NK
theorem eqv_ii (i j : Int) : eqvU (.int i) (.int j) = (i == j) := by simp [eqvU, datU, PyData.eqv]
theorem ok_int (i : Int) : okU 12 (.int i) = true := rfl
theorem ok_non : okU 12 .non = true := rfl
theorem ok_bl (b : Bool) : okU 12 (.bl b) = true := rfl
theorem fEq_ii (i j : Int) (st : Sto) : fEq (.int i) (.int j) st = .ok (.bl (i == j)) st := by rw [fEq_ok (ok_int i) (ok_int j), eqv_ii]
theorem fNe_ii (i j : Int) (st : Sto) : fNe (.int i) (.int j) st = .ok (.bl (!(i == j))) st := by rw [fNe_ok (ok_int i) (ok_int j), eqv_ii]
theorem pow18 (st : Sto) : fPow (.int 10) (.int 18) st = .ok (.int 1000000000000000000) st := by
  show (if cPow 10 18 = true then Out.ok (U.int ((10 : Int) ^ (18 : Int).toNat)) st else .bad) = _
  rw [if_pos (by decide)]
  rfl
theorem mix_ok (n t : Int) (st : Sto) : ∃ k, m_u_law_mix [.int n, .int t] st = .ok (.int k) st := by
  have h1 : ∀ x : Int, 0 ≤ x % 2147483647 ∧ x % 2147483647 < 2147483647 := fun x => ⟨Int.emod_nonneg _ (by decide), Int.emod_lt_of_pos _ (by decide)⟩
  have h2 : ∀ x : Int, 0 ≤ x % 2147483399 ∧ x % 2147483399 < 2147483399 := fun x => ⟨Int.emod_nonneg _ (by decide), Int.emod_lt_of_pos _ (by decide)⟩
  suffices h : ∃ k, b_u_law_mix [some (.int n), some (.int t), none, none] st = .ret (.int k) st from let ⟨k, e⟩ := h; ⟨k, fs_same rfl e rfl⟩
  unfold b_u_law_mix
  simp only [sSeq, sIf, sAsg, sRet, sDrop, sSetIx, sNext, sCont, NK.tAnd, NK.tOr, NK.tNot, NK.tTru, NK.tB, eOp, eUn, eCB, eIf, eAnd, eOr, eNot, eVar, eC, aCons, aNil, gN, ob, xb, NK.os, NK.xs, nb, rb, kb, eb, List.getElem?_cons_zero, List.getElem?_cons_succ, List.set_cons_zero, List.set_cons_succ, ↓reduceIte, Bool.false_eq_true, Bool.not_true, Bool.not_false, fAdd_i, fSub_i, fNeg_i, fInt_i, fAbs_i, fLt_i, fLe_i, fGt_i, fMin_i, fIsN_n, fNotN_n, fLen_lst, fLen_tup, fTuple_lst, fTuple_tup, U.isNon, truth, fMod_i, fDiv_i, fMul_i, Int.reduceLT, Int.reduceNeg, Int.reducePow, Int.reduceLE, or_true, true_or, and_self, and_true, true_and, eCall, List.append_nil, List.length_cons, List.length_nil, Nat.reduceAdd, Nat.zero_add]
  generalize he : (n * 48271 + t * 16807 + 11) % 2147483647 = e
  have b1 := h1 (n * 48271 + t * 16807 + 11)
  rw [he] at b1
  have c1 : -18446744073709551616 < e ∧ e < 18446744073709551616 := ⟨by omega, by omega⟩
  simp only [sSeq, sIf, sAsg, sRet, sDrop, sSetIx, sNext, sCont, NK.tAnd, NK.tOr, NK.tNot, NK.tTru, NK.tB, eOp, eUn, eCB, eIf, eAnd, eOr, eNot, eVar, eC, aCons, aNil, gN, ob, xb, NK.os, NK.xs, nb, rb, kb, eb, List.getElem?_cons_zero, List.getElem?_cons_succ, List.set_cons_zero, List.set_cons_succ, ↓reduceIte, Bool.false_eq_true, Bool.not_true, Bool.not_false, fAdd_i, fSub_i, fNeg_i, fInt_i, fAbs_i, fLt_i, fLe_i, fGt_i, fMin_i, fIsN_n, fNotN_n, fLen_lst, fLen_tup, fTuple_lst, fTuple_tup, U.isNon, truth, fMod_i, fDiv_i, fMul_i, Int.reduceLT, Int.reduceNeg, Int.reducePow, Int.reduceLE, or_true, true_or, and_self, and_true, true_and, eCall, List.append_nil, List.length_cons, List.length_nil, Nat.reduceAdd, Nat.zero_add, c1]
  generalize hf : (e * e + e / 127 * 40692 + t * 69621) % 2147483399 = f
  have b2 := h2 (e * e + e / 127 * 40692 + t * 69621)
  rw [hf] at b2
  have c2 : -18446744073709551616 < f ∧ f < 18446744073709551616 := ⟨by omega, by omega⟩
  simp only [sSeq, sIf, sAsg, sRet, sDrop, sSetIx, sNext, sCont, NK.tAnd, NK.tOr, NK.tNot, NK.tTru, NK.tB, eOp, eUn, eCB, eIf, eAnd, eOr, eNot, eVar, eC, aCons, aNil, gN, ob, xb, NK.os, NK.xs, nb, rb, kb, eb, List.getElem?_cons_zero, List.getElem?_cons_succ, List.set_cons_zero, List.set_cons_succ, ↓reduceIte, Bool.false_eq_true, Bool.not_true, Bool.not_false, fAdd_i, fSub_i, fNeg_i, fInt_i, fAbs_i, fLt_i, fLe_i, fGt_i, fMin_i, fIsN_n, fNotN_n, fLen_lst, fLen_tup, fTuple_lst, fTuple_tup, U.isNon, truth, fMod_i, fDiv_i, fMul_i, Int.reduceLT, Int.reduceNeg, Int.reducePow, Int.reduceLE, or_true, true_or, and_self, and_true, true_and, eCall, List.append_nil, List.length_cons, List.length_nil, Nat.reduceAdd, Nat.zero_add, c2]
  exact ⟨_, rfl⟩

/-- the hand -/
def hob (cs : List Int) (i r t : Int) : Ob := .lst [.lst (cs.map U.int), .int i, .int r, .int t]
def HOb (o : Ob) : Prop := ∃ cs i r t, o = hob cs i r t ∧ 0 ≤ i ∧ 0 ≤ r
theorem ints_under : ∀ cs : List Int, U.underL 0 (cs.map U.int) = true
  | [] => rfl
  | c :: cs => by
    show U.underL 0 (U.int c :: cs.map U.int) = true
    unfold U.underL
    rw [ints_under cs]
    rfl
theorem HOb.under {o : Ob} (h : HOb o) : o.under 0 = true := by
  obtain ⟨cs, i, r, t, rfl, _, _⟩ := h
  show U.underL 0 [.lst (cs.map U.int), .int i, .int r, .int t] = true
  simp [U.underL, U.under, ints_under cs]
section
variable {cs : List Int} {i r t : Int} {st : Sto}
theorem ix0 : fIx (.loc 0) (.int 0) (hob cs i r t :: st) = .ok (.lst (cs.map U.int)) (hob cs i r t :: st) := rfl
theorem ix1 : fIx (.loc 0) (.int 1) (hob cs i r t :: st) = .ok (.int i) (hob cs i r t :: st) := rfl
theorem ix2 : fIx (.loc 0) (.int 2) (hob cs i r t :: st) = .ok (.int r) (hob cs i r t :: st) := rfl
theorem ix3 : fIx (.loc 0) (.int 3) (hob cs i r t :: st) = .ok (.int t) (hob cs i r t :: st) := rfl
theorem set1 {x : Int} : setIx (.loc 0) (.int 1) (.int x) (hob cs i r t :: st) = some (hob cs x r t :: st) := rfl
theorem set2 {x : Int} : setIx (.loc 0) (.int 2) (.int x) (hob cs i r t :: st) = some (hob cs i x t :: st) := rfl
theorem set3 {x : Int} : setIx (.loc 0) (.int 3) (.int x) (hob cs i r t :: st) = some (hob cs i r x :: st) := rfl
theorem cell_at (h0 : 0 ≤ i) (h1 : i < cs.length) : ∃ c : Int, fIx (.lst (cs.map U.int)) (.int i) st = .ok (.int c) st := by
  obtain ⟨k, rfl⟩ := Int.eq_ofNat_of_zero_le h0
  have hk : k < cs.length := by omega
  refine ⟨cs[k], fIx_lst ?_⟩
  rw [NK.atI_nat]
  simp [hk]
end
/-- what a def does with the hand: it answers d -/
theorem draw_ok {h : Ob} {st : Sto} {m : Int} (H : HOb h) (hm : 0 < m) (hm2 : m < 1000000000000000000000000000000000000000000000000000000000000) : ∃ d h', HOb h' ∧ 0 ≤ d ∧ d < m ∧ m_u_law_draw [.loc 0, .int m] (h :: st) = .ok (.int d) (h' :: st) := by
  obtain ⟨cs, i, r, t, rfl, hi, hr⟩ := H
  have fin : ∀ {d : Int} {o : Ob}, HOb o → b_u_law_draw [some (.loc 0), some (.int m), none, none] (hob cs i r t :: st) = .ret (.int (d % m)) (o :: st) → ∃ d h', HOb h' ∧ 0 ≤ d ∧ d < m ∧ m_u_law_draw [.loc 0, .int m] (hob cs i r t :: st) = .ok (.int d) (h' :: st) := fun {d o} ho e =>
    ⟨d % m, o, ho, Int.emod_nonneg _ (by omega), Int.emod_lt_of_pos _ hm, fs_old rfl e (Old.hand ho.under) rfl⟩
  have hlen : ((cs.map U.int).length : Int) = cs.length := by simp
  -- the second half: r is above 0
  have big : ∀ (i r : Int) (e2 e3 : Option U), 0 ≤ i → 0 < r → (sSeq (sIf (NK.tB (eOp fGt (eOp fIx (eVar 0) (eC (.int 2))) (eC (.int 0)))) (sSeq (sAsg (eOp fIx (eVar 0) (eC (.int 2))) (gN 3))
    (sSeq (sSetIx (eVar 0) (eC (.int 2)) (eOp fDiv (eVar 3) (eVar 1)))
    (sRet (eOp fMod (eCB fInt (aCons (eVar 3) aNil)) (eVar 1))))) sNext)
    (sSeq (sSetIx (eVar 0) (eC (.int 3)) (eOp fMod (eCB fInt (aCons (eOp fAdd (eOp fIx (eVar 0) (eC (.int 3))) (eC (.int 1))) aNil)) (eC (.int 2147483629))))
    (sRet (eOp fMod (eCB fInt (aCons (eCall 2 m_u_law_mix [] (aCons (eOp fIx (eVar 0) (eC (.int 3))) (aCons (eOp fIx (eVar 0) (eC (.int 1))) aNil))) aNil)) (eVar 1))))) [some (.loc 0), some (.int m), e2, e3] (hob cs i r t :: st) = .ret (.int (r % m)) (hob cs i (r / m) t :: st) := by
    intro i r e2 e3 h0 h1
    simp only [sSeq, sIf, sAsg, sRet, sDrop, sSetIx, sNext, sCont, NK.tAnd, NK.tOr, NK.tNot, NK.tTru, NK.tB, eOp, eUn, eCB, eIf, eAnd, eOr, eNot, eVar, eC, aCons, aNil, gN, ob, xb, NK.os, NK.xs, nb, rb, kb, eb, List.getElem?_cons_zero, List.getElem?_cons_succ, List.set_cons_zero, List.set_cons_succ, ↓reduceIte, Bool.false_eq_true, Bool.not_true, Bool.not_false, fAdd_i, fSub_i, fNeg_i, fInt_i, fAbs_i, fLt_i, fLe_i, fGt_i, fMin_i, fIsN_n, fNotN_n, fLen_lst, fLen_tup, fTuple_lst, fTuple_tup, U.isNon, truth, fMod_i, fDiv_i, fMul_i, Int.reduceLT, Int.reduceNeg, Int.reducePow, Int.reduceLE, or_true, true_or, and_self, and_true, true_and, eCall, List.append_nil, List.length_cons, List.length_nil, Nat.reduceAdd, Nat.zero_add, hm, hm2, ix2, decide_eq_true h1, set2]
  by_cases hr0 : r = 0
  · subst hr0
    by_cases hl : i < cs.length
    · obtain ⟨c, hc⟩ := cell_at (st := hob cs i 0 t :: st) hi hl
      by_cases hb : c < 1000000000000000000
      · obtain ⟨k, hk⟩ := mix_ok (c % 2147483647) (i + 1) (hob cs (i + 1) 0 t :: st)
        refine fin (d := k) (o := hob cs (i + 1) 0 t) ⟨_, _, _, _, rfl, by omega, by omega⟩ ?_
        unfold b_u_law_draw
        simp only [sSeq, sIf, sAsg, sRet, sDrop, sSetIx, sNext, sCont, NK.tAnd, NK.tOr, NK.tNot, NK.tTru, NK.tB, eOp, eUn, eCB, eIf, eAnd, eOr, eNot, eVar, eC, aCons, aNil, gN, ob, xb, NK.os, NK.xs, nb, rb, kb, eb, List.getElem?_cons_zero, List.getElem?_cons_succ, List.set_cons_zero, List.set_cons_succ, ↓reduceIte, Bool.false_eq_true, Bool.not_true, Bool.not_false, fAdd_i, fSub_i, fNeg_i, fInt_i, fAbs_i, fLt_i, fLe_i, fGt_i, fMin_i, fIsN_n, fNotN_n, fLen_lst, fLen_tup, fTuple_lst, fTuple_tup, U.isNon, truth, fMod_i, fDiv_i, fMul_i, Int.reduceLT, Int.reduceNeg, Int.reducePow, Int.reduceLE, or_true, true_or, and_self, and_true, true_and, eCall, List.append_nil, List.length_cons, List.length_nil, Nat.reduceAdd, Nat.zero_add, hm, hm2, ix0, ix1, ix2, fEq_ii, beq_self_eq_true, hlen, decide_eq_true hl, hc, set1, pow18, decide_eq_true hb, hk]
      · refine fin (d := c) (o := hob cs (i + 1) (c / m) t) ⟨_, _, _, _, rfl, by omega, Int.ediv_nonneg (by omega) (by omega)⟩ ?_
        have hb2 : decide (c < 1000000000000000000) = false := decide_eq_false hb
        have bg := big (i + 1) c (some (.int c)) none (by omega) (by omega)
        unfold b_u_law_draw
        show SO.bind _ _ = _
        rw [show (sIf (NK.tAnd (NK.tB (eOp fEq (eOp fIx (eVar 0) (eC (.int 2))) (eC (.int 0)))) (NK.tB (eOp fLt (eOp fIx (eVar 0) (eC (.int 1))) (eCB fLen (aCons (eOp fIx (eVar 0) (eC (.int 0))) aNil))))) (sSeq (sAsg (eOp fIx (eOp fIx (eVar 0) (eC (.int 0))) (eOp fIx (eVar 0) (eC (.int 1)))) (gN 2))
    (sSeq (sSetIx (eVar 0) (eC (.int 1)) (eOp fAdd (eOp fIx (eVar 0) (eC (.int 1))) (eC (.int 1))))
    (sSeq (sIf (NK.tB (eOp fLt (eVar 2) (eOp fPow (eC (.int 10)) (eC (.int 18))))) (sRet (eOp fMod (eCB fInt (aCons (eCall 2 m_u_law_mix [] (aCons (eOp fMod (eCB fInt (aCons (eVar 2) aNil)) (eC (.int 2147483647))) (aCons (eOp fIx (eVar 0) (eC (.int 1))) aNil))) aNil)) (eVar 1))) sNext)
    (sSetIx (eVar 0) (eC (.int 2)) (eVar 2))))) sNext) [some (.loc 0), some (.int m), none, none] (hob cs i 0 t :: st) = .next [some (.loc 0), some (.int m), some (.int c), none] (hob cs (i + 1) c t :: st) from by
          simp only [sSeq, sIf, sAsg, sRet, sDrop, sSetIx, sNext, sCont, NK.tAnd, NK.tOr, NK.tNot, NK.tTru, NK.tB, eOp, eUn, eCB, eIf, eAnd, eOr, eNot, eVar, eC, aCons, aNil, gN, ob, xb, NK.os, NK.xs, nb, rb, kb, eb, List.getElem?_cons_zero, List.getElem?_cons_succ, List.set_cons_zero, List.set_cons_succ, ↓reduceIte, Bool.false_eq_true, Bool.not_true, Bool.not_false, fAdd_i, fSub_i, fNeg_i, fInt_i, fAbs_i, fLt_i, fLe_i, fGt_i, fMin_i, fIsN_n, fNotN_n, fLen_lst, fLen_tup, fTuple_lst, fTuple_tup, U.isNon, truth, fMod_i, fDiv_i, fMul_i, Int.reduceLT, Int.reduceNeg, Int.reducePow, Int.reduceLE, or_true, true_or, and_self, and_true, true_and, eCall, List.append_nil, List.length_cons, List.length_nil, Nat.reduceAdd, Nat.zero_add, ix0, ix1, ix2, fEq_ii, beq_self_eq_true, hlen, decide_eq_true hl, hc, set1, pow18, hb2, set2]]
        exact bg
    · have hl2 : decide (i < (cs.length : Int)) = false := decide_eq_false hl
      obtain ⟨k, hk⟩ := mix_ok ((t + 1) % 2147483629) i (hob cs i 0 ((t + 1) % 2147483629) :: st)
      refine fin (d := k) (o := hob cs i 0 ((t + 1) % 2147483629)) ⟨_, _, _, _, rfl, hi, by omega⟩ ?_
      unfold b_u_law_draw
      simp only [sSeq, sIf, sAsg, sRet, sDrop, sSetIx, sNext, sCont, NK.tAnd, NK.tOr, NK.tNot, NK.tTru, NK.tB, eOp, eUn, eCB, eIf, eAnd, eOr, eNot, eVar, eC, aCons, aNil, gN, ob, xb, NK.os, NK.xs, nb, rb, kb, eb, List.getElem?_cons_zero, List.getElem?_cons_succ, List.set_cons_zero, List.set_cons_succ, ↓reduceIte, Bool.false_eq_true, Bool.not_true, Bool.not_false, fAdd_i, fSub_i, fNeg_i, fInt_i, fAbs_i, fLt_i, fLe_i, fGt_i, fMin_i, fIsN_n, fNotN_n, fLen_lst, fLen_tup, fTuple_lst, fTuple_tup, U.isNon, truth, fMod_i, fDiv_i, fMul_i, Int.reduceLT, Int.reduceNeg, Int.reducePow, Int.reduceLE, or_true, true_or, and_self, and_true, true_and, eCall, List.append_nil, List.length_cons, List.length_nil, Nat.reduceAdd, Nat.zero_add, hm, hm2, ix0, ix1, ix2, ix3, fEq_ii, beq_self_eq_true, hlen, hl2, Int.lt_irrefl, decide_false, set3, hk]
  · have hr1 : 0 < r := by omega
    refine fin (d := r) (o := hob cs i (r / m) t) ⟨_, _, _, _, rfl, hi, Int.ediv_nonneg hr (by omega)⟩ ?_
    have bg := big i r none none hi hr1
    have hz : (r == 0) = false := by simpa using hr0
    unfold b_u_law_draw
    show SO.bind _ _ = _
    rw [show (sIf (NK.tAnd (NK.tB (eOp fEq (eOp fIx (eVar 0) (eC (.int 2))) (eC (.int 0)))) (NK.tB (eOp fLt (eOp fIx (eVar 0) (eC (.int 1))) (eCB fLen (aCons (eOp fIx (eVar 0) (eC (.int 0))) aNil))))) (sSeq (sAsg (eOp fIx (eOp fIx (eVar 0) (eC (.int 0))) (eOp fIx (eVar 0) (eC (.int 1)))) (gN 2))
    (sSeq (sSetIx (eVar 0) (eC (.int 1)) (eOp fAdd (eOp fIx (eVar 0) (eC (.int 1))) (eC (.int 1))))
    (sSeq (sIf (NK.tB (eOp fLt (eVar 2) (eOp fPow (eC (.int 10)) (eC (.int 18))))) (sRet (eOp fMod (eCB fInt (aCons (eCall 2 m_u_law_mix [] (aCons (eOp fMod (eCB fInt (aCons (eVar 2) aNil)) (eC (.int 2147483647))) (aCons (eOp fIx (eVar 0) (eC (.int 1))) aNil))) aNil)) (eVar 1))) sNext)
    (sSetIx (eVar 0) (eC (.int 2)) (eVar 2))))) sNext) [some (.loc 0), some (.int m), none, none] (hob cs i r t :: st) = .next [some (.loc 0), some (.int m), none, none] (hob cs i r t :: st) from by
      simp only [sSeq, sIf, sAsg, sRet, sDrop, sSetIx, sNext, sCont, NK.tAnd, NK.tOr, NK.tNot, NK.tTru, NK.tB, eOp, eUn, eCB, eIf, eAnd, eOr, eNot, eVar, eC, aCons, aNil, gN, ob, xb, NK.os, NK.xs, nb, rb, kb, eb, List.getElem?_cons_zero, List.getElem?_cons_succ, List.set_cons_zero, List.set_cons_succ, ↓reduceIte, Bool.false_eq_true, Bool.not_true, Bool.not_false, fAdd_i, fSub_i, fNeg_i, fInt_i, fAbs_i, fLt_i, fLe_i, fGt_i, fMin_i, fIsN_n, fNotN_n, fLen_lst, fLen_tup, fTuple_lst, fTuple_tup, U.isNon, truth, fMod_i, fDiv_i, fMul_i, Int.reduceLT, Int.reduceNeg, Int.reducePow, Int.reduceLE, or_true, true_or, and_self, and_true, true_and, eCall, List.append_nil, List.length_cons, List.length_nil, Nat.reduceAdd, Nat.zero_add, ix2, fEq_ii, hz]]
    exact bg
end G

set_option Elab.async false
set_option linter.all false
set_option maxRecDepth 100000
set_option maxHeartbeats 2000000
/-! Q35b: picks, the hand made, the plain judges. -/
namespace G
open PySem L2 NK
theorem pick_ok {h : Ob} {st : Sto} {us : List U} (H : HOb h) (hne : us ≠ []) (hl : us.length ≤ 1000) (hu : U.underL 0 us = true) : ∃ u h', u ∈ us ∧ HOb h' ∧ m_u_law_pick [.loc 0, .lst us] (h :: st) = .ok u (h' :: st) := by
  have hpos : 0 < us.length := List.length_pos_iff.mpr hne
  obtain ⟨d, h', H', d0, d1, e⟩ := draw_ok (st := st) (m := (us.length : Int)) H (by omega) (by omega)
  obtain ⟨k, rfl⟩ := Int.eq_ofNat_of_zero_le d0
  have hk : k < us.length := by omega
  have hx : fIx (.lst us) (.int (k : Int)) (h' :: st) = .ok us[k] (h' :: st) := fIx_lst (by rw [NK.atI_nat]; simp [hk])
  refine ⟨us[k], h', List.getElem_mem hk, H', fs_old (env := [some (.loc 0), some (.lst us)]) rfl ?_ (Old.hand H'.under) (underL_mem hu (List.getElem_mem hk))⟩
  unfold b_u_law_pick
  simp only [sSeq, sIf, sAsg, sRet, sDrop, sSetIx, sNext, sCont, NK.tAnd, NK.tOr, NK.tNot, NK.tTru, NK.tB, eOp, eUn, eCB, eIf, eAnd, eOr, eNot, eVar, eC, aCons, aNil, gN, ob, xb, NK.os, NK.xs, nb, rb, kb, eb, List.getElem?_cons_zero, List.getElem?_cons_succ, List.set_cons_zero, List.set_cons_succ, ↓reduceIte, Bool.false_eq_true, Bool.not_true, Bool.not_false, fAdd_i, fSub_i, fNeg_i, fInt_i, fAbs_i, fLt_i, fLe_i, fGt_i, fMin_i, fIsN_n, fNotN_n, fLen_lst, fLen_tup, fTuple_lst, fTuple_tup, U.isNon, truth, fMod_i, fDiv_i, fMul_i, Int.reduceLT, Int.reduceNeg, Int.reducePow, Int.reduceLE, or_true, true_or, and_self, and_true, true_and, eCall, List.append_nil, List.length_cons, List.length_nil, Nat.reduceAdd, Nat.zero_add, e, hx]
def absU : U → U | .int i => .int (if i < 0 then -i else i) | u => u
theorem filter_all (l : List U) : l.filter (fun _ => true) = l := List.filter_eq_self.mpr fun _ _ => rfl
theorem abs_map (ns : List Int) : ((ns.map U.int).filter fun _ => true).map absU = (ns.map fun i => if i < 0 then -i else i).map U.int := by
  rw [filter_all, List.map_map, List.map_map]
  rfl
/-- the hand is made -/
theorem hand_ok (ns : List Int) (hl : ns.length ≤ 63) : ∃ h, HOb h ∧ m_u_law_hand [.scr (ns.map U.int)] [] = .ok (.loc 0) [h] := by
  have loop : ∀ (ns : List Int) (k : Nat) (s : Option U) (t : Int) (e2 e3 : Option U), k + ns.length ≤ 1000 → ∃ t' e2' e3', forM (fun _ => True) (gT [2, 3]) l_u_law_hand_1
      (enumFrom k (ns.map U.int)) [s, some (.int t), e2, e3] [] = .next [s, some (.int t'), e2', e3'] [] := by
    intro ns
    induction ns with
    | nil => intro k s t e2 e3 _; exact ⟨t, e2, e3, forM_nil True.intro⟩
    | cons n ns ih =>
      intro k s t e2 e3 hk
      simp only [List.length_cons] at hk
      obtain ⟨t', e2', e3', h⟩ := ih (k + 1) s ((t * 31 + n * ((k : Int) + 7)) % 2147483629) (some (.int (k : Int))) (some (.int n)) (by omega)
      refine ⟨t', e2', e3', Eq.trans (forM_n (env1 := [s, some (.int t), some (.int (k : Int)), some (.int n)]) True.intro rfl ?_) h⟩
      have c : -18446744073709551616 < (k : Int) + 7 ∧ (k : Int) + 7 < 18446744073709551616 := ⟨by omega, by omega⟩
      unfold l_u_law_hand_1
      simp only [sSeq, sIf, sAsg, sRet, sDrop, sSetIx, sNext, sCont, NK.tAnd, NK.tOr, NK.tNot, NK.tTru, NK.tB, eOp, eUn, eCB, eIf, eAnd, eOr, eNot, eVar, eC, aCons, aNil, gN, ob, xb, NK.os, NK.xs, nb, rb, kb, eb, List.getElem?_cons_zero, List.getElem?_cons_succ, List.set_cons_zero, List.set_cons_succ, ↓reduceIte, Bool.false_eq_true, Bool.not_true, Bool.not_false, fAdd_i, fSub_i, fNeg_i, fInt_i, fAbs_i, fLt_i, fLe_i, fGt_i, fMin_i, fIsN_n, fNotN_n, fLen_lst, fLen_tup, fTuple_lst, fTuple_tup, U.isNon, truth, fMod_i, fDiv_i, fMul_i, Int.reduceLT, Int.reduceNeg, Int.reducePow, Int.reduceLE, or_true, true_or, and_self, and_true, true_and, eCall, List.append_nil, List.length_cons, List.length_nil, Nat.reduceAdd, Nat.zero_add, c]
  obtain ⟨t', e2', e3', hloop⟩ := loop ns 0 (some (.scr (ns.map U.int))) 0 none none (by omega)
  have hc := comp_scope (i := 3) (mt := NK.tYes) (me := eCB fAbs (aCons (eCB fInt (aCons (eVar 3) aNil)) aNil)) (mi := iSeq (eVar 0)) (env := [some (.scr (ns.map U.int)), some (.int t'), e2', e3']) (st := []) (g := fun _ => True)
    absU (fun _ => true) (us := ns.map U.int) (by simp only [iSeq, sSeq, sIf, sAsg, sRet, sDrop, sSetIx, sNext, sCont, NK.tAnd, NK.tOr, NK.tNot, NK.tTru, NK.tB, eOp, eUn, eCB, eIf, eAnd, eOr, eNot, eVar, eC, aCons, aNil, gN, ob, xb, NK.os, NK.xs, nb, rb, kb, eb, List.getElem?_cons_zero, List.getElem?_cons_succ, List.set_cons_zero, List.set_cons_succ, ↓reduceIte, Bool.false_eq_true, Bool.not_true, Bool.not_false, fAdd_i, fSub_i, fNeg_i, fInt_i, fAbs_i, fLt_i, fLe_i, fGt_i, fMin_i, fIsN_n, fNotN_n, fLen_lst, fLen_tup, fTuple_lst, fTuple_tup, U.isNon, truth, fMod_i, fDiv_i, fMul_i, Int.reduceLT, Int.reduceNeg, Int.reducePow, Int.reduceLE, or_true, true_or, and_self, and_true, true_and, eCall, List.append_nil, List.length_cons, List.length_nil, Nat.reduceAdd, Nat.zero_add, src]) (fun _ => True.intro) (by simp; omega)
    (fun u hu acc => by
      obtain ⟨n, _, rfl⟩ := List.mem_map.mp hu
      refine ⟨rfl, fun _ => ?_⟩
      simp only [sSeq, sIf, sAsg, sRet, sDrop, sSetIx, sNext, sCont, NK.tAnd, NK.tOr, NK.tNot, NK.tTru, NK.tB, eOp, eUn, eCB, eIf, eAnd, eOr, eNot, eVar, eC, aCons, aNil, gN, ob, xb, NK.os, NK.xs, nb, rb, kb, eb, List.getElem?_cons_zero, List.getElem?_cons_succ, List.set_cons_zero, List.set_cons_succ, ↓reduceIte, Bool.false_eq_true, Bool.not_true, Bool.not_false, fAdd_i, fSub_i, fNeg_i, fInt_i, fAbs_i, fLt_i, fLe_i, fGt_i, fMin_i, fIsN_n, fNotN_n, fLen_lst, fLen_tup, fTuple_lst, fTuple_tup, U.isNon, truth, fMod_i, fDiv_i, fMul_i, Int.reduceLT, Int.reduceNeg, Int.reducePow, Int.reduceLE, or_true, true_or, and_self, and_true, true_and, eCall, List.append_nil, List.length_cons, List.length_nil, Nat.reduceAdd, Nat.zero_add, absU]) (by
      refine underL_all fun u hu => ?_
      obtain ⟨w, hw, rfl⟩ := List.mem_map.mp hu
      obtain ⟨n, _, rfl⟩ := List.mem_map.mp (List.mem_filter.mp hw).1
      rfl)
  rw [abs_map] at hc
  refine ⟨hob (ns.map fun i => if i < 0 then -i else i) 0 0 t', ⟨_, _, _, _, rfl, by decide, by decide⟩, ?_⟩
  show runF 4 b_u_law_hand [.scr (ns.map U.int)] [] = _
  refine run_ret (env := [some (.scr (ns.map U.int)), none, none, none]) rfl ?_
  unfold b_u_law_hand
  simp only [sSeq, sIf, sAsg, sRet, sDrop, sSetIx, sNext, sCont, NK.tAnd, NK.tOr, NK.tNot, NK.tTru, NK.tB, eOp, eUn, eCB, eIf, eAnd, eOr, eNot, eVar, eC, aCons, aNil, gN, ob, xb, NK.os, NK.xs, nb, rb, kb, eb, List.getElem?_cons_zero, List.getElem?_cons_succ, List.set_cons_zero, List.set_cons_succ, ↓reduceIte, Bool.false_eq_true, Bool.not_true, Bool.not_false, fAdd_i, fSub_i, fNeg_i, fInt_i, fAbs_i, fLt_i, fLe_i, fGt_i, fMin_i, fIsN_n, fNotN_n, fLen_lst, fLen_tup, fTuple_lst, fTuple_tup, U.isNon, truth, fMod_i, fDiv_i, fMul_i, Int.reduceLT, Int.reduceNeg, Int.reducePow, Int.reduceLE, or_true, true_or, and_self, and_true, true_and, eCall, List.append_nil, List.length_cons, List.length_nil, Nat.reduceAdd, Nat.zero_add, sFor, iEnumA, hloop, hc, eLst, Nat.reduceLeDiff]
  rfl
/-! ### judges -/
theorem isa_int_none : isAny isl (.b .none) [.b .int] = some false := rfl
theorem isa_int_bool : isAny isl (.b .bool) [.b .int] = some true := rfl
theorem isa_int_int : isAny isl (.b .int) [.b .int] = some true := rfl
theorem isa_int_str : isAny isl (.b .str) [.b .int] = some false := rfl
theorem isa_int_tuple : isAny isl (.b .tuple) [.b .int] = some false := rfl
theorem isa_int_list : isAny isl (.b .list) [.b .int] = some false := rfl
theorem isa_bool_none : isAny isl (.b .none) [.b .bool] = some false := rfl
theorem isa_bool_bool : isAny isl (.b .bool) [.b .bool] = some true := rfl
theorem isa_bool_int : isAny isl (.b .int) [.b .bool] = some false := rfl
theorem isa_bool_str : isAny isl (.b .str) [.b .bool] = some false := rfl
theorem isa_bool_tuple : isAny isl (.b .tuple) [.b .bool] = some false := rfl
theorem isa_bool_list : isAny isl (.b .list) [.b .bool] = some false := rfl
theorem isa_str_none : isAny isl (.b .none) [.b .str] = some false := rfl
theorem isa_str_bool : isAny isl (.b .bool) [.b .str] = some false := rfl
theorem isa_str_int : isAny isl (.b .int) [.b .str] = some false := rfl
theorem isa_str_str : isAny isl (.b .str) [.b .str] = some true := rfl
theorem isa_str_tuple : isAny isl (.b .tuple) [.b .str] = some false := rfl
theorem isa_str_list : isAny isl (.b .list) [.b .str] = some false := rfl
theorem isa_seq_none : isAny isl (.b .none) [.b .list, .b .tuple] = some false := rfl
theorem isa_seq_bool : isAny isl (.b .bool) [.b .list, .b .tuple] = some false := rfl
theorem isa_seq_int : isAny isl (.b .int) [.b .list, .b .tuple] = some false := rfl
theorem isa_seq_str : isAny isl (.b .str) [.b .list, .b .tuple] = some false := rfl
theorem isa_seq_tuple : isAny isl (.b .tuple) [.b .list, .b .tuple] = some true := rfl
theorem isa_seq_list : isAny isl (.b .list) [.b .list, .b .tuple] = some true := rfl
theorem isa_tup_none : isAny isl (.b .none) [.b .tuple] = some false := rfl
theorem isa_tup_bool : isAny isl (.b .bool) [.b .tuple] = some false := rfl
theorem isa_tup_int : isAny isl (.b .int) [.b .tuple] = some false := rfl
theorem isa_tup_str : isAny isl (.b .str) [.b .tuple] = some false := rfl
theorem isa_tup_tuple : isAny isl (.b .tuple) [.b .tuple] = some true := rfl
theorem isa_tup_list : isAny isl (.b .list) [.b .tuple] = some false := rfl
theorem isa_o2_o : isAny isl (.o 2) [.o 2] = some true := rfl
theorem isa_o2_tuple : isAny isl (.b .tuple) [.o 2] = some false := rfl
theorem isa_o3_o : isAny isl (.o 3) [.o 3] = some true := rfl
theorem isa_o3_tuple : isAny isl (.b .tuple) [.o 3] = some false := rfl

/-- is_whole's answer -/
def isWh (u : U) (lo hi : Int) : Bool := match u with
  | .int i => decide (lo ≤ i) && decide (i ≤ hi)
  | _ => false
/-- what the laws put into the judges: plain things -/
def plain (u : U) : Bool := match u with
  | .non => true | .bl _ => true | .int _ => true | .str _ => true | .tup _ => true | .lst _ => true | _ => false
theorem whole_ok {u : U} {lo hi : Int} {st : Sto} (h : plain u = true) : m_is_whole [u, .int lo, .int hi] st = .ok (.bl (isWh u lo hi)) st := by
  refine fs_same (env := [some u, some (.int lo), some (.int hi)]) rfl ?_ rfl
  unfold b_is_whole
  cases u with
  | int i =>
    simp only [sSeq, sIf, sAsg, sRet, sDrop, sSetIx, sNext, sCont, NK.tAnd, NK.tOr, NK.tNot, NK.tTru, NK.tB, eOp, eUn, eCB, eIf, eAnd, eOr, eNot, eVar, eC, aCons, aNil, gN, ob, xb, NK.os, NK.xs, nb, rb, kb, eb, List.getElem?_cons_zero, List.getElem?_cons_succ, List.set_cons_zero, List.set_cons_succ, ↓reduceIte, Bool.false_eq_true, Bool.not_true, Bool.not_false, fAdd_i, fSub_i, fNeg_i, fInt_i, fAbs_i, fLt_i, fLe_i, fGt_i, fMin_i, fIsN_n, fNotN_n, fLen_lst, fLen_tup, fTuple_lst, fTuple_tup, U.isNon, truth, fMod_i, fDiv_i, fMul_i, Int.reduceLT, Int.reduceNeg, Int.reducePow, Int.reduceLE, or_true, true_or, and_self, and_true, true_and, eCall, List.append_nil, List.length_cons, List.length_nil, Nat.reduceAdd, Nat.zero_add, eIsi, trOf, isa_int_none, isa_int_bool, isa_int_int, isa_int_str, isa_int_tuple, isa_int_list, isa_bool_none, isa_bool_bool, isa_bool_int, isa_bool_str, isa_bool_tuple, isa_bool_list, isa_str_none, isa_str_bool, isa_str_int, isa_str_str, isa_str_tuple, isa_str_list, isa_seq_none, isa_seq_bool, isa_seq_int, isa_seq_str, isa_seq_tuple, isa_seq_list, isa_tup_none, isa_tup_bool, isa_tup_int, isa_tup_str, isa_tup_tuple, isa_tup_list, isa_o2_o, isa_o2_tuple, isa_o3_o, isa_o3_tuple, eChain]
    by_cases h1 : lo ≤ i
    · simp only [decide_eq_true h1, sSeq, sIf, sAsg, sRet, sDrop, sSetIx, sNext, sCont, NK.tAnd, NK.tOr, NK.tNot, NK.tTru, NK.tB, eOp, eUn, eCB, eIf, eAnd, eOr, eNot, eVar, eC, aCons, aNil, gN, ob, xb, NK.os, NK.xs, nb, rb, kb, eb, List.getElem?_cons_zero, List.getElem?_cons_succ, List.set_cons_zero, List.set_cons_succ, ↓reduceIte, Bool.false_eq_true, Bool.not_true, Bool.not_false, fAdd_i, fSub_i, fNeg_i, fInt_i, fAbs_i, fLt_i, fLe_i, fGt_i, fMin_i, fIsN_n, fNotN_n, fLen_lst, fLen_tup, fTuple_lst, fTuple_tup, U.isNon, truth, fMod_i, fDiv_i, fMul_i, Int.reduceLT, Int.reduceNeg, Int.reducePow, Int.reduceLE, or_true, true_or, and_self, and_true, true_and, eCall, List.append_nil, List.length_cons, List.length_nil, Nat.reduceAdd, Nat.zero_add, isWh, Bool.true_and]
    · simp only [decide_eq_false h1, sSeq, sIf, sAsg, sRet, sDrop, sSetIx, sNext, sCont, NK.tAnd, NK.tOr, NK.tNot, NK.tTru, NK.tB, eOp, eUn, eCB, eIf, eAnd, eOr, eNot, eVar, eC, aCons, aNil, gN, ob, xb, NK.os, NK.xs, nb, rb, kb, eb, List.getElem?_cons_zero, List.getElem?_cons_succ, List.set_cons_zero, List.set_cons_succ, ↓reduceIte, Bool.false_eq_true, Bool.not_true, Bool.not_false, fAdd_i, fSub_i, fNeg_i, fInt_i, fAbs_i, fLt_i, fLe_i, fGt_i, fMin_i, fIsN_n, fNotN_n, fLen_lst, fLen_tup, fTuple_lst, fTuple_tup, U.isNon, truth, fMod_i, fDiv_i, fMul_i, Int.reduceLT, Int.reduceNeg, Int.reducePow, Int.reduceLE, or_true, true_or, and_self, and_true, true_and, eCall, List.append_nil, List.length_cons, List.length_nil, Nat.reduceAdd, Nat.zero_add, isWh, Bool.false_and]
  | bl b => simp only [sSeq, sIf, sAsg, sRet, sDrop, sSetIx, sNext, sCont, NK.tAnd, NK.tOr, NK.tNot, NK.tTru, NK.tB, eOp, eUn, eCB, eIf, eAnd, eOr, eNot, eVar, eC, aCons, aNil, gN, ob, xb, NK.os, NK.xs, nb, rb, kb, eb, List.getElem?_cons_zero, List.getElem?_cons_succ, List.set_cons_zero, List.set_cons_succ, ↓reduceIte, Bool.false_eq_true, Bool.not_true, Bool.not_false, fAdd_i, fSub_i, fNeg_i, fInt_i, fAbs_i, fLt_i, fLe_i, fGt_i, fMin_i, fIsN_n, fNotN_n, fLen_lst, fLen_tup, fTuple_lst, fTuple_tup, U.isNon, truth, fMod_i, fDiv_i, fMul_i, Int.reduceLT, Int.reduceNeg, Int.reducePow, Int.reduceLE, or_true, true_or, and_self, and_true, true_and, eCall, List.append_nil, List.length_cons, List.length_nil, Nat.reduceAdd, Nat.zero_add, eIsi, trOf, isa_int_none, isa_int_bool, isa_int_int, isa_int_str, isa_int_tuple, isa_int_list, isa_bool_none, isa_bool_bool, isa_bool_int, isa_bool_str, isa_bool_tuple, isa_bool_list, isa_str_none, isa_str_bool, isa_str_int, isa_str_str, isa_str_tuple, isa_str_list, isa_seq_none, isa_seq_bool, isa_seq_int, isa_seq_str, isa_seq_tuple, isa_seq_list, isa_tup_none, isa_tup_bool, isa_tup_int, isa_tup_str, isa_tup_tuple, isa_tup_list, isa_o2_o, isa_o2_tuple, isa_o3_o, isa_o3_tuple, isWh]
  | non => rfl
  | str x => rfl
  | tup us => rfl
  | lst us => rfl
  | _ => cases h
theorem kind_ok {u : U} {st : Sto} (h : plain u = true) : m_is_kind [u] st = .ok (.bl (match u with | .str x => x == "s" || x == "d" | _ => false)) st := by
  refine fs_same (env := [some u]) rfl ?_ (by cases u <;> rfl)
  unfold b_is_kind
  cases u with
  | str x =>
    simp only [sSeq, sIf, sAsg, sRet, sDrop, sSetIx, sNext, sCont, NK.tAnd, NK.tOr, NK.tNot, NK.tTru, NK.tB, eOp, eUn, eCB, eIf, eAnd, eOr, eNot, eVar, eC, aCons, aNil, gN, ob, xb, NK.os, NK.xs, nb, rb, kb, eb, List.getElem?_cons_zero, List.getElem?_cons_succ, List.set_cons_zero, List.set_cons_succ, ↓reduceIte, Bool.false_eq_true, Bool.not_true, Bool.not_false, fAdd_i, fSub_i, fNeg_i, fInt_i, fAbs_i, fLt_i, fLe_i, fGt_i, fMin_i, fIsN_n, fNotN_n, fLen_lst, fLen_tup, fTuple_lst, fTuple_tup, U.isNon, truth, fMod_i, fDiv_i, fMul_i, Int.reduceLT, Int.reduceNeg, Int.reducePow, Int.reduceLE, or_true, true_or, and_self, and_true, true_and, eCall, List.append_nil, List.length_cons, List.length_nil, Nat.reduceAdd, Nat.zero_add, eIsi, trOf, isa_int_none, isa_int_bool, isa_int_int, isa_int_str, isa_int_tuple, isa_int_list, isa_bool_none, isa_bool_bool, isa_bool_int, isa_bool_str, isa_bool_tuple, isa_bool_list, isa_str_none, isa_str_bool, isa_str_int, isa_str_str, isa_str_tuple, isa_str_list, isa_seq_none, isa_seq_bool, isa_seq_int, isa_seq_str, isa_seq_tuple, isa_seq_list, isa_tup_none, isa_tup_bool, isa_tup_int, isa_tup_str, isa_tup_tuple, isa_tup_list, isa_o2_o, isa_o2_tuple, isa_o3_o, isa_o3_tuple]
    simp only [sSeq, sIf, sAsg, sRet, sDrop, sSetIx, sNext, sCont, NK.tAnd, NK.tOr, NK.tNot, NK.tTru, NK.tB, eOp, eUn, eCB, eIf, eAnd, eOr, eNot, eVar, eC, aCons, aNil, gN, ob, xb, NK.os, NK.xs, nb, rb, kb, eb, List.getElem?_cons_zero, List.getElem?_cons_succ, List.set_cons_zero, List.set_cons_succ, ↓reduceIte, Bool.false_eq_true, Bool.not_true, Bool.not_false, fAdd_i, fSub_i, fNeg_i, fInt_i, fAbs_i, fLt_i, fLe_i, fGt_i, fMin_i, fIsN_n, fNotN_n, fLen_lst, fLen_tup, fTuple_lst, fTuple_tup, U.isNon, truth, fMod_i, fDiv_i, fMul_i, Int.reduceLT, Int.reduceNeg, Int.reducePow, Int.reduceLE, or_true, true_or, and_self, and_true, true_and, eCall, List.append_nil, List.length_cons, List.length_nil, Nat.reduceAdd, Nat.zero_add, eTup, fIn, items, flatU, List.all_cons, List.all_nil, Bool.and_self, inU, List.any_cons, List.any_nil, NK.eqU, Bool.or_false, Nat.reduceLeDiff]
    rw [Bool.beq_comm (a := x), Bool.beq_comm (a := x)]
  | non => rfl
  | bl b => cases b <;> rfl
  | int i => rfl
  | tup us => rfl
  | lst us => rfl
  | _ => cases h
end G

set_option Elab.async false
set_option linter.all false
set_option maxRecDepth 100000
set_option maxHeartbeats 2000000
/-! Q35c: the judges of lists. -/
namespace G
open PySem L2 NK
/-- a list or a tuple, in the store or not -/
def Sq (v : U) (us : List U) (st : Sto) : Prop := v = .lst us ∨ v = .tup us ∨ ∃ k, v = .loc k ∧ st[k]? = some (.lst us)
section
variable {v : U} {us : List U} {st : Sto}
theorem Sq.tr (h : Sq v us st) : ∃ t, trOf v st = some t ∧ isAny isl t [.b .list, .b .tuple] = some true := by
  rcases h with rfl | rfl | ⟨k, rfl, e⟩
  · exact ⟨_, rfl, rfl⟩
  · exact ⟨_, rfl, rfl⟩
  · refine ⟨.b .list, ?_, rfl⟩
    simp only [trOf, e]
theorem Sq.len (h : Sq v us st) : fLen [v] st = .ok (.int us.length) st := by
  rcases h with rfl | rfl | ⟨k, rfl, e⟩
  · rfl
  · rfl
  · simp only [fLen, items, e]
theorem Sq.tuple (h : Sq v us st) : fTuple [v] st = .ok (.tup us) st := by
  rcases h with rfl | rfl | ⟨k, rfl, e⟩
  · rfl
  · rfl
  · exact fTuple_loc e
theorem Sq.src (h : Sq v us st) : ∃ g : Sto → Prop, NK.src v st = some ⟨us, g⟩ ∧ g st ∧ ∀ ext, g (st ++ ext) := by
  rcases h with rfl | rfl | ⟨k, rfl, e⟩
  · exact ⟨_, rfl, True.intro, fun _ => True.intro⟩
  · exact ⟨_, rfl, True.intro, fun _ => True.intro⟩
  · refine ⟨fun s => s[k]? = some (Ob.lst us), ?_, e, fun ext => ?_⟩
    · simp only [NK.src, e]
    · show (st ++ ext)[k]? = _
      rw [List.getElem?_append_left (List.getElem?_eq_some_iff.mp e).1]
      exact e
theorem Sq.enum (h : Sq v us st) {env : NK.Env} {ma : MA} (hm : ma env st = .ok [v] st) : ∃ g : Sto → Prop, iEnumA ma env st = .ok ⟨enumFrom 0 us, g⟩ st ∧ g st := by
  rcases h with rfl | rfl | ⟨k, rfl, e⟩
  · exact ⟨_, by simp only [iEnumA, hm, ob]; rfl, True.intro⟩
  · exact ⟨_, by simp only [iEnumA, hm, ob]; rfl, True.intro⟩
  · exact ⟨fun s => s[k]? = some (Ob.lst us), by simp only [iEnumA, hm, ob, e], e⟩
theorem Sq.ix (h : Sq v us st) {k : Nat} {u : U} (e : us[k]? = some u) : fIx v (.int (k : Int)) st = .ok u st := by
  have a : atI us (k : Int) = some u := by rw [NK.atI_nat]; exact e
  rcases h with rfl | rfl | ⟨j, rfl, q⟩
  · exact fIx_lst a
  · exact fIx_tup a
  · exact fIx_loc q a
theorem Sq.app (h : Sq v us st) (ext : Sto) : Sq v us (st ++ ext) := by
  rcases h with rfl | rfl | ⟨k, rfl, e⟩
  · exact .inl rfl
  · exact .inr (.inl rfl)
  · exact .inr (.inr ⟨k, rfl, by rw [List.getElem?_append_left (List.getElem?_eq_some_iff.mp e).1]; exact e⟩)
end
/-- neither -/
def notSq (v : U) : Bool := match v with | .non => true | .bl _ => true | .int _ => true | .str _ => true | _ => false
theorem notSq_tr {v : U} {st : Sto} (h : notSq v = true) : ∃ t, trOf v st = some t ∧ isAny isl t [.b .list, .b .tuple] = some false := by
  cases v <;> first | exact ⟨_, rfl, rfl⟩ | cases h
/-! ### entries -/
def faultL : Nat → Int → List U → U
  | _, _, [] => .non
  | n, l, u :: us => match u with
    | .non => faultL (n + 1) l us
    | .int k => if k < 0 then .tup [.int (n : Int), .str "entry"] else if l < k then .tup [.int (n : Int), .str "order"] else faultL (n + 1) (if k = l then l + 1 else l) us
    | _ => .tup [.int (n : Int), .str "entry"]
theorem fault_form : ∀ (us : List U) (n : Nat) (l : Int), faultL n l us = .non ∨ ∃ a b, faultL n l us = .tup [.int a, .str b]
  | [], _, _ => .inl rfl
  | u :: us, n, l => by
    unfold faultL
    cases u with
    | non => exact fault_form us _ _
    | int k =>
      dsimp only
      split
      · exact .inr ⟨_, _, rfl⟩
      · split
        · exact .inr ⟨_, _, rfl⟩
        · exact fault_form us _ _
    | _ => exact .inr ⟨_, _, rfl⟩
theorem fault_loop {g : Sto → Prop} {st : Sto} (hg : g st) : ∀ (us : List U) (n : Nat) (l : Int) (v e2 e3 : Option U), us.all plain = true →
    (faultL n l us = .non ∧ ∃ env', forM g (gT [2, 3]) l_entries_fault_1 (enumFrom n us) [v, some (.int l), e2, e3] st = .next env' st) ∨
    (faultL n l us ≠ .non ∧ forM g (gT [2, 3]) l_entries_fault_1 (enumFrom n us) [v, some (.int l), e2, e3] st = .ret (faultL n l us) st)
  | [], n, l, v, e2, e3, _ => .inl ⟨rfl, _, forM_nil hg⟩
  | u :: us, n, l, v, e2, e3, hp => by
    rw [List.all_cons, Bool.and_eq_true] at hp
    have hcast : ((n + 1 : Nat) : Int) = (n : Int) + 1 := by omega
    have bad : ∀ {b : Str}, (l_entries_fault_1 [v, some (.int l), some (.int (n : Int)), some u] st = .ret (.tup [.int (n : Int), .str b]) st) →
      forM g (gT [2, 3]) l_entries_fault_1 (enumFrom n (u :: us)) [v, some (.int l), e2, e3] st = .ret (.tup [.int (n : Int), .str b]) st := fun {b} h =>
      forM_r (env1 := [v, some (.int l), some (.int (n : Int)), some u]) hg rfl h
    cases u with
    | non =>
      have h := fault_loop hg us (n + 1) l v (some (.int (n : Int))) (some .non) hp.2
      have e : ∀ k, forM g (gT [2, 3]) k (enumFrom n (U.non :: us)) [v, some (.int l), e2, e3] st = forM g (gT [2, 3]) k (.tup [.int (n : Int), .non] :: enumFrom (n + 1) us) [v, some (.int l), e2, e3] st := fun _ => rfl
      rw [e, forM_c (env1 := [v, some (.int l), some (.int (n : Int)), some .non]) (env2 := [v, some (.int l), some (.int (n : Int)), some .non]) (st2 := st) hg rfl (by simp only [l_entries_fault_1, sSeq, sIf, sAsg, sRet, sDrop, sSetIx, sNext, sCont, NK.tAnd, NK.tOr, NK.tNot, NK.tTru, NK.tB, eOp, eUn, eCB, eIf, eAnd, eOr, eNot, eVar, eC, aCons, aNil, gN, ob, xb, NK.os, NK.xs, nb, rb, kb, eb, List.getElem?_cons_zero, List.getElem?_cons_succ, List.set_cons_zero, List.set_cons_succ, ↓reduceIte, Bool.false_eq_true, Bool.not_true, Bool.not_false, fAdd_i, fSub_i, fNeg_i, fInt_i, fAbs_i, fLt_i, fLe_i, fGt_i, fMin_i, fIsN_n, fNotN_n, fLen_lst, fLen_tup, fTuple_lst, fTuple_tup, U.isNon, truth, fMod_i, fDiv_i, fMul_i, Int.reduceLT, Int.reduceNeg, Int.reducePow, Int.reduceLE, or_true, true_or, and_self, and_true, true_and, eCall, List.append_nil, List.length_cons, List.length_nil, Nat.reduceAdd, Nat.zero_add])]
      exact h
    | int k =>
      by_cases h0 : k < 0
      · refine .inr ⟨by simp [faultL, h0], ?_⟩
        rw [show faultL n l (U.int k :: us) = .tup [.int (n : Int), .str "entry"] by simp [faultL, h0]]
        refine bad ?_
        simp only [l_entries_fault_1, sSeq, sIf, sAsg, sRet, sDrop, sSetIx, sNext, sCont, NK.tAnd, NK.tOr, NK.tNot, NK.tTru, NK.tB, eOp, eUn, eCB, eIf, eAnd, eOr, eNot, eVar, eC, aCons, aNil, gN, ob, xb, NK.os, NK.xs, nb, rb, kb, eb, List.getElem?_cons_zero, List.getElem?_cons_succ, List.set_cons_zero, List.set_cons_succ, ↓reduceIte, Bool.false_eq_true, Bool.not_true, Bool.not_false, fAdd_i, fSub_i, fNeg_i, fInt_i, fAbs_i, fLt_i, fLe_i, fGt_i, fMin_i, fIsN_n, fNotN_n, fLen_lst, fLen_tup, fTuple_lst, fTuple_tup, U.isNon, truth, fMod_i, fDiv_i, fMul_i, Int.reduceLT, Int.reduceNeg, Int.reducePow, Int.reduceLE, or_true, true_or, and_self, and_true, true_and, eCall, List.append_nil, List.length_cons, List.length_nil, Nat.reduceAdd, Nat.zero_add, eIsi, trOf, isa_int_none, isa_int_bool, isa_int_int, isa_int_str, isa_int_tuple, isa_int_list, isa_bool_none, isa_bool_bool, isa_bool_int, isa_bool_str, isa_bool_tuple, isa_bool_list, isa_str_none, isa_str_bool, isa_str_int, isa_str_str, isa_str_tuple, isa_str_list, isa_seq_none, isa_seq_bool, isa_seq_int, isa_seq_str, isa_seq_tuple, isa_seq_list, isa_tup_none, isa_tup_bool, isa_tup_int, isa_tup_str, isa_tup_tuple, isa_tup_list, isa_o2_o, isa_o2_tuple, isa_o3_o, isa_o3_tuple, decide_eq_true h0, eTup, Nat.reduceLeDiff]
      · by_cases h1 : l < k
        · refine .inr ⟨by simp [faultL, h0, h1], ?_⟩
          rw [show faultL n l (U.int k :: us) = .tup [.int (n : Int), .str "order"] by simp [faultL, h0, h1]]
          refine bad ?_
          simp only [l_entries_fault_1, sSeq, sIf, sAsg, sRet, sDrop, sSetIx, sNext, sCont, NK.tAnd, NK.tOr, NK.tNot, NK.tTru, NK.tB, eOp, eUn, eCB, eIf, eAnd, eOr, eNot, eVar, eC, aCons, aNil, gN, ob, xb, NK.os, NK.xs, nb, rb, kb, eb, List.getElem?_cons_zero, List.getElem?_cons_succ, List.set_cons_zero, List.set_cons_succ, ↓reduceIte, Bool.false_eq_true, Bool.not_true, Bool.not_false, fAdd_i, fSub_i, fNeg_i, fInt_i, fAbs_i, fLt_i, fLe_i, fGt_i, fMin_i, fIsN_n, fNotN_n, fLen_lst, fLen_tup, fTuple_lst, fTuple_tup, U.isNon, truth, fMod_i, fDiv_i, fMul_i, Int.reduceLT, Int.reduceNeg, Int.reducePow, Int.reduceLE, or_true, true_or, and_self, and_true, true_and, eCall, List.append_nil, List.length_cons, List.length_nil, Nat.reduceAdd, Nat.zero_add, eIsi, trOf, isa_int_none, isa_int_bool, isa_int_int, isa_int_str, isa_int_tuple, isa_int_list, isa_bool_none, isa_bool_bool, isa_bool_int, isa_bool_str, isa_bool_tuple, isa_bool_list, isa_str_none, isa_str_bool, isa_str_int, isa_str_str, isa_str_tuple, isa_str_list, isa_seq_none, isa_seq_bool, isa_seq_int, isa_seq_str, isa_seq_tuple, isa_seq_list, isa_tup_none, isa_tup_bool, isa_tup_int, isa_tup_str, isa_tup_tuple, isa_tup_list, isa_o2_o, isa_o2_tuple, isa_o3_o, isa_o3_tuple, decide_eq_false h0, decide_eq_true h1, eTup, Nat.reduceLeDiff]
        · have hf : faultL n l (U.int k :: us) = faultL (n + 1) (if k = l then l + 1 else l) us := by simp [faultL, h0, h1]
          have e : ∀ k', forM g (gT [2, 3]) k' (enumFrom n (U.int k :: us)) [v, some (.int l), e2, e3] st = forM g (gT [2, 3]) k' (.tup [.int (n : Int), .int k] :: enumFrom (n + 1) us) [v, some (.int l), e2, e3] st := fun _ => rfl
          have h := fault_loop hg us (n + 1) (if k = l then l + 1 else l) v (some (.int (n : Int))) (some (.int k)) hp.2
          rw [hf, e, forM_n (env1 := [v, some (.int l), some (.int (n : Int)), some (.int k)]) (env2 := [v, some (.int (if k = l then l + 1 else l)), some (.int (n : Int)), some (.int k)]) (st2 := st) hg rfl (by
            by_cases h2 : k = l
            · subst h2
              simp only [l_entries_fault_1, sSeq, sIf, sAsg, sRet, sDrop, sSetIx, sNext, sCont, NK.tAnd, NK.tOr, NK.tNot, NK.tTru, NK.tB, eOp, eUn, eCB, eIf, eAnd, eOr, eNot, eVar, eC, aCons, aNil, gN, ob, xb, NK.os, NK.xs, nb, rb, kb, eb, List.getElem?_cons_zero, List.getElem?_cons_succ, List.set_cons_zero, List.set_cons_succ, ↓reduceIte, Bool.false_eq_true, Bool.not_true, Bool.not_false, fAdd_i, fSub_i, fNeg_i, fInt_i, fAbs_i, fLt_i, fLe_i, fGt_i, fMin_i, fIsN_n, fNotN_n, fLen_lst, fLen_tup, fTuple_lst, fTuple_tup, U.isNon, truth, fMod_i, fDiv_i, fMul_i, Int.reduceLT, Int.reduceNeg, Int.reducePow, Int.reduceLE, or_true, true_or, and_self, and_true, true_and, eCall, List.append_nil, List.length_cons, List.length_nil, Nat.reduceAdd, Nat.zero_add, eIsi, trOf, isa_int_none, isa_int_bool, isa_int_int, isa_int_str, isa_int_tuple, isa_int_list, isa_bool_none, isa_bool_bool, isa_bool_int, isa_bool_str, isa_bool_tuple, isa_bool_list, isa_str_none, isa_str_bool, isa_str_int, isa_str_str, isa_str_tuple, isa_str_list, isa_seq_none, isa_seq_bool, isa_seq_int, isa_seq_str, isa_seq_tuple, isa_seq_list, isa_tup_none, isa_tup_bool, isa_tup_int, isa_tup_str, isa_tup_tuple, isa_tup_list, isa_o2_o, isa_o2_tuple, isa_o3_o, isa_o3_tuple, decide_eq_false h0, decide_eq_false h1, fEq_ii, beq_self_eq_true]
            · have h3 : (k == l) = false := by simpa using h2
              simp only [l_entries_fault_1, sSeq, sIf, sAsg, sRet, sDrop, sSetIx, sNext, sCont, NK.tAnd, NK.tOr, NK.tNot, NK.tTru, NK.tB, eOp, eUn, eCB, eIf, eAnd, eOr, eNot, eVar, eC, aCons, aNil, gN, ob, xb, NK.os, NK.xs, nb, rb, kb, eb, List.getElem?_cons_zero, List.getElem?_cons_succ, List.set_cons_zero, List.set_cons_succ, ↓reduceIte, Bool.false_eq_true, Bool.not_true, Bool.not_false, fAdd_i, fSub_i, fNeg_i, fInt_i, fAbs_i, fLt_i, fLe_i, fGt_i, fMin_i, fIsN_n, fNotN_n, fLen_lst, fLen_tup, fTuple_lst, fTuple_tup, U.isNon, truth, fMod_i, fDiv_i, fMul_i, Int.reduceLT, Int.reduceNeg, Int.reducePow, Int.reduceLE, or_true, true_or, and_self, and_true, true_and, eCall, List.append_nil, List.length_cons, List.length_nil, Nat.reduceAdd, Nat.zero_add, eIsi, trOf, isa_int_none, isa_int_bool, isa_int_int, isa_int_str, isa_int_tuple, isa_int_list, isa_bool_none, isa_bool_bool, isa_bool_int, isa_bool_str, isa_bool_tuple, isa_bool_list, isa_str_none, isa_str_bool, isa_str_int, isa_str_str, isa_str_tuple, isa_str_list, isa_seq_none, isa_seq_bool, isa_seq_int, isa_seq_str, isa_seq_tuple, isa_seq_list, isa_tup_none, isa_tup_bool, isa_tup_int, isa_tup_str, isa_tup_tuple, isa_tup_list, isa_o2_o, isa_o2_tuple, isa_o3_o, isa_o3_tuple, decide_eq_false h0, decide_eq_false h1, fEq_ii, h3, h2])]
          exact h
    | bl b =>
      refine .inr ⟨by simp [faultL], bad ?_⟩
      simp only [l_entries_fault_1, sSeq, sIf, sAsg, sRet, sDrop, sSetIx, sNext, sCont, NK.tAnd, NK.tOr, NK.tNot, NK.tTru, NK.tB, eOp, eUn, eCB, eIf, eAnd, eOr, eNot, eVar, eC, aCons, aNil, gN, ob, xb, NK.os, NK.xs, nb, rb, kb, eb, List.getElem?_cons_zero, List.getElem?_cons_succ, List.set_cons_zero, List.set_cons_succ, ↓reduceIte, Bool.false_eq_true, Bool.not_true, Bool.not_false, fAdd_i, fSub_i, fNeg_i, fInt_i, fAbs_i, fLt_i, fLe_i, fGt_i, fMin_i, fIsN_n, fNotN_n, fLen_lst, fLen_tup, fTuple_lst, fTuple_tup, U.isNon, truth, fMod_i, fDiv_i, fMul_i, Int.reduceLT, Int.reduceNeg, Int.reducePow, Int.reduceLE, or_true, true_or, and_self, and_true, true_and, eCall, List.append_nil, List.length_cons, List.length_nil, Nat.reduceAdd, Nat.zero_add, eIsi, trOf, isa_int_none, isa_int_bool, isa_int_int, isa_int_str, isa_int_tuple, isa_int_list, isa_bool_none, isa_bool_bool, isa_bool_int, isa_bool_str, isa_bool_tuple, isa_bool_list, isa_str_none, isa_str_bool, isa_str_int, isa_str_str, isa_str_tuple, isa_str_list, isa_seq_none, isa_seq_bool, isa_seq_int, isa_seq_str, isa_seq_tuple, isa_seq_list, isa_tup_none, isa_tup_bool, isa_tup_int, isa_tup_str, isa_tup_tuple, isa_tup_list, isa_o2_o, isa_o2_tuple, isa_o3_o, isa_o3_tuple, eTup, Nat.reduceLeDiff]
    | str x =>
      refine .inr ⟨by simp [faultL], bad ?_⟩
      simp only [l_entries_fault_1, sSeq, sIf, sAsg, sRet, sDrop, sSetIx, sNext, sCont, NK.tAnd, NK.tOr, NK.tNot, NK.tTru, NK.tB, eOp, eUn, eCB, eIf, eAnd, eOr, eNot, eVar, eC, aCons, aNil, gN, ob, xb, NK.os, NK.xs, nb, rb, kb, eb, List.getElem?_cons_zero, List.getElem?_cons_succ, List.set_cons_zero, List.set_cons_succ, ↓reduceIte, Bool.false_eq_true, Bool.not_true, Bool.not_false, fAdd_i, fSub_i, fNeg_i, fInt_i, fAbs_i, fLt_i, fLe_i, fGt_i, fMin_i, fIsN_n, fNotN_n, fLen_lst, fLen_tup, fTuple_lst, fTuple_tup, U.isNon, truth, fMod_i, fDiv_i, fMul_i, Int.reduceLT, Int.reduceNeg, Int.reducePow, Int.reduceLE, or_true, true_or, and_self, and_true, true_and, eCall, List.append_nil, List.length_cons, List.length_nil, Nat.reduceAdd, Nat.zero_add, eIsi, trOf, isa_int_none, isa_int_bool, isa_int_int, isa_int_str, isa_int_tuple, isa_int_list, isa_bool_none, isa_bool_bool, isa_bool_int, isa_bool_str, isa_bool_tuple, isa_bool_list, isa_str_none, isa_str_bool, isa_str_int, isa_str_str, isa_str_tuple, isa_str_list, isa_seq_none, isa_seq_bool, isa_seq_int, isa_seq_str, isa_seq_tuple, isa_seq_list, isa_tup_none, isa_tup_bool, isa_tup_int, isa_tup_str, isa_tup_tuple, isa_tup_list, isa_o2_o, isa_o2_tuple, isa_o3_o, isa_o3_tuple, eTup, Nat.reduceLeDiff]
    | tup ts =>
      refine .inr ⟨by simp [faultL], bad ?_⟩
      simp only [l_entries_fault_1, sSeq, sIf, sAsg, sRet, sDrop, sSetIx, sNext, sCont, NK.tAnd, NK.tOr, NK.tNot, NK.tTru, NK.tB, eOp, eUn, eCB, eIf, eAnd, eOr, eNot, eVar, eC, aCons, aNil, gN, ob, xb, NK.os, NK.xs, nb, rb, kb, eb, List.getElem?_cons_zero, List.getElem?_cons_succ, List.set_cons_zero, List.set_cons_succ, ↓reduceIte, Bool.false_eq_true, Bool.not_true, Bool.not_false, fAdd_i, fSub_i, fNeg_i, fInt_i, fAbs_i, fLt_i, fLe_i, fGt_i, fMin_i, fIsN_n, fNotN_n, fLen_lst, fLen_tup, fTuple_lst, fTuple_tup, U.isNon, truth, fMod_i, fDiv_i, fMul_i, Int.reduceLT, Int.reduceNeg, Int.reducePow, Int.reduceLE, or_true, true_or, and_self, and_true, true_and, eCall, List.append_nil, List.length_cons, List.length_nil, Nat.reduceAdd, Nat.zero_add, eIsi, trOf, isa_int_none, isa_int_bool, isa_int_int, isa_int_str, isa_int_tuple, isa_int_list, isa_bool_none, isa_bool_bool, isa_bool_int, isa_bool_str, isa_bool_tuple, isa_bool_list, isa_str_none, isa_str_bool, isa_str_int, isa_str_str, isa_str_tuple, isa_str_list, isa_seq_none, isa_seq_bool, isa_seq_int, isa_seq_str, isa_seq_tuple, isa_seq_list, isa_tup_none, isa_tup_bool, isa_tup_int, isa_tup_str, isa_tup_tuple, isa_tup_list, isa_o2_o, isa_o2_tuple, isa_o3_o, isa_o3_tuple, eTup, Nat.reduceLeDiff]
    | lst ts =>
      refine .inr ⟨by simp [faultL], bad ?_⟩
      simp only [l_entries_fault_1, sSeq, sIf, sAsg, sRet, sDrop, sSetIx, sNext, sCont, NK.tAnd, NK.tOr, NK.tNot, NK.tTru, NK.tB, eOp, eUn, eCB, eIf, eAnd, eOr, eNot, eVar, eC, aCons, aNil, gN, ob, xb, NK.os, NK.xs, nb, rb, kb, eb, List.getElem?_cons_zero, List.getElem?_cons_succ, List.set_cons_zero, List.set_cons_succ, ↓reduceIte, Bool.false_eq_true, Bool.not_true, Bool.not_false, fAdd_i, fSub_i, fNeg_i, fInt_i, fAbs_i, fLt_i, fLe_i, fGt_i, fMin_i, fIsN_n, fNotN_n, fLen_lst, fLen_tup, fTuple_lst, fTuple_tup, U.isNon, truth, fMod_i, fDiv_i, fMul_i, Int.reduceLT, Int.reduceNeg, Int.reducePow, Int.reduceLE, or_true, true_or, and_self, and_true, true_and, eCall, List.append_nil, List.length_cons, List.length_nil, Nat.reduceAdd, Nat.zero_add, eIsi, trOf, isa_int_none, isa_int_bool, isa_int_int, isa_int_str, isa_int_tuple, isa_int_list, isa_bool_none, isa_bool_bool, isa_bool_int, isa_bool_str, isa_bool_tuple, isa_bool_list, isa_str_none, isa_str_bool, isa_str_int, isa_str_str, isa_str_tuple, isa_str_list, isa_seq_none, isa_seq_bool, isa_seq_int, isa_seq_str, isa_seq_tuple, isa_seq_list, isa_tup_none, isa_tup_bool, isa_tup_int, isa_tup_str, isa_tup_tuple, isa_tup_list, isa_o2_o, isa_o2_tuple, isa_o3_o, isa_o3_tuple, eTup, Nat.reduceLeDiff]
    | _ => exact absurd hp.1 (by simp [plain])
theorem fault_seq {v : U} {us : List U} {st : Sto} (h : Sq v us st) (h40 : us.length ≤ 40) (hp : us.all plain = true) : m_entries_fault [v] st = .ok (faultL 0 0 us) st := by
  obtain ⟨t, ht, ha⟩ := h.tr
  have hlen := h.len
  obtain ⟨g, he, hg⟩ := h.enum (env := [some v, some (.int 0), none, none]) (ma := aCons (eVar 0) aNil) (by simp only [sSeq, sIf, sAsg, sRet, sDrop, sSetIx, sNext, sCont, NK.tAnd, NK.tOr, NK.tNot, NK.tTru, NK.tB, eOp, eUn, eCB, eIf, eAnd, eOr, eNot, eVar, eC, aCons, aNil, gN, ob, xb, NK.os, NK.xs, nb, rb, kb, eb, List.getElem?_cons_zero, List.getElem?_cons_succ, List.set_cons_zero, List.set_cons_succ, ↓reduceIte, Bool.false_eq_true, Bool.not_true, Bool.not_false, fAdd_i, fSub_i, fNeg_i, fInt_i, fAbs_i, fLt_i, fLe_i, fGt_i, fMin_i, fIsN_n, fNotN_n, fLen_lst, fLen_tup, fTuple_lst, fTuple_tup, U.isNon, truth, fMod_i, fDiv_i, fMul_i, Int.reduceLT, Int.reduceNeg, Int.reducePow, Int.reduceLE, or_true, true_or, and_self, and_true, true_and, eCall, List.append_nil, List.length_cons, List.length_nil, Nat.reduceAdd, Nat.zero_add])
  have h4 : decide ((40 : Int) < (us.length : Int)) = false := decide_eq_false (by omega)
  refine fs_same (env := [some v, none, none, none]) rfl ?_ (by rcases fault_form us 0 0 with q | ⟨a, b, q⟩ <;> rw [q] <;> rfl)
  unfold b_entries_fault
  rcases fault_loop hg us 0 0 (some v) none none hp with ⟨q, env', e⟩ | ⟨q, e⟩
  · rw [q]
    simp only [sSeq, sIf, sAsg, sRet, sDrop, sSetIx, sNext, sCont, NK.tAnd, NK.tOr, NK.tNot, NK.tTru, NK.tB, eOp, eUn, eCB, eIf, eAnd, eOr, eNot, eVar, eC, aCons, aNil, gN, ob, xb, NK.os, NK.xs, nb, rb, kb, eb, List.getElem?_cons_zero, List.getElem?_cons_succ, List.set_cons_zero, List.set_cons_succ, ↓reduceIte, Bool.false_eq_true, Bool.not_true, Bool.not_false, fAdd_i, fSub_i, fNeg_i, fInt_i, fAbs_i, fLt_i, fLe_i, fGt_i, fMin_i, fIsN_n, fNotN_n, fLen_lst, fLen_tup, fTuple_lst, fTuple_tup, U.isNon, truth, fMod_i, fDiv_i, fMul_i, Int.reduceLT, Int.reduceNeg, Int.reducePow, Int.reduceLE, or_true, true_or, and_self, and_true, true_and, eCall, List.append_nil, List.length_cons, List.length_nil, Nat.reduceAdd, Nat.zero_add, eIsi, ht, ha, hlen, h4, sFor, he, e]
  · simp only [sSeq, sIf, sAsg, sRet, sDrop, sSetIx, sNext, sCont, NK.tAnd, NK.tOr, NK.tNot, NK.tTru, NK.tB, eOp, eUn, eCB, eIf, eAnd, eOr, eNot, eVar, eC, aCons, aNil, gN, ob, xb, NK.os, NK.xs, nb, rb, kb, eb, List.getElem?_cons_zero, List.getElem?_cons_succ, List.set_cons_zero, List.set_cons_succ, ↓reduceIte, Bool.false_eq_true, Bool.not_true, Bool.not_false, fAdd_i, fSub_i, fNeg_i, fInt_i, fAbs_i, fLt_i, fLe_i, fGt_i, fMin_i, fIsN_n, fNotN_n, fLen_lst, fLen_tup, fTuple_lst, fTuple_tup, U.isNon, truth, fMod_i, fDiv_i, fMul_i, Int.reduceLT, Int.reduceNeg, Int.reducePow, Int.reduceLE, or_true, true_or, and_self, and_true, true_and, eCall, List.append_nil, List.length_cons, List.length_nil, Nat.reduceAdd, Nat.zero_add, eIsi, ht, ha, hlen, h4, sFor, he, e]
theorem fault_not {v : U} {st : Sto} (h : notSq v = true) : m_entries_fault [v] st = .ok (.tup [.int 0, .str "entries"]) st := by
  obtain ⟨t, ht, ha⟩ := notSq_tr (st := st) h
  refine fs_same (env := [some v, none, none, none]) rfl ?_ rfl
  unfold b_entries_fault
  simp only [sSeq, sIf, sAsg, sRet, sDrop, sSetIx, sNext, sCont, NK.tAnd, NK.tOr, NK.tNot, NK.tTru, NK.tB, eOp, eUn, eCB, eIf, eAnd, eOr, eNot, eVar, eC, aCons, aNil, gN, ob, xb, NK.os, NK.xs, nb, rb, kb, eb, List.getElem?_cons_zero, List.getElem?_cons_succ, List.set_cons_zero, List.set_cons_succ, ↓reduceIte, Bool.false_eq_true, Bool.not_true, Bool.not_false, fAdd_i, fSub_i, fNeg_i, fInt_i, fAbs_i, fLt_i, fLe_i, fGt_i, fMin_i, fIsN_n, fNotN_n, fLen_lst, fLen_tup, fTuple_lst, fTuple_tup, U.isNon, truth, fMod_i, fDiv_i, fMul_i, Int.reduceLT, Int.reduceNeg, Int.reducePow, Int.reduceLE, or_true, true_or, and_self, and_true, true_and, eCall, List.append_nil, List.length_cons, List.length_nil, Nat.reduceAdd, Nat.zero_add, eIsi, ht, ha, eTup, Nat.reduceLeDiff]
end G

set_option Elab.async false
set_option linter.all false
set_option maxRecDepth 100000
set_option maxHeartbeats 2000000
/-! Q35d: the judges that raise. -/
namespace G
open PySem L2 NK
/-- BadState of the class at 1 -/
def bad (w : Str) : Ex := ⟨1, [.str w]⟩
section
variable {v : U} {us : List U} {st : Sto}
theorem entries_ok (h : Sq v us st) (h40 : us.length ≤ 40) (hp : us.all plain = true) (hf : (faultL 0 0 us).isNon = true) : m_check_entries [v] st = .ok .non st := by
  have e := fault_seq h h40 hp
  refine fs_non0 (env := [some v]) (env' := [some v]) rfl ?_
  unfold b_check_entries
  rcases fault_form us 0 0 with q | ⟨a, b, q⟩
  · rw [q] at e
    simp only [sSeq, sIf, sAsg, sRet, sDrop, sSetIx, sNext, sCont, NK.tAnd, NK.tOr, NK.tNot, NK.tTru, NK.tB, eOp, eUn, eCB, eIf, eAnd, eOr, eNot, eVar, eC, aCons, aNil, gN, ob, xb, NK.os, NK.xs, nb, rb, kb, eb, List.getElem?_cons_zero, List.getElem?_cons_succ, List.set_cons_zero, List.set_cons_succ, ↓reduceIte, Bool.false_eq_true, Bool.not_true, Bool.not_false, fAdd_i, fSub_i, fNeg_i, fInt_i, fAbs_i, fLt_i, fLe_i, fGt_i, fMin_i, fIsN_n, fNotN_n, fLen_lst, fLen_tup, fTuple_lst, fTuple_tup, U.isNon, truth, fMod_i, fDiv_i, fMul_i, Int.reduceLT, Int.reduceNeg, Int.reducePow, Int.reduceLE, or_true, true_or, and_self, and_true, true_and, eCall, List.append_nil, List.length_cons, List.length_nil, Nat.reduceAdd, Nat.zero_add, e]
  · rw [q] at hf
    cases hf
theorem entries_bad (h : Sq v us st) (h40 : us.length ≤ 40) (hp : us.all plain = true) (hf : (faultL 0 0 us).isNon = false) : m_check_entries [v] st = .exc (bad "names") st := by
  have e := fault_seq h h40 hp
  refine fs_exc (env := [some v]) (env' := [some v]) rfl ?_
  unfold b_check_entries
  rcases fault_form us 0 0 with q | ⟨a, b, q⟩
  · rw [q] at hf
    cases hf
  · rw [q] at e
    simp only [sSeq, sIf, sAsg, sRet, sDrop, sSetIx, sNext, sCont, NK.tAnd, NK.tOr, NK.tNot, NK.tTru, NK.tB, eOp, eUn, eCB, eIf, eAnd, eOr, eNot, eVar, eC, aCons, aNil, gN, ob, xb, NK.os, NK.xs, nb, rb, kb, eb, List.getElem?_cons_zero, List.getElem?_cons_succ, List.set_cons_zero, List.set_cons_succ, ↓reduceIte, Bool.false_eq_true, Bool.not_true, Bool.not_false, fAdd_i, fSub_i, fNeg_i, fInt_i, fAbs_i, fLt_i, fLe_i, fGt_i, fMin_i, fIsN_n, fNotN_n, fLen_lst, fLen_tup, fTuple_lst, fTuple_tup, U.isNon, truth, fMod_i, fDiv_i, fMul_i, Int.reduceLT, Int.reduceNeg, Int.reducePow, Int.reduceLE, or_true, true_or, and_self, and_true, true_and, eCall, List.append_nil, List.length_cons, List.length_nil, Nat.reduceAdd, Nat.zero_add, e, sRaise]
    rfl
theorem entries_not (h : notSq v = true) : m_check_entries [v] st = .exc (bad "names") st := by
  have e := fault_not (st := st) h
  refine fs_exc (env := [some v]) (env' := [some v]) rfl ?_
  unfold b_check_entries
  simp only [sSeq, sIf, sAsg, sRet, sDrop, sSetIx, sNext, sCont, NK.tAnd, NK.tOr, NK.tNot, NK.tTru, NK.tB, eOp, eUn, eCB, eIf, eAnd, eOr, eNot, eVar, eC, aCons, aNil, gN, ob, xb, NK.os, NK.xs, nb, rb, kb, eb, List.getElem?_cons_zero, List.getElem?_cons_succ, List.set_cons_zero, List.set_cons_succ, ↓reduceIte, Bool.false_eq_true, Bool.not_true, Bool.not_false, fAdd_i, fSub_i, fNeg_i, fInt_i, fAbs_i, fLt_i, fLe_i, fGt_i, fMin_i, fIsN_n, fNotN_n, fLen_lst, fLen_tup, fTuple_lst, fTuple_tup, U.isNon, truth, fMod_i, fDiv_i, fMul_i, Int.reduceLT, Int.reduceNeg, Int.reducePow, Int.reduceLE, or_true, true_or, and_self, and_true, true_and, eCall, List.append_nil, List.length_cons, List.length_nil, Nat.reduceAdd, Nat.zero_add, e, sRaise]
  rfl
/-! ### lives -/
def lifeU (u : U) : Bool := match u with | .non => true | .str x => Str.ofString "alive" == x || Str.ofString "dead" == x | _ => false
theorem life_turn {u : U} (e0 : Option U) (hp : flatU u = true) : l_check_life_row_1 [e0, some u] st = if lifeU u = true then .next [e0, some u] st else .exc (bad "lives") [e0, some u] st := by
  unfold l_check_life_row_1
  cases u with
  | non => simp only [sSeq, sIf, sAsg, sRet, sDrop, sSetIx, sNext, sCont, NK.tAnd, NK.tOr, NK.tNot, NK.tTru, NK.tB, eOp, eUn, eCB, eIf, eAnd, eOr, eNot, eVar, eC, aCons, aNil, gN, ob, xb, NK.os, NK.xs, nb, rb, kb, eb, List.getElem?_cons_zero, List.getElem?_cons_succ, List.set_cons_zero, List.set_cons_succ, ↓reduceIte, Bool.false_eq_true, Bool.not_true, Bool.not_false, fAdd_i, fSub_i, fNeg_i, fInt_i, fAbs_i, fLt_i, fLe_i, fGt_i, fMin_i, fIsN_n, fNotN_n, fLen_lst, fLen_tup, fTuple_lst, fTuple_tup, U.isNon, truth, fMod_i, fDiv_i, fMul_i, Int.reduceLT, Int.reduceNeg, Int.reducePow, Int.reduceLE, or_true, true_or, and_self, and_true, true_and, eCall, List.append_nil, List.length_cons, List.length_nil, Nat.reduceAdd, Nat.zero_add, lifeU]
  | str x =>
    simp only [sSeq, sIf, sAsg, sRet, sDrop, sSetIx, sNext, sCont, NK.tAnd, NK.tOr, NK.tNot, NK.tTru, NK.tB, eOp, eUn, eCB, eIf, eAnd, eOr, eNot, eVar, eC, aCons, aNil, gN, ob, xb, NK.os, NK.xs, nb, rb, kb, eb, List.getElem?_cons_zero, List.getElem?_cons_succ, List.set_cons_zero, List.set_cons_succ, ↓reduceIte, Bool.false_eq_true, Bool.not_true, Bool.not_false, fAdd_i, fSub_i, fNeg_i, fInt_i, fAbs_i, fLt_i, fLe_i, fGt_i, fMin_i, fIsN_n, fNotN_n, fLen_lst, fLen_tup, fTuple_lst, fTuple_tup, U.isNon, truth, fMod_i, fDiv_i, fMul_i, Int.reduceLT, Int.reduceNeg, Int.reducePow, Int.reduceLE, or_true, true_or, and_self, and_true, true_and, eCall, List.append_nil, List.length_cons, List.length_nil, Nat.reduceAdd, Nat.zero_add, eTup, fIn, items, flatU, List.all_cons, List.all_nil, Bool.and_self, inU, List.any_cons, List.any_nil, NK.eqU, Bool.or_false, Nat.reduceLeDiff, sRaise]
    rw [show lifeU (.str x) = (Str.ofString "alive" == x || Str.ofString "dead" == x) from rfl]
    by_cases q : ((Str.ofString "alive" == x) || (Str.ofString "dead" == x)) = true
    · simp only [q, Bool.not_true, Bool.false_eq_true, ↓reduceIte]
    · simp only [Bool.eq_false_iff.mpr q, Bool.not_false, Bool.false_eq_true, ↓reduceIte]
      rfl
  | bl b => cases b <;> rfl
  | int i => rfl
  | _ => cases hp
theorem life_loop {g : Sto → Prop} (hg : g st) : ∀ (us : List U) (e0 e1 : Option U), us.all flatU = true →
    (us.all lifeU = true ∧ ∃ env', forM g (gN 1) l_check_life_row_1 us [e0, e1] st = .next env' st) ∨ (us.all lifeU = false ∧ ∃ env', forM g (gN 1) l_check_life_row_1 us [e0, e1] st = .exc (bad "lives") env' st)
  | [], e0, e1, _ => .inl ⟨rfl, _, forM_nil hg⟩
  | u :: us, e0, e1, hp => by
    rw [List.all_cons, Bool.and_eq_true] at hp
    have ht := life_turn (st := st) e0 hp.1
    by_cases hu : lifeU u = true
    · rw [if_pos hu] at ht
      rw [forM_n (env1 := [e0, some u]) hg rfl ht, List.all_cons, hu, Bool.true_and]
      exact life_loop hg us e0 (some u) hp.2
    · rw [if_neg hu] at ht
      refine .inr ⟨by rw [List.all_cons, Bool.eq_false_iff.mpr hu, Bool.false_and], _, forM_x (env1 := [e0, some u]) hg rfl ht⟩
theorem lives_seq (h : Sq v us st) (hp : us.all flatU = true) : m_check_life_row [v] st = if us.all lifeU = true then .ok .non st else .exc (bad "lives") st := by
  obtain ⟨t, ht, ha⟩ := h.tr
  obtain ⟨g, hs, hg, _⟩ := h.src
  rcases life_loop hg us (some v) none hp with ⟨q, env', e⟩ | ⟨q, env', e⟩
  · rw [if_pos q]
    refine fs_non0 (env := [some v, none]) (env' := env') rfl ?_
    unfold b_check_life_row
    simp only [sSeq, sIf, sAsg, sRet, sDrop, sSetIx, sNext, sCont, NK.tAnd, NK.tOr, NK.tNot, NK.tTru, NK.tB, eOp, eUn, eCB, eIf, eAnd, eOr, eNot, eVar, eC, aCons, aNil, gN, ob, xb, NK.os, NK.xs, nb, rb, kb, eb, List.getElem?_cons_zero, List.getElem?_cons_succ, List.set_cons_zero, List.set_cons_succ, ↓reduceIte, Bool.false_eq_true, Bool.not_true, Bool.not_false, fAdd_i, fSub_i, fNeg_i, fInt_i, fAbs_i, fLt_i, fLe_i, fGt_i, fMin_i, fIsN_n, fNotN_n, fLen_lst, fLen_tup, fTuple_lst, fTuple_tup, U.isNon, truth, fMod_i, fDiv_i, fMul_i, Int.reduceLT, Int.reduceNeg, Int.reducePow, Int.reduceLE, or_true, true_or, and_self, and_true, true_and, eCall, List.append_nil, List.length_cons, List.length_nil, Nat.reduceAdd, Nat.zero_add, eIsi, ht, ha, sFor, iSeq, hs, e]
  · rw [if_neg (by rw [q]; exact Bool.false_ne_true)]
    refine fs_exc (env := [some v, none]) (env' := env') rfl ?_
    unfold b_check_life_row
    simp only [sSeq, sIf, sAsg, sRet, sDrop, sSetIx, sNext, sCont, NK.tAnd, NK.tOr, NK.tNot, NK.tTru, NK.tB, eOp, eUn, eCB, eIf, eAnd, eOr, eNot, eVar, eC, aCons, aNil, gN, ob, xb, NK.os, NK.xs, nb, rb, kb, eb, List.getElem?_cons_zero, List.getElem?_cons_succ, List.set_cons_zero, List.set_cons_succ, ↓reduceIte, Bool.false_eq_true, Bool.not_true, Bool.not_false, fAdd_i, fSub_i, fNeg_i, fInt_i, fAbs_i, fLt_i, fLe_i, fGt_i, fMin_i, fIsN_n, fNotN_n, fLen_lst, fLen_tup, fTuple_lst, fTuple_tup, U.isNon, truth, fMod_i, fDiv_i, fMul_i, Int.reduceLT, Int.reduceNeg, Int.reducePow, Int.reduceLE, or_true, true_or, and_self, and_true, true_and, eCall, List.append_nil, List.length_cons, List.length_nil, Nat.reduceAdd, Nat.zero_add, eIsi, ht, ha, sFor, iSeq, hs, e]
theorem lives_not (h : notSq v = true) : m_check_life_row [v] st = .exc (bad "lives") st := by
  obtain ⟨t, ht, ha⟩ := notSq_tr (st := st) h
  refine fs_exc (env := [some v, none]) (env' := [some v, none]) rfl ?_
  unfold b_check_life_row
  simp only [sSeq, sIf, sAsg, sRet, sDrop, sSetIx, sNext, sCont, NK.tAnd, NK.tOr, NK.tNot, NK.tTru, NK.tB, eOp, eUn, eCB, eIf, eAnd, eOr, eNot, eVar, eC, aCons, aNil, gN, ob, xb, NK.os, NK.xs, nb, rb, kb, eb, List.getElem?_cons_zero, List.getElem?_cons_succ, List.set_cons_zero, List.set_cons_succ, ↓reduceIte, Bool.false_eq_true, Bool.not_true, Bool.not_false, fAdd_i, fSub_i, fNeg_i, fInt_i, fAbs_i, fLt_i, fLe_i, fGt_i, fMin_i, fIsN_n, fNotN_n, fLen_lst, fLen_tup, fTuple_lst, fTuple_tup, U.isNon, truth, fMod_i, fDiv_i, fMul_i, Int.reduceLT, Int.reduceNeg, Int.reducePow, Int.reduceLE, or_true, true_or, and_self, and_true, true_and, eCall, List.append_nil, List.length_cons, List.length_nil, Nat.reduceAdd, Nat.zero_add, eIsi, ht, ha, sRaise]
  rfl
/-! ### marks -/
theorem mark_loop {g : Sto → Prop} (hg : g st) : ∀ (us : List U) (e0 e1 : Option U), us.all plain = true →
    (us.all (isWh · 0 1000) = true ∧ ∃ env', forM g (gN 1) l_check_marks_1 us [e0, e1] st = .next env' st) ∨ (us.all (isWh · 0 1000) = false ∧ ∃ env', forM g (gN 1) l_check_marks_1 us [e0, e1] st = .exc (bad "marks") env' st)
  | [], e0, e1, _ => .inl ⟨rfl, _, forM_nil hg⟩
  | u :: us, e0, e1, hp => by
    rw [List.all_cons, Bool.and_eq_true] at hp
    have hw := whole_ok (lo := 0) (hi := 1000) (st := st) hp.1
    by_cases hu : isWh u 0 1000 = true
    · rw [forM_n (env1 := [e0, some u]) (env2 := [e0, some u]) (st2 := st) hg rfl (by unfold l_check_marks_1; simp only [sSeq, sIf, sAsg, sRet, sDrop, sSetIx, sNext, sCont, NK.tAnd, NK.tOr, NK.tNot, NK.tTru, NK.tB, eOp, eUn, eCB, eIf, eAnd, eOr, eNot, eVar, eC, aCons, aNil, gN, ob, xb, NK.os, NK.xs, nb, rb, kb, eb, List.getElem?_cons_zero, List.getElem?_cons_succ, List.set_cons_zero, List.set_cons_succ, ↓reduceIte, Bool.false_eq_true, Bool.not_true, Bool.not_false, fAdd_i, fSub_i, fNeg_i, fInt_i, fAbs_i, fLt_i, fLe_i, fGt_i, fMin_i, fIsN_n, fNotN_n, fLen_lst, fLen_tup, fTuple_lst, fTuple_tup, U.isNon, truth, fMod_i, fDiv_i, fMul_i, Int.reduceLT, Int.reduceNeg, Int.reducePow, Int.reduceLE, or_true, true_or, and_self, and_true, true_and, eCall, List.append_nil, List.length_cons, List.length_nil, Nat.reduceAdd, Nat.zero_add, hw, hu]), List.all_cons, hu, Bool.true_and]
      exact mark_loop hg us e0 (some u) hp.2
    · refine .inr ⟨by rw [List.all_cons, Bool.eq_false_iff.mpr hu, Bool.false_and], _, forM_x (env1 := [e0, some u]) (env2 := [e0, some u]) (st2 := st) hg rfl ?_⟩
      unfold l_check_marks_1
      simp only [sSeq, sIf, sAsg, sRet, sDrop, sSetIx, sNext, sCont, NK.tAnd, NK.tOr, NK.tNot, NK.tTru, NK.tB, eOp, eUn, eCB, eIf, eAnd, eOr, eNot, eVar, eC, aCons, aNil, gN, ob, xb, NK.os, NK.xs, nb, rb, kb, eb, List.getElem?_cons_zero, List.getElem?_cons_succ, List.set_cons_zero, List.set_cons_succ, ↓reduceIte, Bool.false_eq_true, Bool.not_true, Bool.not_false, fAdd_i, fSub_i, fNeg_i, fInt_i, fAbs_i, fLt_i, fLe_i, fGt_i, fMin_i, fIsN_n, fNotN_n, fLen_lst, fLen_tup, fTuple_lst, fTuple_tup, U.isNon, truth, fMod_i, fDiv_i, fMul_i, Int.reduceLT, Int.reduceNeg, Int.reducePow, Int.reduceLE, or_true, true_or, and_self, and_true, true_and, eCall, List.append_nil, List.length_cons, List.length_nil, Nat.reduceAdd, Nat.zero_add, hw, Bool.eq_false_iff.mpr hu, sRaise]
      rfl
theorem marks_seq (h : Sq v us st) (hp : us.all plain = true) : m_check_marks [v] st = if us.length = 2 ∧ us.all (isWh · 0 1000) = true then .ok .non st else .exc (bad "marks") st := by
  obtain ⟨t, ht, ha⟩ := h.tr
  obtain ⟨g, hs, hg, _⟩ := h.src
  have hl := h.len
  by_cases h2 : us.length = 2
  · have hb : ((us.length : Int) == 2) = true := by rw [h2]; rfl
    rcases mark_loop hg us (some v) none hp with ⟨q, env', e⟩ | ⟨q, env', e⟩
    · rw [if_pos ⟨h2, q⟩]
      refine fs_non0 (env := [some v, none]) (env' := env') rfl ?_
      unfold b_check_marks
      simp only [sSeq, sIf, sAsg, sRet, sDrop, sSetIx, sNext, sCont, NK.tAnd, NK.tOr, NK.tNot, NK.tTru, NK.tB, eOp, eUn, eCB, eIf, eAnd, eOr, eNot, eVar, eC, aCons, aNil, gN, ob, xb, NK.os, NK.xs, nb, rb, kb, eb, List.getElem?_cons_zero, List.getElem?_cons_succ, List.set_cons_zero, List.set_cons_succ, ↓reduceIte, Bool.false_eq_true, Bool.not_true, Bool.not_false, fAdd_i, fSub_i, fNeg_i, fInt_i, fAbs_i, fLt_i, fLe_i, fGt_i, fMin_i, fIsN_n, fNotN_n, fLen_lst, fLen_tup, fTuple_lst, fTuple_tup, U.isNon, truth, fMod_i, fDiv_i, fMul_i, Int.reduceLT, Int.reduceNeg, Int.reducePow, Int.reduceLE, or_true, true_or, and_self, and_true, true_and, eCall, List.append_nil, List.length_cons, List.length_nil, Nat.reduceAdd, Nat.zero_add, eIsi, ht, ha, hl, fNe_ii, hb, sFor, iSeq, hs, e]
    · rw [if_neg (by rw [q]; simp)]
      refine fs_exc (env := [some v, none]) (env' := env') rfl ?_
      unfold b_check_marks
      simp only [sSeq, sIf, sAsg, sRet, sDrop, sSetIx, sNext, sCont, NK.tAnd, NK.tOr, NK.tNot, NK.tTru, NK.tB, eOp, eUn, eCB, eIf, eAnd, eOr, eNot, eVar, eC, aCons, aNil, gN, ob, xb, NK.os, NK.xs, nb, rb, kb, eb, List.getElem?_cons_zero, List.getElem?_cons_succ, List.set_cons_zero, List.set_cons_succ, ↓reduceIte, Bool.false_eq_true, Bool.not_true, Bool.not_false, fAdd_i, fSub_i, fNeg_i, fInt_i, fAbs_i, fLt_i, fLe_i, fGt_i, fMin_i, fIsN_n, fNotN_n, fLen_lst, fLen_tup, fTuple_lst, fTuple_tup, U.isNon, truth, fMod_i, fDiv_i, fMul_i, Int.reduceLT, Int.reduceNeg, Int.reducePow, Int.reduceLE, or_true, true_or, and_self, and_true, true_and, eCall, List.append_nil, List.length_cons, List.length_nil, Nat.reduceAdd, Nat.zero_add, eIsi, ht, ha, hl, fNe_ii, hb, sFor, iSeq, hs, e]
  · have hb : ((us.length : Int) == 2) = false := by
      rw [beq_eq_false_iff_ne]
      omega
    rw [if_neg (fun q => h2 q.1)]
    refine fs_exc (env := [some v, none]) (env' := [some v, none]) rfl ?_
    unfold b_check_marks
    simp only [sSeq, sIf, sAsg, sRet, sDrop, sSetIx, sNext, sCont, NK.tAnd, NK.tOr, NK.tNot, NK.tTru, NK.tB, eOp, eUn, eCB, eIf, eAnd, eOr, eNot, eVar, eC, aCons, aNil, gN, ob, xb, NK.os, NK.xs, nb, rb, kb, eb, List.getElem?_cons_zero, List.getElem?_cons_succ, List.set_cons_zero, List.set_cons_succ, ↓reduceIte, Bool.false_eq_true, Bool.not_true, Bool.not_false, fAdd_i, fSub_i, fNeg_i, fInt_i, fAbs_i, fLt_i, fLe_i, fGt_i, fMin_i, fIsN_n, fNotN_n, fLen_lst, fLen_tup, fTuple_lst, fTuple_tup, U.isNon, truth, fMod_i, fDiv_i, fMul_i, Int.reduceLT, Int.reduceNeg, Int.reducePow, Int.reduceLE, or_true, true_or, and_self, and_true, true_and, eCall, List.append_nil, List.length_cons, List.length_nil, Nat.reduceAdd, Nat.zero_add, eIsi, ht, ha, hl, fNe_ii, hb, sRaise]
    rfl
theorem marks_not (h : notSq v = true) : m_check_marks [v] st = .exc (bad "marks") st := by
  obtain ⟨t, ht, ha⟩ := notSq_tr (st := st) h
  refine fs_exc (env := [some v, none]) (env' := [some v, none]) rfl ?_
  unfold b_check_marks
  simp only [sSeq, sIf, sAsg, sRet, sDrop, sSetIx, sNext, sCont, NK.tAnd, NK.tOr, NK.tNot, NK.tTru, NK.tB, eOp, eUn, eCB, eIf, eAnd, eOr, eNot, eVar, eC, aCons, aNil, gN, ob, xb, NK.os, NK.xs, nb, rb, kb, eb, List.getElem?_cons_zero, List.getElem?_cons_succ, List.set_cons_zero, List.set_cons_succ, ↓reduceIte, Bool.false_eq_true, Bool.not_true, Bool.not_false, fAdd_i, fSub_i, fNeg_i, fInt_i, fAbs_i, fLt_i, fLe_i, fGt_i, fMin_i, fIsN_n, fNotN_n, fLen_lst, fLen_tup, fTuple_lst, fTuple_tup, U.isNon, truth, fMod_i, fDiv_i, fMul_i, Int.reduceLT, Int.reduceNeg, Int.reducePow, Int.reduceLE, or_true, true_or, and_self, and_true, true_and, eCall, List.append_nil, List.length_cons, List.length_nil, Nat.reduceAdd, Nat.zero_add, eIsi, ht, ha, sRaise]
  rfl
/-! ### borne -/
def elemOk (u : U) (st : Sto) : Prop := (∃ ts, Sq u ts st ∧ ts.all plain = true) ∨ notSq u = true
theorem Sq.items (h : Sq v us st) : NK.items v st = some us := by
  rcases h with rfl | rfl | ⟨k, rfl, e⟩
  · rfl
  · rfl
  · simp only [NK.items, e]
theorem notSq_items (h : notSq v = true) : NK.items v st = none := by cases v <;> first | rfl | cases h
def borneB (st : Sto) (c : Int) : Int → List U → Bool
  | _, [] => true
  | l, u :: us => match NK.items u st with
    | some [x, y] => isWh x l c && (isWh y 0 2 && (match x with | .int k => borneB st c (k + 1) us | _ => false))
    | _ => false
theorem borne_turn {u : U} {c l : Int} (e0 : Option U) (hp : elemOk u st) :
    (∃ x k, NK.items u st = some [.int k, x] ∧ isWh (.int k) l c = true ∧ isWh x 0 2 = true ∧ l_check_borne_1 [e0, some (.int c), some (.int l), some u] st = .next [e0, some (.int c), some (.int (k + 1)), some u] st) ∨
    ((∀ us, borneB st c l (u :: us) = false) ∧ l_check_borne_1 [e0, some (.int c), some (.int l), some u] st = .exc (bad "borne") [e0, some (.int c), some (.int l), some u] st) := by
  rcases hp with ⟨ts, h, hpl⟩ | h
  · obtain ⟨t, ht, ha⟩ := h.tr
    have hl := h.len
    have hi := h.items
    by_cases h2 : ts.length = 2
    · obtain ⟨x, y, rfl⟩ : ∃ x y, ts = [x, y] := by
        match ts, h2 with
        | [x, y], _ => exact ⟨x, y, rfl⟩
      simp only [List.all_cons, List.all_nil, Bool.and_true, Bool.and_eq_true] at hpl
      have i0 : fIx u (.int 0) st = .ok x st := h.ix (k := 0) rfl
      have i1 : fIx u (.int 1) st = .ok y st := h.ix (k := 1) rfl
      have w0 := whole_ok (lo := l) (hi := c) (st := st) hpl.1
      have w1 := whole_ok (lo := 0) (hi := 2) (st := st) hpl.2
      have hb : (((2 : Nat) : Int) == 2) = true := rfl
      by_cases a : isWh x l c = true
      · by_cases b : isWh y 0 2 = true
        · obtain ⟨k, rfl⟩ : ∃ k, x = .int k := by
            cases x with
            | int k => exact ⟨k, rfl⟩
            | _ => cases a
          refine .inl ⟨y, k, hi, a, b, ?_⟩
          unfold l_check_borne_1
          simp only [sSeq, sIf, sAsg, sRet, sDrop, sSetIx, sNext, sCont, NK.tAnd, NK.tOr, NK.tNot, NK.tTru, NK.tB, eOp, eUn, eCB, eIf, eAnd, eOr, eNot, eVar, eC, aCons, aNil, gN, ob, xb, NK.os, NK.xs, nb, rb, kb, eb, List.getElem?_cons_zero, List.getElem?_cons_succ, List.set_cons_zero, List.set_cons_succ, ↓reduceIte, Bool.false_eq_true, Bool.not_true, Bool.not_false, fAdd_i, fSub_i, fNeg_i, fInt_i, fAbs_i, fLt_i, fLe_i, fGt_i, fMin_i, fIsN_n, fNotN_n, fLen_lst, fLen_tup, fTuple_lst, fTuple_tup, U.isNon, truth, fMod_i, fDiv_i, fMul_i, Int.reduceLT, Int.reduceNeg, Int.reducePow, Int.reduceLE, or_true, true_or, and_self, and_true, true_and, eCall, List.append_nil, List.length_cons, List.length_nil, Nat.reduceAdd, Nat.zero_add, eIsi, ht, ha, hl, fNe_ii, hb, i0, i1, w0, w1, a, b]
        · refine .inr ⟨fun us => by unfold borneB; rw [hi]; simp [Bool.eq_false_iff.mpr b], ?_⟩
          unfold l_check_borne_1
          simp only [sSeq, sIf, sAsg, sRet, sDrop, sSetIx, sNext, sCont, NK.tAnd, NK.tOr, NK.tNot, NK.tTru, NK.tB, eOp, eUn, eCB, eIf, eAnd, eOr, eNot, eVar, eC, aCons, aNil, gN, ob, xb, NK.os, NK.xs, nb, rb, kb, eb, List.getElem?_cons_zero, List.getElem?_cons_succ, List.set_cons_zero, List.set_cons_succ, ↓reduceIte, Bool.false_eq_true, Bool.not_true, Bool.not_false, fAdd_i, fSub_i, fNeg_i, fInt_i, fAbs_i, fLt_i, fLe_i, fGt_i, fMin_i, fIsN_n, fNotN_n, fLen_lst, fLen_tup, fTuple_lst, fTuple_tup, U.isNon, truth, fMod_i, fDiv_i, fMul_i, Int.reduceLT, Int.reduceNeg, Int.reducePow, Int.reduceLE, or_true, true_or, and_self, and_true, true_and, eCall, List.append_nil, List.length_cons, List.length_nil, Nat.reduceAdd, Nat.zero_add, eIsi, ht, ha, hl, fNe_ii, hb, i0, i1, w0, w1, a, Bool.eq_false_iff.mpr b, sRaise]
          rfl
      · refine .inr ⟨fun us => by unfold borneB; rw [hi]; simp [Bool.eq_false_iff.mpr a], ?_⟩
        unfold l_check_borne_1
        simp only [sSeq, sIf, sAsg, sRet, sDrop, sSetIx, sNext, sCont, NK.tAnd, NK.tOr, NK.tNot, NK.tTru, NK.tB, eOp, eUn, eCB, eIf, eAnd, eOr, eNot, eVar, eC, aCons, aNil, gN, ob, xb, NK.os, NK.xs, nb, rb, kb, eb, List.getElem?_cons_zero, List.getElem?_cons_succ, List.set_cons_zero, List.set_cons_succ, ↓reduceIte, Bool.false_eq_true, Bool.not_true, Bool.not_false, fAdd_i, fSub_i, fNeg_i, fInt_i, fAbs_i, fLt_i, fLe_i, fGt_i, fMin_i, fIsN_n, fNotN_n, fLen_lst, fLen_tup, fTuple_lst, fTuple_tup, U.isNon, truth, fMod_i, fDiv_i, fMul_i, Int.reduceLT, Int.reduceNeg, Int.reducePow, Int.reduceLE, or_true, true_or, and_self, and_true, true_and, eCall, List.append_nil, List.length_cons, List.length_nil, Nat.reduceAdd, Nat.zero_add, eIsi, ht, ha, hl, fNe_ii, hb, i0, i1, w0, w1, Bool.eq_false_iff.mpr a, sRaise]
        rfl
    · have hb : ((ts.length : Int) == 2) = false := by
        rw [beq_eq_false_iff_ne]
        omega
      refine .inr ⟨fun us => ?_, ?_⟩
      · unfold borneB
        rw [hi]
        match ts, h2 with
        | [], _ => rfl
        | [_], _ => rfl
        | _ :: _ :: _ :: _, _ => rfl
      · unfold l_check_borne_1
        simp only [sSeq, sIf, sAsg, sRet, sDrop, sSetIx, sNext, sCont, NK.tAnd, NK.tOr, NK.tNot, NK.tTru, NK.tB, eOp, eUn, eCB, eIf, eAnd, eOr, eNot, eVar, eC, aCons, aNil, gN, ob, xb, NK.os, NK.xs, nb, rb, kb, eb, List.getElem?_cons_zero, List.getElem?_cons_succ, List.set_cons_zero, List.set_cons_succ, ↓reduceIte, Bool.false_eq_true, Bool.not_true, Bool.not_false, fAdd_i, fSub_i, fNeg_i, fInt_i, fAbs_i, fLt_i, fLe_i, fGt_i, fMin_i, fIsN_n, fNotN_n, fLen_lst, fLen_tup, fTuple_lst, fTuple_tup, U.isNon, truth, fMod_i, fDiv_i, fMul_i, Int.reduceLT, Int.reduceNeg, Int.reducePow, Int.reduceLE, or_true, true_or, and_self, and_true, true_and, eCall, List.append_nil, List.length_cons, List.length_nil, Nat.reduceAdd, Nat.zero_add, eIsi, ht, ha, hl, fNe_ii, hb, sRaise]
        rfl
  · obtain ⟨t, ht, ha⟩ := notSq_tr (st := st) h
    refine .inr ⟨fun us => by unfold borneB; rw [notSq_items h], ?_⟩
    unfold l_check_borne_1
    simp only [sSeq, sIf, sAsg, sRet, sDrop, sSetIx, sNext, sCont, NK.tAnd, NK.tOr, NK.tNot, NK.tTru, NK.tB, eOp, eUn, eCB, eIf, eAnd, eOr, eNot, eVar, eC, aCons, aNil, gN, ob, xb, NK.os, NK.xs, nb, rb, kb, eb, List.getElem?_cons_zero, List.getElem?_cons_succ, List.set_cons_zero, List.set_cons_succ, ↓reduceIte, Bool.false_eq_true, Bool.not_true, Bool.not_false, fAdd_i, fSub_i, fNeg_i, fInt_i, fAbs_i, fLt_i, fLe_i, fGt_i, fMin_i, fIsN_n, fNotN_n, fLen_lst, fLen_tup, fTuple_lst, fTuple_tup, U.isNon, truth, fMod_i, fDiv_i, fMul_i, Int.reduceLT, Int.reduceNeg, Int.reducePow, Int.reduceLE, or_true, true_or, and_self, and_true, true_and, eCall, List.append_nil, List.length_cons, List.length_nil, Nat.reduceAdd, Nat.zero_add, eIsi, ht, ha, sRaise]
    rfl
theorem borne_loop {g : Sto → Prop} {c : Int} (hg : g st) : ∀ (us : List U) (l : Int) (e0 e3 : Option U), (∀ u ∈ us, elemOk u st) →
    (borneB st c l us = true ∧ ∃ env', forM g (gN 3) l_check_borne_1 us [e0, some (.int c), some (.int l), e3] st = .next env' st) ∨ (borneB st c l us = false ∧ ∃ env', forM g (gN 3) l_check_borne_1 us [e0, some (.int c), some (.int l), e3] st = .exc (bad "borne") env' st)
  | [], l, e0, e3, _ => .inl ⟨rfl, _, forM_nil hg⟩
  | u :: us, l, e0, e3, hp => by
    rcases borne_turn (c := c) (l := l) e0 (hp u List.mem_cons_self) with ⟨x, k, hi, a, b, e⟩ | ⟨q, e⟩
    · rw [forM_n (env1 := [e0, some (.int c), some (.int l), some u]) hg rfl e]
      have r : borneB st c l (u :: us) = borneB st c (k + 1) us := by
        rw [borneB, hi]
        simp only [a, b, Bool.true_and]
      rw [r]
      exact borne_loop hg us (k + 1) e0 (some u) fun w hw => hp w (List.mem_cons_of_mem _ hw)
    · exact .inr ⟨q us, _, forM_x (env1 := [e0, some (.int c), some (.int l), some u]) hg rfl e⟩
theorem borne_seq {c : Int} (h : Sq v us st) (hp : ∀ u ∈ us, elemOk u st) : m_check_borne [v, .int c] st = if borneB st c 0 us = true then .ok .non st else .exc (bad "borne") st := by
  obtain ⟨t, ht, ha⟩ := h.tr
  obtain ⟨g, hs, hg, _⟩ := h.src
  rcases borne_loop (c := c) hg us 0 (some v) none hp with ⟨q, env', e⟩ | ⟨q, env', e⟩
  · rw [if_pos q]
    refine fs_non0 (env := [some v, some (.int c), none, none]) (env' := env') rfl ?_
    unfold b_check_borne
    simp only [sSeq, sIf, sAsg, sRet, sDrop, sSetIx, sNext, sCont, NK.tAnd, NK.tOr, NK.tNot, NK.tTru, NK.tB, eOp, eUn, eCB, eIf, eAnd, eOr, eNot, eVar, eC, aCons, aNil, gN, ob, xb, NK.os, NK.xs, nb, rb, kb, eb, List.getElem?_cons_zero, List.getElem?_cons_succ, List.set_cons_zero, List.set_cons_succ, ↓reduceIte, Bool.false_eq_true, Bool.not_true, Bool.not_false, fAdd_i, fSub_i, fNeg_i, fInt_i, fAbs_i, fLt_i, fLe_i, fGt_i, fMin_i, fIsN_n, fNotN_n, fLen_lst, fLen_tup, fTuple_lst, fTuple_tup, U.isNon, truth, fMod_i, fDiv_i, fMul_i, Int.reduceLT, Int.reduceNeg, Int.reducePow, Int.reduceLE, or_true, true_or, and_self, and_true, true_and, eCall, List.append_nil, List.length_cons, List.length_nil, Nat.reduceAdd, Nat.zero_add, eIsi, ht, ha, sFor, iSeq, hs, e]
  · rw [if_neg (by rw [q]; exact Bool.false_ne_true)]
    refine fs_exc (env := [some v, some (.int c), none, none]) (env' := env') rfl ?_
    unfold b_check_borne
    simp only [sSeq, sIf, sAsg, sRet, sDrop, sSetIx, sNext, sCont, NK.tAnd, NK.tOr, NK.tNot, NK.tTru, NK.tB, eOp, eUn, eCB, eIf, eAnd, eOr, eNot, eVar, eC, aCons, aNil, gN, ob, xb, NK.os, NK.xs, nb, rb, kb, eb, List.getElem?_cons_zero, List.getElem?_cons_succ, List.set_cons_zero, List.set_cons_succ, ↓reduceIte, Bool.false_eq_true, Bool.not_true, Bool.not_false, fAdd_i, fSub_i, fNeg_i, fInt_i, fAbs_i, fLt_i, fLe_i, fGt_i, fMin_i, fIsN_n, fNotN_n, fLen_lst, fLen_tup, fTuple_lst, fTuple_tup, U.isNon, truth, fMod_i, fDiv_i, fMul_i, Int.reduceLT, Int.reduceNeg, Int.reducePow, Int.reduceLE, or_true, true_or, and_self, and_true, true_and, eCall, List.append_nil, List.length_cons, List.length_nil, Nat.reduceAdd, Nat.zero_add, eIsi, ht, ha, sFor, iSeq, hs, e]
theorem borne_not {c : Int} (h : notSq v = true) : m_check_borne [v, .int c] st = .exc (bad "borne") st := by
  obtain ⟨t, ht, ha⟩ := notSq_tr (st := st) h
  refine fs_exc (env := [some v, some (.int c), none, none]) (env' := [some v, some (.int c), none, none]) rfl ?_
  unfold b_check_borne
  simp only [sSeq, sIf, sAsg, sRet, sDrop, sSetIx, sNext, sCont, NK.tAnd, NK.tOr, NK.tNot, NK.tTru, NK.tB, eOp, eUn, eCB, eIf, eAnd, eOr, eNot, eVar, eC, aCons, aNil, gN, ob, xb, NK.os, NK.xs, nb, rb, kb, eb, List.getElem?_cons_zero, List.getElem?_cons_succ, List.set_cons_zero, List.set_cons_succ, ↓reduceIte, Bool.false_eq_true, Bool.not_true, Bool.not_false, fAdd_i, fSub_i, fNeg_i, fInt_i, fAbs_i, fLt_i, fLe_i, fGt_i, fMin_i, fIsN_n, fNotN_n, fLen_lst, fLen_tup, fTuple_lst, fTuple_tup, U.isNon, truth, fMod_i, fDiv_i, fMul_i, Int.reduceLT, Int.reduceNeg, Int.reducePow, Int.reduceLE, or_true, true_or, and_self, and_true, true_and, eCall, List.append_nil, List.length_cons, List.length_nil, Nat.reduceAdd, Nat.zero_add, eIsi, ht, ha, sRaise]
  rfl
end
end G

set_option Elab.async false
set_option linter.all false
set_option maxRecDepth 100000
set_option maxHeartbeats 2000000
/-! Q35e: what the law draws. -/
namespace G
open PySem L2 NK
def lstK (xs : List U) (st1 : Sto) : Out U := if xs.length ≤ 16777216 then .ok (.loc st1.length) (st1 ++ [.lst xs]) else .bad
theorem lstK_nil {st : Sto} : lstK [] st = .ok (.loc st.length) (st ++ [.lst []]) := by
  unfold lstK
  exact if_pos (Nat.zero_le _)
theorem lstK_ok {xs : List U} {st : Sto} (h : xs.length ≤ 1000) : lstK xs st = .ok (.loc st.length) (st ++ [.lst xs]) := by
  unfold lstK
  rw [if_pos (Nat.le_trans h (by omega))]
theorem eLst_k {ma : MA} {env : NK.Env} {st : Sto} : eLst ma env st = (ma env st).bind lstK := rfl
theorem esl {ma : MA} {env : NK.Env} {st : Sto} : eScope (eLst ma) env st = scopeOut st ((ma env st).bind lstK) := rfl
theorem sc_lit {us : List U} {st : Sto} {k : Nat} (hk : k = st.length) (h : U.underL 0 us = true) : scopeOut st (.ok (.loc k) (st ++ [.lst us])) = .ok (.lst us) st := by
  subst hk
  exact sc_loc (j := 0) [.lst us] (Old.refl st) rfl h
/-- None or a class -/
def entU (u : U) : Prop := u = .non ∨ ∃ k : Nat, u = .int (k : Int)
theorem entU.plain {u : U} (h : entU u) : plain u = true := by rcases h with rfl | ⟨k, rfl⟩ <;> rfl
theorem entU.ok {u : U} (h : entU u) (n : Nat) : okU (n + 1) u = true := by rcases h with rfl | ⟨k, rfl⟩ <;> rfl
theorem pw62 : (2 : Int) ^ 62 = 4611686018427387904 := by decide
theorem rng_ok {ma : MA} {env : NK.Env} {st st1 : Sto} {n : Nat} (h : ma env st = .ok [.int (n : Int)] st1) (hn : n ≤ 1000) : NK.iRng1 ma env st = .ok ⟨(List.range n).map fun (i : Nat) => .int (0 + (i : Int)), fun _ => True⟩ st1 := by
  unfold NK.iRng1
  rw [h, ob]
  show (if -(2 ^ 62) ≤ (n : Int) ∧ (n : Int) < 2 ^ 62 then _ else _) = _
  rw [pw62, if_pos ⟨by omega, by omega⟩, Int.toNat_natCast]
/-! ### classes -/
section
variable {st : Sto} {kvs kvs' : List (Key × U)} {acc acc' : List U}
theorem dk0 : (st ++ [Ob.dK kvs, Ob.lst acc])[st.length]? = some (.dK kvs) := by simp
theorem dk1 : (st ++ [Ob.dK kvs, Ob.lst acc])[st.length + 1]? = some (.lst acc) := by simp
theorem ds0 : (st ++ [Ob.dK kvs, Ob.lst acc]).set st.length (.dK kvs') = st ++ [Ob.dK kvs', Ob.lst acc] := by simp
theorem ds1 : (st ++ [Ob.dK kvs, Ob.lst acc]).set (st.length + 1) (.lst acc') = st ++ [Ob.dK kvs, Ob.lst acc'] := by simp
end
theorem any_val {kvs : List (Key × U)} {k : Key} : (kvs.any fun kv => decide (kv.1 = k)) = (valU kvs k).isSome := by
  induction kvs with
  | nil => rfl
  | cons x xs ih =>
    by_cases e : x.1 = k
    · simp [valU, e]
    · have a : valU (x :: xs) k = valU xs k := by simp [valU, List.find?, e]
      rw [a, ← ih]
      simp [e]
theorem put_new {kvs : List (Key × U)} {k : Key} {w : U} (h : valU kvs k = none) : putU kvs k w = kvs ++ [(k, w)] := by
  unfold putU
  rw [any_val, h]
  rfl
theorem val_snoc {kvs : List (Key × U)} {k : Key} {w : U} (h : valU kvs k = none) : valU (kvs ++ [(k, w)]) k = some w := by
  unfold valU at h ⊢
  rw [List.find?_append]
  rw [Option.map_eq_none_iff] at h
  rw [h]
  simp
theorem val_snoc2 {kvs : List (Key × U)} {k k' : Key} {w x : U} (h : valU (kvs ++ [(k, w)]) k' = some x) : valU kvs k' = some x ∨ x = w := by
  unfold valU at h ⊢
  rw [List.find?_append] at h
  cases q : kvs.find? fun kv => decide (kv.1 = k') with
  | none =>
    rw [q] at h
    right
    by_cases e : k = k'
    · simp [e] at h
      exact h.symm
    · simp [e] at h
  | some y =>
    rw [q] at h
    left
    simpa using h
def dkInv (kvs : List (Key × U)) : Prop := ∀ k w, valU kvs k = some w → ∃ i : Nat, w = .int (i : Int) ∧ i < kvs.length
theorem cls_loop {st : Sto} : ∀ (us : List U) (kvs : List (Key × U)) (acc : List U) (v e3 : Option U), (∀ u ∈ us, entU u) → dkInv kvs → kvs.length + us.length ≤ 1000 → acc.length + us.length ≤ 1000 →
    ∃ ks kvs' env', forM (fun _ => True) (gN 3) l_u_law_classes_1 us [v, some (.loc st.length), some (.loc (st.length + 1)), e3] (st ++ [.dK kvs, .lst acc]) = .next env' (st ++ [.dK kvs', .lst (acc ++ ks)]) ∧
      env'[2]? = some (some (.loc (st.length + 1))) ∧ ks.length = us.length ∧ (∀ u ∈ ks, entU u) ∧ ∀ n, faultL n kvs.length ks = .non
  | [], kvs, acc, v, e3, _, _, _, _ => ⟨[], kvs, _, by rw [forM_nil True.intro, List.append_nil], rfl, rfl, (fun _ h => nomatch h), fun _ => rfl⟩
  | u :: us, kvs, acc, v, e3, hu, hi, h1, h2 => by
    rw [List.length_cons] at h1 h2
    have hus := fun w hw => hu w (List.mem_cons_of_mem _ hw)
    have step : ∀ (w : U) (kvs2 : List (Key × U)), l_u_law_classes_1 [v, some (.loc st.length), some (.loc (st.length + 1)), some u] (st ++ [.dK kvs, .lst acc]) = .next [v, some (.loc st.length), some (.loc (st.length + 1)), some u] (st ++ [.dK kvs2, .lst (acc ++ [w])]) →
        dkInv kvs2 → kvs2.length + us.length ≤ 1000 → entU w → (∀ ks, (∀ n, faultL n kvs2.length ks = .non) → ∀ n, faultL n kvs.length (w :: ks) = .non) →
        ∃ ks kvs' env', forM (fun _ => True) (gN 3) l_u_law_classes_1 (u :: us) [v, some (.loc st.length), some (.loc (st.length + 1)), e3] (st ++ [.dK kvs, .lst acc]) = .next env' (st ++ [.dK kvs', .lst (acc ++ ks)]) ∧
      env'[2]? = some (some (.loc (st.length + 1))) ∧ ks.length = (u :: us).length ∧ (∀ u ∈ ks, entU u) ∧ ∀ n, faultL n kvs.length ks = .non := by
      intro w kvs2 e i2 l2 ew hf
      obtain ⟨ks, kvs', env', a1, a2, a3, a4, a5⟩ := cls_loop us kvs2 (acc ++ [w]) v (some u) hus i2 l2 (by simp; omega)
      refine ⟨w :: ks, kvs', env', ?_, a2, by simp [a3], fun x hx => ?_, hf ks a5⟩
      · rw [forM_n (env1 := [v, some (.loc st.length), some (.loc (st.length + 1)), some u]) True.intro rfl e, a1, List.append_assoc]
        rfl
      · rcases List.mem_cons.mp hx with rfl | q
        · exact ew
        · exact a4 x q
    have hz : acc.length < 16777216 := by omega
    have hz2 : kvs.length < 16777216 := by omega
    rcases hu u List.mem_cons_self with rfl | ⟨k, rfl⟩
    · refine step .non kvs ?_ hi (by omega) (.inl rfl) fun ks q n => q (n + 1)
      simp only [l_u_law_classes_1, sSeq, sIf, sAsg, sRet, sDrop, sSetIx, sNext, sCont, NK.tAnd, NK.tOr, NK.tNot, NK.tTru, NK.tB, eOp, eUn, eCB, eIf, eAnd, eOr, eNot, eVar, eC, aCons, aNil, gN, ob, xb, NK.os, NK.xs, nb, rb, kb, eb, List.getElem?_cons_zero, List.getElem?_cons_succ, List.set_cons_zero, List.set_cons_succ, ↓reduceIte, Bool.false_eq_true, Bool.not_true, Bool.not_false, fAdd_i, fSub_i, fNeg_i, fInt_i, fAbs_i, fLt_i, fLe_i, fGt_i, fMin_i, fIsN_n, fNotN_n, fLen_lst, fLen_tup, fTuple_lst, fTuple_tup, U.isNon, truth, fMod_i, fDiv_i, fMul_i, Int.reduceLT, Int.reduceNeg, Int.reducePow, Int.reduceLE, or_true, true_or, and_self, and_true, true_and, eCall, List.append_nil, List.length_cons, List.length_nil, Nat.reduceAdd, Nat.zero_add, eBM, isLoc, fApp, dk1, hz, ds1]
    · cases q : valU kvs (.inl (k : Int)) with
      | some w =>
        obtain ⟨i, rfl, hi2⟩ := hi _ _ q
        refine step (.int (i : Int)) kvs ?_ hi (by omega) (.inr ⟨i, rfl⟩) fun ks q n => ?_
        · simp only [l_u_law_classes_1, sSeq, sIf, sAsg, sRet, sDrop, sSetIx, sNext, sCont, NK.tAnd, NK.tOr, NK.tNot, NK.tTru, NK.tB, eOp, eUn, eCB, eIf, eAnd, eOr, eNot, eVar, eC, aCons, aNil, gN, ob, xb, NK.os, NK.xs, nb, rb, kb, eb, List.getElem?_cons_zero, List.getElem?_cons_succ, List.set_cons_zero, List.set_cons_succ, ↓reduceIte, Bool.false_eq_true, Bool.not_true, Bool.not_false, fAdd_i, fSub_i, fNeg_i, fInt_i, fAbs_i, fLt_i, fLe_i, fGt_i, fMin_i, fIsN_n, fNotN_n, fLen_lst, fLen_tup, fTuple_lst, fTuple_tup, U.isNon, truth, fMod_i, fDiv_i, fMul_i, Int.reduceLT, Int.reduceNeg, Int.reducePow, Int.reduceLE, or_true, true_or, and_self, and_true, true_and, eCall, List.append_nil, List.length_cons, List.length_nil, Nat.reduceAdd, Nat.zero_add, eBM, isLoc, fApp, fDIn, fDGet, dictAt, keyU, q, Option.isSome_some, bne_self_eq_false, dk0, dk1, hz, ds1]
        · have := q (n + 1)
          rw [faultL]
          rw [if_neg (by omega), if_neg (by omega), if_neg (by omega)]
          exact this
      | none =>
        have pn := put_new (w := .int (kvs.length : Int)) q
        have vn := val_snoc (w := .int (kvs.length : Int)) q
        refine step (.int (kvs.length : Int)) (kvs ++ [(.inl (k : Int), .int (kvs.length : Int))]) ?_ ?_ (by simp; omega) (.inr ⟨_, rfl⟩) fun ks q n => ?_
        · simp only [l_u_law_classes_1, sSeq, sIf, sAsg, sRet, sDrop, sSetIx, sNext, sCont, NK.tAnd, NK.tOr, NK.tNot, NK.tTru, NK.tB, eOp, eUn, eCB, eIf, eAnd, eOr, eNot, eVar, eC, aCons, aNil, gN, ob, xb, NK.os, NK.xs, nb, rb, kb, eb, List.getElem?_cons_zero, List.getElem?_cons_succ, List.set_cons_zero, List.set_cons_succ, ↓reduceIte, Bool.false_eq_true, Bool.not_true, Bool.not_false, fAdd_i, fSub_i, fNeg_i, fInt_i, fAbs_i, fLt_i, fLe_i, fGt_i, fMin_i, fIsN_n, fNotN_n, fLen_lst, fLen_tup, fTuple_lst, fTuple_tup, U.isNon, truth, fMod_i, fDiv_i, fMul_i, Int.reduceLT, Int.reduceNeg, Int.reducePow, Int.reduceLE, or_true, true_or, and_self, and_true, true_and, eCall, List.append_nil, List.length_cons, List.length_nil, Nat.reduceAdd, Nat.zero_add, eBM, isLoc, fApp, fDIn, fDGet, NK.sDPut, dput, fLenO, dictAt, keyU, q, Option.isSome_none, bne, beq_self_eq_true, dk0, dk1, hz, hz2, ds0, ds1, pn, vn, Bool.false_beq]
        · intro k' w' h
          rcases val_snoc2 h with a | rfl
          · obtain ⟨i, e1, e2⟩ := hi _ _ a
            exact ⟨i, e1, by simp; omega⟩
          · exact ⟨kvs.length, rfl, by simp⟩
        · have := q (n + 1)
          rw [faultL]
          rw [if_neg (by omega), if_neg (by omega)]
          simp only [↓reduceIte]
          rw [List.length_append, List.length_singleton] at this
          exact this
theorem ent_under {ks : List U} (h : ∀ u ∈ ks, entU u) : U.underL 0 ks = true := underL_all fun u hu => by rcases h u hu with rfl | ⟨k, rfl⟩ <;> rfl
theorem classes_ok {us : List U} {st : Sto} (hu : ∀ u ∈ us, entU u) (hl : us.length ≤ 1000) : ∃ ks, m_u_law_classes [.lst us] st = .ok (.tup ks) st ∧ ks.length = us.length ∧ (∀ u ∈ ks, entU u) ∧ faultL 0 0 ks = .non := by
  obtain ⟨ks, kvs', env', a1, a2, a3, a4, a5⟩ := cls_loop (st := st) us [] [] (some (.lst us)) none hu (fun k w h => by simp [valU] at h) (by simpa using hl) (by simpa using hl)
  rw [List.nil_append] at a1
  refine ⟨ks, fs_val (env := [some (.lst us), none, none, none]) (ext := [.dK kvs', .lst ks]) rfl ?_ (Old.refl st) (by unfold U.under; exact ent_under a4), a3, a4, a5 0⟩
  have e2 : (st ++ [Ob.dK []]).length = st.length + 1 := by simp
  have e3 : (st ++ [Ob.dK []]) ++ [Ob.lst []] = st ++ [.dK [], .lst []] := by simp
  have hz : (0 : Nat) ≤ 16777216 := by decide
  unfold b_u_law_classes
  simp only [sSeq, sIf, sAsg, sRet, sDrop, sSetIx, sNext, sCont, NK.tAnd, NK.tOr, NK.tNot, NK.tTru, NK.tB, eOp, eUn, eCB, eIf, eAnd, eOr, eNot, eVar, eC, aCons, aNil, gN, ob, xb, NK.os, NK.xs, nb, rb, kb, eb, List.getElem?_cons_zero, List.getElem?_cons_succ, List.set_cons_zero, List.set_cons_succ, ↓reduceIte, Bool.false_eq_true, Bool.not_true, Bool.not_false, fAdd_i, fSub_i, fNeg_i, fInt_i, fAbs_i, fLt_i, fLe_i, fGt_i, fMin_i, fIsN_n, fNotN_n, fLen_lst, fLen_tup, fTuple_lst, fTuple_tup, U.isNon, truth, fMod_i, fDiv_i, fMul_i, Int.reduceLT, Int.reduceNeg, Int.reducePow, Int.reduceLE, or_true, true_or, and_self, and_true, true_and, eCall, List.append_nil, List.length_cons, List.length_nil, Nat.reduceAdd, Nat.zero_add, eDict, eLst, hz, e2, e3, sFor, iSeq, NK.src, a1, a2, fTuple_loc dk1]
end G

set_option Elab.async false
set_option linter.all false
set_option maxRecDepth 100000
set_option maxHeartbeats 2000000
/-! Q35e: what the law draws. -/
namespace G
open PySem L2 NK
/-- entries as the law draws them -/
structure Ents (es : List U) : Prop where
  ent : ∀ u ∈ es, entU u
  len : es.length ≤ 6
  good : faultL 0 0 es = .non
theorem entries_body {h h1 h2 : Ob} {st : Sto} {n : Int} {ws ks : List U} {md mc : MF} {mw : ME} (e1 : md [.loc 0, .int 7] (h :: st) = .ok (.int n) (h1 :: st)) (e2 : mw [some (.loc 0), some (.int n), none] (h1 :: st) = .ok (.lst ws) (h2 :: st))
    (e3 : mc [.lst ws] (h2 :: st) = .ok (.tup ks) (h2 :: st)) (H2 : HOb h2) (s3 : ∀ u ∈ ks, entU u) :
    (sSeq (sAsg (eCall 2 md [] (aCons (eVar 0) (aCons (eC (.int 7)) aNil))) (gN 1)) (sRet (eScope (eCB fList (aCons (eCall 1 mc [] (aCons mw aNil)) aNil))))) [some (.loc 0), none, none] (h :: st) = .ret (.lst ks) (h2 :: st) := by
  have inner : eScope (eCB fList (aCons (eCall 1 mc [] (aCons mw aNil)) aNil)) [some (.loc 0), some (.int n), none] (h1 :: st) = .ok (.lst ks) (h2 :: st) := by
    show scopeOut (h1 :: st) _ = _
    simp only [eCB, aCons, aNil, eCall, e2, ob, List.append_nil, List.length_cons, List.length_nil, ↓reduceIte, e3, fList, NK.items]
    exact sc_loc (st := h1 :: st) (st2 := h2 :: st) (j := 0) [.lst ks] (Old.hand H2.under) rfl (ent_under s3)
  simp only [sSeq, sIf, sAsg, sRet, sDrop, sSetIx, sNext, sCont, NK.tAnd, NK.tOr, NK.tNot, NK.tTru, NK.tB, eOp, eUn, eCB, eIf, eAnd, eOr, eNot, eVar, eC, aCons, aNil, gN, ob, xb, NK.os, NK.xs, nb, rb, kb, eb, List.getElem?_cons_zero, List.getElem?_cons_succ, List.set_cons_zero, List.set_cons_succ, ↓reduceIte, Bool.false_eq_true, Bool.not_true, Bool.not_false, fAdd_i, fSub_i, fNeg_i, fInt_i, fAbs_i, fLt_i, fLe_i, fGt_i, fMin_i, fIsN_n, fNotN_n, fLen_lst, fLen_tup, fTuple_lst, fTuple_tup, U.isNon, truth, fMod_i, fDiv_i, fMul_i, Int.reduceLT, Int.reduceNeg, Int.reducePow, Int.reduceLE, or_true, true_or, and_self, and_true, true_and, eCall, List.append_nil, List.length_cons, List.length_nil, Nat.reduceAdd, Nat.zero_add, e1, inner]
theorem entries_drawn {h : Ob} {st : Sto} (H : HOb h) : ∃ es h', HOb h' ∧ Ents es ∧ m_u_law_entries [.loc 0] (h :: st) = .ok (.lst es) (h' :: st) := by
  obtain ⟨d, h1, H1, d0, d1, e1⟩ := draw_ok (st := st) (m := 7) H (by decide) (by decide)
  obtain ⟨n, rfl⟩ := Int.eq_ofNat_of_zero_le d0
  obtain ⟨ws, h2, H2, s2, l2, e2⟩ := comp_drawn (g := fun _ => True) (i := 2) (mt := NK.tYes) (me := eCall 2 m_u_law_pick [] (aCons (eVar 0) (aCons (eScope (eLst (aCons (eC .non) (aCons (eC (.int 0)) (aCons (eC (.int 1)) (aCons (eC (.int 2)) (aCons (eC (.int 3)) (aCons (eC (.int 4)) (aCons (eC (.int 5)) aNil))))))))) aNil)))
    (mi := NK.iRng1 (aCons (eVar 1) aNil)) (env := [some (.loc 0), some (.int (n : Int)), none]) (st := st) HOb entU (us := (List.range n).map fun (i : Nat) => .int (0 + (i : Int))) (h := h1) (h1 := h1) (rng_ok (by simp only [sSeq, sIf, sAsg, sRet, sDrop, sSetIx, sNext, sCont, NK.tAnd, NK.tOr, NK.tNot, NK.tTru, NK.tB, eOp, eUn, eCB, eIf, eAnd, eOr, eNot, eVar, eC, aCons, aNil, gN, ob, xb, NK.os, NK.xs, nb, rb, kb, eb, List.getElem?_cons_zero, List.getElem?_cons_succ, List.set_cons_zero, List.set_cons_succ, ↓reduceIte, Bool.false_eq_true, Bool.not_true, Bool.not_false, fAdd_i, fSub_i, fNeg_i, fInt_i, fAbs_i, fLt_i, fLe_i, fGt_i, fMin_i, fIsN_n, fNotN_n, fLen_lst, fLen_tup, fTuple_lst, fTuple_tup, U.isNon, truth, fMod_i, fDiv_i, fMul_i, Int.reduceLT, Int.reduceNeg, Int.reducePow, Int.reduceLE, or_true, true_or, and_self, and_true, true_and, eCall, List.append_nil, List.length_cons, List.length_nil, Nat.reduceAdd, Nat.zero_add]) (by omega)) H1 (fun o ho => ho.under) (fun w hw => by rcases hw with rfl | ⟨k, rfl⟩ <;> rfl) (fun _ _ _ => True.intro) (by simp; omega) (fun u hu h acc hh => by
      refine ⟨rfl, ?_⟩
      obtain ⟨w, h', hw, hh', ep⟩ := pick_ok (st := st ++ [Ob.lst acc]) (us := [.non, .int 0, .int 1, .int 2, .int 3, .int 4, .int 5]) hh (by simp) (by simp) rfl
      refine ⟨w, h', hh', ?_, ?_⟩
      · simp only [List.mem_cons, List.not_mem_nil, or_false] at hw
        rcases hw with rfl | rfl | rfl | rfl | rfl | rfl | rfl
        · exact .inl rfl
        · exact .inr ⟨0, rfl⟩
        · exact .inr ⟨1, rfl⟩
        · exact .inr ⟨2, rfl⟩
        · exact .inr ⟨3, rfl⟩
        · exact .inr ⟨4, rfl⟩
        · exact .inr ⟨5, rfl⟩
      · rw [List.cons_append]
        simp only [sSeq, sIf, sAsg, sRet, sDrop, sSetIx, sNext, sCont, NK.tAnd, NK.tOr, NK.tNot, NK.tTru, NK.tB, eOp, eUn, eCB, eIf, eAnd, eOr, eNot, eVar, eC, aCons, aNil, gN, ob, xb, NK.os, NK.xs, nb, rb, kb, eb, List.getElem?_cons_zero, List.getElem?_cons_succ, List.set_cons_zero, List.set_cons_succ, ↓reduceIte, Bool.false_eq_true, Bool.not_true, Bool.not_false, fAdd_i, fSub_i, fNeg_i, fInt_i, fAbs_i, fLt_i, fLe_i, fGt_i, fMin_i, fIsN_n, fNotN_n, fLen_lst, fLen_tup, fTuple_lst, fTuple_tup, U.isNon, truth, fMod_i, fDiv_i, fMul_i, Int.reduceLT, Int.reduceNeg, Int.reducePow, Int.reduceLE, or_true, true_or, and_self, and_true, true_and, eCall, List.append_nil, List.length_cons, List.length_nil, Nat.reduceAdd, Nat.zero_add, esl, lstK_ok, Nat.reduceLeDiff, sc_lit, U.underL, U.under, Bool.and_self, ep]
        rfl)
  have hl : ws.length ≤ 6 := by rw [l2]; simp; omega
  obtain ⟨ks, e3, l3, s3, g3⟩ := classes_ok (st := h2 :: st) s2 (by omega)
  exact ⟨ks, h2, H2, ⟨s3, by omega, g3⟩, fs_old (env := [some (.loc 0), none, none]) rfl (entries_body e1 e2 e3 H2 s3) (Old.hand H2.under) (by unfold U.under; exact ent_under s3)⟩
/-! ### lives -/
theorem lifeU.flat {u : U} (h : lifeU u = true) : flatU u = true := by cases u <;> first | rfl | cases h
theorem lives_drawn {h : Ob} {st : Sto} (H : HOb h) : ∃ ls h', HOb h' ∧ (∀ u ∈ ls, u = .str "alive" ∨ u = .str "dead" ∨ u = .non) ∧ ls.length ≤ 4 ∧ m_u_law_drawn_lives [.loc 0] (h :: st) = .ok (.lst ls) (h' :: st) := by
  obtain ⟨d, h1, H1, d0, d1, e1⟩ := draw_ok (st := st) (m := 5) H (by decide) (by decide)
  obtain ⟨n, rfl⟩ := Int.eq_ofNat_of_zero_le d0
  obtain ⟨ws, h2, H2, s2, l2, e2⟩ := comp_drawn (g := fun _ => True) (i := 1) (mt := NK.tYes) (me := eCall 2 m_u_law_pick [] (aCons (eVar 0) (aCons (eScope (eLst (aCons (eC (.str "alive")) (aCons (eC (.str "dead")) (aCons (eC .non) aNil))))) aNil)))
    (mi := NK.iRng1 (aCons (eCall 2 m_u_law_draw [] (aCons (eVar 0) (aCons (eC (.int 5)) aNil))) aNil)) (env := [some (.loc 0), none]) (st := st) HOb (fun u => u = .str "alive" ∨ u = .str "dead" ∨ u = .non) (us := (List.range n).map fun (i : Nat) => .int (0 + (i : Int))) (h := h) (h1 := h1) (rng_ok (by simp only [sSeq, sIf, sAsg, sRet, sDrop, sSetIx, sNext, sCont, NK.tAnd, NK.tOr, NK.tNot, NK.tTru, NK.tB, eOp, eUn, eCB, eIf, eAnd, eOr, eNot, eVar, eC, aCons, aNil, gN, ob, xb, NK.os, NK.xs, nb, rb, kb, eb, List.getElem?_cons_zero, List.getElem?_cons_succ, List.set_cons_zero, List.set_cons_succ, ↓reduceIte, Bool.false_eq_true, Bool.not_true, Bool.not_false, fAdd_i, fSub_i, fNeg_i, fInt_i, fAbs_i, fLt_i, fLe_i, fGt_i, fMin_i, fIsN_n, fNotN_n, fLen_lst, fLen_tup, fTuple_lst, fTuple_tup, U.isNon, truth, fMod_i, fDiv_i, fMul_i, Int.reduceLT, Int.reduceNeg, Int.reducePow, Int.reduceLE, or_true, true_or, and_self, and_true, true_and, eCall, List.append_nil, List.length_cons, List.length_nil, Nat.reduceAdd, Nat.zero_add, e1]) (by omega)) H1 (fun o ho => ho.under) (fun w hw => by rcases hw with rfl | rfl | rfl <;> rfl) (fun _ _ _ => True.intro) (by simp; omega) (fun u hu h acc hh => by
      refine ⟨rfl, ?_⟩
      obtain ⟨w, h', hw, hh', ep⟩ := pick_ok (st := st ++ [Ob.lst acc]) (us := [.str "alive", .str "dead", .non]) hh (by simp) (by simp) rfl
      refine ⟨w, h', hh', ?_, ?_⟩
      · simpa only [List.mem_cons, List.not_mem_nil, or_false] using hw
      · rw [List.cons_append]
        simp only [sSeq, sIf, sAsg, sRet, sDrop, sSetIx, sNext, sCont, NK.tAnd, NK.tOr, NK.tNot, NK.tTru, NK.tB, eOp, eUn, eCB, eIf, eAnd, eOr, eNot, eVar, eC, aCons, aNil, gN, ob, xb, NK.os, NK.xs, nb, rb, kb, eb, List.getElem?_cons_zero, List.getElem?_cons_succ, List.set_cons_zero, List.set_cons_succ, ↓reduceIte, Bool.false_eq_true, Bool.not_true, Bool.not_false, fAdd_i, fSub_i, fNeg_i, fInt_i, fAbs_i, fLt_i, fLe_i, fGt_i, fMin_i, fIsN_n, fNotN_n, fLen_lst, fLen_tup, fTuple_lst, fTuple_tup, U.isNon, truth, fMod_i, fDiv_i, fMul_i, Int.reduceLT, Int.reduceNeg, Int.reducePow, Int.reduceLE, or_true, true_or, and_self, and_true, true_and, eCall, List.append_nil, List.length_cons, List.length_nil, Nat.reduceAdd, Nat.zero_add, esl, lstK_ok, Nat.reduceLeDiff, sc_lit, U.underL, U.under, Bool.and_self, ep]
        rfl)
  have hl : ws.length ≤ 4 := by rw [l2]; simp; omega
  refine ⟨ws, h2, H2, s2, hl, fs_old (env := [some (.loc 0), none]) rfl ?_ (Old.hand H2.under) ?_⟩
  · unfold b_u_law_drawn_lives
    generalize eScope (eComp (NK.iRng1 (aCons (eCall 2 m_u_law_draw [] (aCons (eVar 0) (aCons (eC (.int 5)) aNil))) aNil)) (gN 1) NK.tYes (eCall 2 m_u_law_pick [] (aCons (eVar 0) (aCons (eScope (eLst (aCons (eC (.str "alive")) (aCons (eC (.str "dead")) (aCons (eC .non) aNil))))) aNil))) [1]) = mw at e2 ⊢
    simp only [sSeq, sIf, sAsg, sRet, sDrop, sSetIx, sNext, sCont, NK.tAnd, NK.tOr, NK.tNot, NK.tTru, NK.tB, eOp, eUn, eCB, eIf, eAnd, eOr, eNot, eVar, eC, aCons, aNil, gN, ob, xb, NK.os, NK.xs, nb, rb, kb, eb, List.getElem?_cons_zero, List.getElem?_cons_succ, List.set_cons_zero, List.set_cons_succ, ↓reduceIte, Bool.false_eq_true, Bool.not_true, Bool.not_false, fAdd_i, fSub_i, fNeg_i, fInt_i, fAbs_i, fLt_i, fLe_i, fGt_i, fMin_i, fIsN_n, fNotN_n, fLen_lst, fLen_tup, fTuple_lst, fTuple_tup, U.isNon, truth, fMod_i, fDiv_i, fMul_i, Int.reduceLT, Int.reduceNeg, Int.reducePow, Int.reduceLE, or_true, true_or, and_self, and_true, true_and, eCall, List.append_nil, List.length_cons, List.length_nil, Nat.reduceAdd, Nat.zero_add, e2]
  · unfold U.under
    exact underL_all fun u hu => by rcases s2 u hu with rfl | rfl | rfl <;> rfl
end G

set_option Elab.async false
set_option linter.all false
set_option maxRecDepth 100000
set_option maxHeartbeats 2000000
/-! Q35e: what the law draws. -/
namespace G
open PySem L2 NK
/-! ### marks -/
def prs (c : Int) : Int → List U → Prop
  | _, [] => True
  | l, u :: us => ∃ k m, u = .lst [.int k, .int m] ∧ l ≤ k ∧ k ≤ c ∧ 0 ≤ m ∧ m ≤ 2 ∧ prs c (k + 1) us
theorem prs_le {c l l' : Int} (h : l ≤ l') : ∀ {us : List U}, prs c l' us → prs c l us
  | [], _ => True.intro
  | _ :: _, ⟨k, m, e, a, b⟩ => ⟨k, m, e, by omega, b⟩
theorem prs_under {c : Int} : ∀ {us : List U} {l : Int}, prs c l us → U.underL 0 us = true
  | [], _, _ => rfl
  | _ :: us, _, ⟨k, m, e, _, _, _, _, h⟩ => by
    subst e
    unfold U.underL
    rw [prs_under h]
    rfl
theorem prs_len {c : Int} : ∀ {us : List U} {l : Int}, prs c l us → l ≤ c + 1 → (us.length : Int) ≤ c + 1 - l
  | [], _, _, h => by simp; omega
  | _ :: us, l, ⟨k, m, e, a, b, _, _, h⟩, hl => by
    have := prs_len h (by omega)
    simp
    omega
theorem marks_loop {st : Sto} {c : Nat} (hc : c ≤ 100) : ∀ (n s : Nat) (h : Ob) (acc : List U) (v0 v1 e3 : Option U), HOb h → s + n = c + 1 → acc.length ≤ s → v0 = some (.loc 0) →
    ∃ ws h' env', HOb h' ∧ prs c s ws ∧ env'[2]? = some (some (.loc (st.length + 1))) ∧ forM (fun _ => True) (gN 3) l_u_law_drawn_marks_1 ((List.range' s n).map fun (i : Nat) => .int (0 + (i : Int))) [v0, v1, some (.loc (st.length + 1)), e3] ((h :: st) ++ [.lst acc]) = .next env' ((h' :: st) ++ [.lst (acc ++ ws)])
  | 0, s, h, acc, v0, v1, e3, H, _, _, _ => ⟨[], h, _, H, True.intro, rfl, by rw [List.append_nil]; exact forM_nil True.intro⟩
  | n + 1, s, h, acc, v0, v1, e3, H, hs, ha, hv => by
    subst hv
    obtain ⟨d, h1, H1, d0, d1, e1⟩ := draw_ok (st := st ++ [.lst acc]) (m := 2) H (by decide) (by decide)
    have es : ((List.range' s (n + 1)).map fun (i : Nat) => U.int (0 + (i : Int))) = .int (0 + (s : Int)) :: (List.range' (s + 1) n).map fun (i : Nat) => U.int (0 + (i : Int)) := rfl
    rw [es]
    by_cases hd : d = 0
    · subst hd
      obtain ⟨m, h2, H2, m0, m1, e2⟩ := draw_ok (st := st ++ [.lst acc]) (m := 3) H1 (by decide) (by decide)
      obtain ⟨ws, h3, env', H3, p3, g3, e3'⟩ := marks_loop hc n (s + 1) h2 (acc ++ [.lst [.int (0 + (s : Int)), .int m]]) (some (.loc 0)) v1 (some (.int (0 + (s : Int)))) H2 (by omega) (by simp; omega) rfl
      refine ⟨.lst [.int (0 + (s : Int)), .int m] :: ws, h3, env', H3, ⟨0 + (s : Int), m, rfl, by omega, by omega, m0, by omega, by rw [show (0 : Int) + (s : Int) + 1 = ((s + 1 : Nat) : Int) by omega]; exact p3⟩, g3, ?_⟩
      rw [forM_n (env1 := [some (.loc 0), v1, some (.loc (st.length + 1)), some (.int (0 + (s : Int)))]) (env2 := [some (.loc 0), v1, some (.loc (st.length + 1)), some (.int (0 + (s : Int)))]) (st2 := (h2 :: st) ++ [.lst (acc ++ [.lst [.int (0 + (s : Int)), .int m]])]) True.intro rfl ?_, e3', List.append_assoc]
      · rfl
      · have hz : acc.length < 16777216 := by omega
        have q1 : (h1 :: (st ++ [Ob.lst acc]))[st.length + 1]? = some (.lst acc) := by simp
        have q2 : (h2 :: (st ++ [Ob.lst acc]))[st.length + 1]? = some (.lst acc) := by simp
        have q3 : ∀ us, (h2 :: (st ++ [Ob.lst acc])).set (st.length + 1) (.lst us) = (h2 :: st) ++ [.lst us] := fun us => by simp
        have lit : eScope (eLst (aCons (eVar 3) (aCons (eCall 2 m_u_law_draw [] (aCons (eVar 0) (aCons (eC (.int 3)) aNil))) aNil))) [some (.loc 0), v1, some (.loc (st.length + 1)), some (.int (0 + (s : Int)))] (h1 :: (st ++ [Ob.lst acc])) = .ok (.lst [.int (0 + (s : Int)), .int m]) (h2 :: (st ++ [Ob.lst acc])) := by
          simp only [esl, lstK_ok, sSeq, sIf, sAsg, sRet, sDrop, sSetIx, sNext, sCont, NK.tAnd, NK.tOr, NK.tNot, NK.tTru, NK.tB, eOp, eUn, eCB, eIf, eAnd, eOr, eNot, eVar, eC, aCons, aNil, gN, ob, xb, NK.os, NK.xs, nb, rb, kb, eb, List.getElem?_cons_zero, List.getElem?_cons_succ, List.set_cons_zero, List.set_cons_succ, ↓reduceIte, Bool.false_eq_true, Bool.not_true, Bool.not_false, fAdd_i, fSub_i, fNeg_i, fInt_i, fAbs_i, fLt_i, fLe_i, fGt_i, fMin_i, fIsN_n, fNotN_n, fLen_lst, fLen_tup, fTuple_lst, fTuple_tup, U.isNon, truth, fMod_i, fDiv_i, fMul_i, Int.reduceLT, Int.reduceNeg, Int.reducePow, Int.reduceLE, or_true, true_or, and_self, and_true, true_and, eCall, List.append_nil, List.length_cons, List.length_nil, Nat.reduceAdd, Nat.zero_add, e2, Nat.reduceLeDiff]
          exact sc_loc (st := h1 :: (st ++ [Ob.lst acc])) (st2 := h2 :: (st ++ [Ob.lst acc])) (j := 0) [.lst _] (Old.hand H2.under) rfl rfl
        rw [List.cons_append]
        unfold l_u_law_drawn_marks_1
        simp only [sSeq, sIf, sAsg, sRet, sDrop, sSetIx, sNext, sCont, NK.tAnd, NK.tOr, NK.tNot, NK.tTru, NK.tB, eOp, eUn, eCB, eIf, eAnd, eOr, eNot, eVar, eC, aCons, aNil, gN, ob, xb, NK.os, NK.xs, nb, rb, kb, eb, List.getElem?_cons_zero, List.getElem?_cons_succ, List.set_cons_zero, List.set_cons_succ, ↓reduceIte, Bool.false_eq_true, Bool.not_true, Bool.not_false, fAdd_i, fSub_i, fNeg_i, fInt_i, fAbs_i, fLt_i, fLe_i, fGt_i, fMin_i, fIsN_n, fNotN_n, fLen_lst, fLen_tup, fTuple_lst, fTuple_tup, U.isNon, truth, fMod_i, fDiv_i, fMul_i, Int.reduceLT, Int.reduceNeg, Int.reducePow, Int.reduceLE, or_true, true_or, and_self, and_true, true_and, eCall, List.append_nil, List.length_cons, List.length_nil, Nat.reduceAdd, Nat.zero_add, e1, fEq_ii, beq_self_eq_true, eBM, isLoc, q1, lit, fApp, q2, hz, q3]
    · have hb : (d == 0) = false := by simpa using hd
      obtain ⟨ws, h3, env', H3, p3, g3, e3'⟩ := marks_loop hc n (s + 1) h1 acc (some (.loc 0)) v1 (some (.int (0 + (s : Int)))) H1 (by omega) (by omega) rfl
      refine ⟨ws, h3, env', H3, prs_le (by omega) p3, g3, ?_⟩
      rw [forM_n (env1 := [some (.loc 0), v1, some (.loc (st.length + 1)), some (.int (0 + (s : Int)))]) (env2 := [some (.loc 0), v1, some (.loc (st.length + 1)), some (.int (0 + (s : Int)))]) (st2 := (h1 :: st) ++ [.lst acc]) True.intro rfl ?_, e3']
      rw [List.cons_append]
      unfold l_u_law_drawn_marks_1
      simp only [sSeq, sIf, sAsg, sRet, sDrop, sSetIx, sNext, sCont, NK.tAnd, NK.tOr, NK.tNot, NK.tTru, NK.tB, eOp, eUn, eCB, eIf, eAnd, eOr, eNot, eVar, eC, aCons, aNil, gN, ob, xb, NK.os, NK.xs, nb, rb, kb, eb, List.getElem?_cons_zero, List.getElem?_cons_succ, List.set_cons_zero, List.set_cons_succ, ↓reduceIte, Bool.false_eq_true, Bool.not_true, Bool.not_false, fAdd_i, fSub_i, fNeg_i, fInt_i, fAbs_i, fLt_i, fLe_i, fGt_i, fMin_i, fIsN_n, fNotN_n, fLen_lst, fLen_tup, fTuple_lst, fTuple_tup, U.isNon, truth, fMod_i, fDiv_i, fMul_i, Int.reduceLT, Int.reduceNeg, Int.reducePow, Int.reduceLE, or_true, true_or, and_self, and_true, true_and, eCall, List.append_nil, List.length_cons, List.length_nil, Nat.reduceAdd, Nat.zero_add, e1, fEq_ii, hb]
      rfl
theorem marks_body {h h' : Ob} {st : Sto} {x : U} {mi : MI} {l : MS} {us ws : List U} {env' : NK.Env} (hr : mi [some (.loc 0), some x, some (.loc (st.length + 1)), none] ((h :: st) ++ [.lst []]) = .ok ⟨us, fun _ => True⟩ ((h :: st) ++ [.lst []]))
    (e : forM (fun _ => True) (gN 3) l us [some (.loc 0), some x, some (.loc (st.length + 1)), none] ((h :: st) ++ [.lst []]) = .next env' ((h' :: st) ++ [.lst ws])) (g : env'[2]? = some (some (.loc (st.length + 1)))) :
    (sSeq (sAsg (eLst aNil) (gN 2)) (sSeq (sFor mi (gN 3) l) (sRet (eVar 2)))) [some (.loc 0), some x, none, none] (h :: st) = .ret (.loc (st.length + 1)) ((h' :: st) ++ [.lst ws]) := by
  simp only [sSeq, sIf, sAsg, sRet, sDrop, sSetIx, sNext, sCont, NK.tAnd, NK.tOr, NK.tNot, NK.tTru, NK.tB, eOp, eUn, eCB, eIf, eAnd, eOr, eNot, eVar, eC, aCons, aNil, gN, ob, xb, NK.os, NK.xs, nb, rb, kb, eb, List.getElem?_cons_zero, List.getElem?_cons_succ, List.set_cons_zero, List.set_cons_succ, ↓reduceIte, Bool.false_eq_true, Bool.not_true, Bool.not_false, fAdd_i, fSub_i, fNeg_i, fInt_i, fAbs_i, fLt_i, fLe_i, fGt_i, fMin_i, fIsN_n, fNotN_n, fLen_lst, fLen_tup, fTuple_lst, fTuple_tup, U.isNon, truth, fMod_i, fDiv_i, fMul_i, Int.reduceLT, Int.reduceNeg, Int.reducePow, Int.reduceLE, or_true, true_or, and_self, and_true, true_and, eCall, List.append_nil, List.length_cons, List.length_nil, Nat.reduceAdd, Nat.zero_add, eLst_k, lstK_nil, sFor, hr, e, g]
theorem marks_drawn {h : Ob} {st : Sto} {c : Nat} (hc : c ≤ 100) (H : HOb h) : ∃ ps h', HOb h' ∧ prs c 0 ps ∧ m_u_law_drawn_marks [.loc 0, .int (c : Int)] (h :: st) = .ok (.lst ps) (h' :: st) := by
  obtain ⟨ws, h', env', H', p, g, e⟩ := marks_loop (st := st) hc (c + 1) 0 h [] (some (.loc 0)) (some (.int (c : Int))) none H (by omega) (by simp) rfl
  refine ⟨ws, h', H', p, ?_⟩
  have hr : NK.iRng1 (aCons (eOp fAdd (eVar 1) (eC (.int 1))) aNil) [some (.loc 0), some (.int (c : Int)), some (.loc (st.length + 1)), none] ((h :: st) ++ [.lst []]) = .ok ⟨(List.range' 0 (c + 1)).map fun (i : Nat) => .int (0 + (i : Int)), fun _ => True⟩ ((h :: st) ++ [.lst []]) := by
    rw [← List.range_eq_range']
    exact rng_ok (by simp only [sSeq, sIf, sAsg, sRet, sDrop, sSetIx, sNext, sCont, NK.tAnd, NK.tOr, NK.tNot, NK.tTru, NK.tB, eOp, eUn, eCB, eIf, eAnd, eOr, eNot, eVar, eC, aCons, aNil, gN, ob, xb, NK.os, NK.xs, nb, rb, kb, eb, List.getElem?_cons_zero, List.getElem?_cons_succ, List.set_cons_zero, List.set_cons_succ, ↓reduceIte, Bool.false_eq_true, Bool.not_true, Bool.not_false, fAdd_i, fSub_i, fNeg_i, fInt_i, fAbs_i, fLt_i, fLe_i, fGt_i, fMin_i, fIsN_n, fNotN_n, fLen_lst, fLen_tup, fTuple_lst, fTuple_tup, U.isNon, truth, fMod_i, fDiv_i, fMul_i, Int.reduceLT, Int.reduceNeg, Int.reducePow, Int.reduceLE, or_true, true_or, and_self, and_true, true_and, eCall, List.append_nil, List.length_cons, List.length_nil, Nat.reduceAdd, Nat.zero_add]; rfl) (by omega)
  rw [List.nil_append] at e
  show scopeOut (h :: st) (runF 4 b_u_law_drawn_marks [.loc 0, .int (c : Int)] (h :: st)) = _
  rw [run_ret (env := [some (.loc 0), some (.int (c : Int)), none, none]) (u := .loc (st.length + 1)) (st2 := (h' :: st) ++ [.lst ws]) rfl (marks_body hr e g)]
  exact sc_loc (st := h :: st) (st2 := h' :: st) (j := 0) [.lst ws] (Old.hand H'.under) rfl (prs_under p)
end G

set_option Elab.async false
set_option linter.all false
set_option maxRecDepth 100000
set_option maxHeartbeats 2000000
/-! Q35h: a person's state is made. -/
namespace G
open PySem L2 NK
section
variable {k j : Nat} {us : List U} {st : Sto} {w : U}
theorem put_at (h : j = us.length) : putFld k j (.loc st.length) w (st ++ [.ins k us]) = some (st ++ [.ins k (us ++ [w])]) := by
  subst h
  simp [putFld]
theorem get_at : getF k j (.loc st.length) (st ++ [.ins k us]) = us[j]? := by simp [getF, asIns]
theorem get_ins : getF k j (.ins k us) st = us[j]? := by simp [getF, asIns]
end
theorem fs_next {n : Nat} {mb : MS} {us : List U} {env env' : NK.Env} {st st2 : Sto} (he : us.map some ++ List.replicate (n - us.length) none = env) (h : mb env st = .next env' st2) (o : Old st st2) : fScope (runF n mb) us st = .ok .non st2 := by
  show scopeOut st (runF n mb us st) = _
  rw [run_next he h]
  exact sc_old o rfl
theorem str_under {x : Str} : (U.str x).under 0 = true := rfl
/-- the fields of a person's state -/
def persF (kind mark : U) (ns ls : List U) : List U := [kind, .tup ns, .tup ls, mark, .tup [.str "person", kind, .tup ns, .tup ls, mark]]
theorem pers_ok {a1 a2 a3 a4 : MF} {kind names lives mark : U} {ns ls : List U} {st : Sto} (hk : a1 [kind] (st ++ [.ins 2 []]) = .ok (.bl true) (st ++ [.ins 2 []])) (he : a2 [names] (st ++ [.ins 2 []]) = .ok .non (st ++ [.ins 2 []]))
    (hl : a3 [lives] (st ++ [.ins 2 []]) = .ok .non (st ++ [.ins 2 []])) (hm : a4 [.tup [mark, .int 0]] (st ++ [.ins 2 []]) = .ok .non (st ++ [.ins 2 []]))
    (tn : ∀ ext, fTuple [names] (st ++ ext) = .ok (.tup ns) (st ++ ext)) (tl : ∀ ext, fTuple [lives] (st ++ ext) = .ok (.tup ls) (st ++ ext)) :
    (sSeq (sIf (tNot (tTru (eCall 1 a1 [] (aCons (eVar 1) aNil)))) (sRaise 1 1 (aCons (eC (.str "kind")) aNil)) sNext)
    (sSeq (sDrop (eCall 1 a2 [] (aCons (eVar 2) aNil)))
    (sSeq (sDrop (eCall 1 a3 [] (aCons (eVar 3) aNil)))
    (sSeq (sDrop (eCall 1 a4 [] (aCons (eTup (aCons (eVar 4) (aCons (eC (.int 0)) aNil))) aNil)))
    (sSeq (NK.sFld 2 0 (eVar 0) (eVar 1))
    (sSeq (NK.sFld 2 1 (eVar 0) (eCB fTuple (aCons (eVar 2) aNil)))
    (sSeq (NK.sFld 2 2 (eVar 0) (eCB fTuple (aCons (eVar 3) aNil)))
    (sSeq (NK.sFld 2 3 (eVar 0) (eVar 4))
    (NK.sFld 2 4 (eVar 0) (eTup (aCons (eC (.str "person")) (aCons (eVar 1) (aCons (eFld 2 1 (eVar 0)) (aCons (eFld 2 2 (eVar 0)) (aCons (eVar 4) aNil))))))))))))))) [some (.loc st.length), some kind, some names, some lives, some mark] (st ++ [.ins 2 []]) = .next [some (.loc st.length), some kind, some names, some lives, some mark] (st ++ [.ins 2 (persF kind mark ns ls)]) := by
  simp only [sSeq, sIf, sAsg, sRet, sDrop, sSetIx, sNext, sCont, NK.tAnd, NK.tOr, NK.tNot, NK.tTru, NK.tB, eOp, eUn, eCB, eIf, eAnd, eOr, eNot, eVar, eC, aCons, aNil, gN, ob, xb, NK.os, NK.xs, nb, rb, kb, eb, List.getElem?_cons_zero, List.getElem?_cons_succ, List.set_cons_zero, List.set_cons_succ, ↓reduceIte, Bool.false_eq_true, Bool.not_true, Bool.not_false, fAdd_i, fSub_i, fNeg_i, fInt_i, fAbs_i, fLt_i, fLe_i, fGt_i, fMin_i, fIsN_n, fNotN_n, fLen_lst, fLen_tup, fTuple_lst, fTuple_tup, U.isNon, truth, fMod_i, fDiv_i, fMul_i, Int.reduceLT, Int.reduceNeg, Int.reducePow, Int.reduceLE, or_true, true_or, and_self, and_true, true_and, eCall, List.append_nil, List.length_cons, List.length_nil, Nat.reduceAdd, Nat.zero_add, eTup, Nat.reduceLeDiff, hk, he, hl, hm, NK.sFld, eFld, put_at, get_at, tn, tl, List.nil_append, List.cons_append, persF]
theorem pers_f1 {a1 a2 a3 a4 : MF} {kind names lives mark s : U} {S : Sto} (hk : a1 [kind] S = .ok (.bl false) S) :
    (sSeq (sIf (tNot (tTru (eCall 1 a1 [] (aCons (eVar 1) aNil)))) (sRaise 1 1 (aCons (eC (.str "kind")) aNil)) sNext)
    (sSeq (sDrop (eCall 1 a2 [] (aCons (eVar 2) aNil)))
    (sSeq (sDrop (eCall 1 a3 [] (aCons (eVar 3) aNil)))
    (sSeq (sDrop (eCall 1 a4 [] (aCons (eTup (aCons (eVar 4) (aCons (eC (.int 0)) aNil))) aNil)))
    (sSeq (NK.sFld 2 0 (eVar 0) (eVar 1))
    (sSeq (NK.sFld 2 1 (eVar 0) (eCB fTuple (aCons (eVar 2) aNil)))
    (sSeq (NK.sFld 2 2 (eVar 0) (eCB fTuple (aCons (eVar 3) aNil)))
    (sSeq (NK.sFld 2 3 (eVar 0) (eVar 4))
    (NK.sFld 2 4 (eVar 0) (eTup (aCons (eC (.str "person")) (aCons (eVar 1) (aCons (eFld 2 1 (eVar 0)) (aCons (eFld 2 2 (eVar 0)) (aCons (eVar 4) aNil))))))))))))))) [some s, some kind, some names, some lives, some mark] S = .exc (bad "kind") [some s, some kind, some names, some lives, some mark] S := by
  simp only [sSeq, sIf, sAsg, sRet, sDrop, sSetIx, sNext, sCont, NK.tAnd, NK.tOr, NK.tNot, NK.tTru, NK.tB, eOp, eUn, eCB, eIf, eAnd, eOr, eNot, eVar, eC, aCons, aNil, gN, ob, xb, NK.os, NK.xs, nb, rb, kb, eb, List.getElem?_cons_zero, List.getElem?_cons_succ, List.set_cons_zero, List.set_cons_succ, ↓reduceIte, Bool.false_eq_true, Bool.not_true, Bool.not_false, fAdd_i, fSub_i, fNeg_i, fInt_i, fAbs_i, fLt_i, fLe_i, fGt_i, fMin_i, fIsN_n, fNotN_n, fLen_lst, fLen_tup, fTuple_lst, fTuple_tup, U.isNon, truth, fMod_i, fDiv_i, fMul_i, Int.reduceLT, Int.reduceNeg, Int.reducePow, Int.reduceLE, or_true, true_or, and_self, and_true, true_and, eCall, List.append_nil, List.length_cons, List.length_nil, Nat.reduceAdd, Nat.zero_add, hk, sRaise]
  rfl
theorem pers_f2 {a1 a2 a3 a4 : MF} {kind names lives mark s : U} {x : Ex} {S : Sto} (hk : a1 [kind] S = .ok (.bl true) S) (he : a2 [names] S = .exc x S) :
    (sSeq (sIf (tNot (tTru (eCall 1 a1 [] (aCons (eVar 1) aNil)))) (sRaise 1 1 (aCons (eC (.str "kind")) aNil)) sNext)
    (sSeq (sDrop (eCall 1 a2 [] (aCons (eVar 2) aNil)))
    (sSeq (sDrop (eCall 1 a3 [] (aCons (eVar 3) aNil)))
    (sSeq (sDrop (eCall 1 a4 [] (aCons (eTup (aCons (eVar 4) (aCons (eC (.int 0)) aNil))) aNil)))
    (sSeq (NK.sFld 2 0 (eVar 0) (eVar 1))
    (sSeq (NK.sFld 2 1 (eVar 0) (eCB fTuple (aCons (eVar 2) aNil)))
    (sSeq (NK.sFld 2 2 (eVar 0) (eCB fTuple (aCons (eVar 3) aNil)))
    (sSeq (NK.sFld 2 3 (eVar 0) (eVar 4))
    (NK.sFld 2 4 (eVar 0) (eTup (aCons (eC (.str "person")) (aCons (eVar 1) (aCons (eFld 2 1 (eVar 0)) (aCons (eFld 2 2 (eVar 0)) (aCons (eVar 4) aNil))))))))))))))) [some s, some kind, some names, some lives, some mark] S = .exc x [some s, some kind, some names, some lives, some mark] S := by
  simp only [sSeq, sIf, sAsg, sRet, sDrop, sSetIx, sNext, sCont, NK.tAnd, NK.tOr, NK.tNot, NK.tTru, NK.tB, eOp, eUn, eCB, eIf, eAnd, eOr, eNot, eVar, eC, aCons, aNil, gN, ob, xb, NK.os, NK.xs, nb, rb, kb, eb, List.getElem?_cons_zero, List.getElem?_cons_succ, List.set_cons_zero, List.set_cons_succ, ↓reduceIte, Bool.false_eq_true, Bool.not_true, Bool.not_false, fAdd_i, fSub_i, fNeg_i, fInt_i, fAbs_i, fLt_i, fLe_i, fGt_i, fMin_i, fIsN_n, fNotN_n, fLen_lst, fLen_tup, fTuple_lst, fTuple_tup, U.isNon, truth, fMod_i, fDiv_i, fMul_i, Int.reduceLT, Int.reduceNeg, Int.reducePow, Int.reduceLE, or_true, true_or, and_self, and_true, true_and, eCall, List.append_nil, List.length_cons, List.length_nil, Nat.reduceAdd, Nat.zero_add, hk, he]
theorem pers_f3 {a1 a2 a3 a4 : MF} {kind names lives mark s : U} {x : Ex} {S : Sto} (hk : a1 [kind] S = .ok (.bl true) S) (he : a2 [names] S = .ok .non S) (hl : a3 [lives] S = .exc x S) :
    (sSeq (sIf (tNot (tTru (eCall 1 a1 [] (aCons (eVar 1) aNil)))) (sRaise 1 1 (aCons (eC (.str "kind")) aNil)) sNext)
    (sSeq (sDrop (eCall 1 a2 [] (aCons (eVar 2) aNil)))
    (sSeq (sDrop (eCall 1 a3 [] (aCons (eVar 3) aNil)))
    (sSeq (sDrop (eCall 1 a4 [] (aCons (eTup (aCons (eVar 4) (aCons (eC (.int 0)) aNil))) aNil)))
    (sSeq (NK.sFld 2 0 (eVar 0) (eVar 1))
    (sSeq (NK.sFld 2 1 (eVar 0) (eCB fTuple (aCons (eVar 2) aNil)))
    (sSeq (NK.sFld 2 2 (eVar 0) (eCB fTuple (aCons (eVar 3) aNil)))
    (sSeq (NK.sFld 2 3 (eVar 0) (eVar 4))
    (NK.sFld 2 4 (eVar 0) (eTup (aCons (eC (.str "person")) (aCons (eVar 1) (aCons (eFld 2 1 (eVar 0)) (aCons (eFld 2 2 (eVar 0)) (aCons (eVar 4) aNil))))))))))))))) [some s, some kind, some names, some lives, some mark] S = .exc x [some s, some kind, some names, some lives, some mark] S := by
  simp only [sSeq, sIf, sAsg, sRet, sDrop, sSetIx, sNext, sCont, NK.tAnd, NK.tOr, NK.tNot, NK.tTru, NK.tB, eOp, eUn, eCB, eIf, eAnd, eOr, eNot, eVar, eC, aCons, aNil, gN, ob, xb, NK.os, NK.xs, nb, rb, kb, eb, List.getElem?_cons_zero, List.getElem?_cons_succ, List.set_cons_zero, List.set_cons_succ, ↓reduceIte, Bool.false_eq_true, Bool.not_true, Bool.not_false, fAdd_i, fSub_i, fNeg_i, fInt_i, fAbs_i, fLt_i, fLe_i, fGt_i, fMin_i, fIsN_n, fNotN_n, fLen_lst, fLen_tup, fTuple_lst, fTuple_tup, U.isNon, truth, fMod_i, fDiv_i, fMul_i, Int.reduceLT, Int.reduceNeg, Int.reducePow, Int.reduceLE, or_true, true_or, and_self, and_true, true_and, eCall, List.append_nil, List.length_cons, List.length_nil, Nat.reduceAdd, Nat.zero_add, hk, he, hl]
theorem pers_f4 {a1 a2 a3 a4 : MF} {kind names lives mark s : U} {x : Ex} {S : Sto} (hk : a1 [kind] S = .ok (.bl true) S) (he : a2 [names] S = .ok .non S) (hl : a3 [lives] S = .ok .non S) (hm : a4 [.tup [mark, .int 0]] S = .exc x S) :
    (sSeq (sIf (tNot (tTru (eCall 1 a1 [] (aCons (eVar 1) aNil)))) (sRaise 1 1 (aCons (eC (.str "kind")) aNil)) sNext)
    (sSeq (sDrop (eCall 1 a2 [] (aCons (eVar 2) aNil)))
    (sSeq (sDrop (eCall 1 a3 [] (aCons (eVar 3) aNil)))
    (sSeq (sDrop (eCall 1 a4 [] (aCons (eTup (aCons (eVar 4) (aCons (eC (.int 0)) aNil))) aNil)))
    (sSeq (NK.sFld 2 0 (eVar 0) (eVar 1))
    (sSeq (NK.sFld 2 1 (eVar 0) (eCB fTuple (aCons (eVar 2) aNil)))
    (sSeq (NK.sFld 2 2 (eVar 0) (eCB fTuple (aCons (eVar 3) aNil)))
    (sSeq (NK.sFld 2 3 (eVar 0) (eVar 4))
    (NK.sFld 2 4 (eVar 0) (eTup (aCons (eC (.str "person")) (aCons (eVar 1) (aCons (eFld 2 1 (eVar 0)) (aCons (eFld 2 2 (eVar 0)) (aCons (eVar 4) aNil))))))))))))))) [some s, some kind, some names, some lives, some mark] S = .exc x [some s, some kind, some names, some lives, some mark] S := by
  simp only [sSeq, sIf, sAsg, sRet, sDrop, sSetIx, sNext, sCont, NK.tAnd, NK.tOr, NK.tNot, NK.tTru, NK.tB, eOp, eUn, eCB, eIf, eAnd, eOr, eNot, eVar, eC, aCons, aNil, gN, ob, xb, NK.os, NK.xs, nb, rb, kb, eb, List.getElem?_cons_zero, List.getElem?_cons_succ, List.set_cons_zero, List.set_cons_succ, ↓reduceIte, Bool.false_eq_true, Bool.not_true, Bool.not_false, fAdd_i, fSub_i, fNeg_i, fInt_i, fAbs_i, fLt_i, fLe_i, fGt_i, fMin_i, fIsN_n, fNotN_n, fLen_lst, fLen_tup, fTuple_lst, fTuple_tup, U.isNon, truth, fMod_i, fDiv_i, fMul_i, Int.reduceLT, Int.reduceNeg, Int.reducePow, Int.reduceLE, or_true, true_or, and_self, and_true, true_and, eCall, List.append_nil, List.length_cons, List.length_nil, Nat.reduceAdd, Nat.zero_add, eTup, Nat.reduceLeDiff, hk, he, hl, hm]
/-- what the four arguments are, and their words -/
structure PArg (kind names lives mark : U) (ns ls : List U) (b1 b2 b3 b4 : Bool) (st : Sto) : Prop where
  h1 : ∀ ext, m_is_kind [kind] (st ++ ext) = .ok (.bl b1) (st ++ ext)
  h2 : ∀ ext, m_check_entries [names] (st ++ ext) = if b2 = true then .ok .non (st ++ ext) else .exc (bad "names") (st ++ ext)
  h3 : ∀ ext, m_check_life_row [lives] (st ++ ext) = if b3 = true then .ok .non (st ++ ext) else .exc (bad "lives") (st ++ ext)
  h4 : ∀ ext, m_check_marks [.tup [mark, .int 0]] (st ++ ext) = if b4 = true then .ok .non (st ++ ext) else .exc (bad "marks") (st ++ ext)
  tn : b2 = true → ∀ ext, fTuple [names] (st ++ ext) = .ok (.tup ns) (st ++ ext)
  tl : b3 = true → ∀ ext, fTuple [lives] (st ++ ext) = .ok (.tup ls) (st ++ ext)
  u1 : b1 = true → kind.under 0 = true
  u2 : b2 = true → U.underL 0 ns = true
  u3 : b3 = true → U.underL 0 ls = true
  u4 : b4 = true → mark.under 0 = true
def persW (b1 b2 b3 b4 : Bool) : Option Str := if b1 = false then some "kind" else if b2 = false then some "names" else if b3 = false then some "lives" else if b4 = false then some "marks" else none
theorem pers_make {kind names lives mark : U} {ns ls : List U} {b1 b2 b3 b4 : Bool} {st : Sto} (h : PArg kind names lives mark ns ls b1 b2 b3 b4 st) :
    m_PersonState___init [.loc st.length, kind, names, lives, mark] (st ++ [.ins 2 []]) = match persW b1 b2 b3 b4 with
      | none => .ok .non (st ++ [.ins 2 (persF kind mark ns ls)])
      | some w => .exc (bad w) (st ++ [.ins 2 []]) := by
  have h1 := h.h1 [.ins 2 []]
  have h2 := h.h2 [.ins 2 []]
  have h3 := h.h3 [.ins 2 []]
  have h4 := h.h4 [.ins 2 []]
  cases b1 with
  | false => exact fs_exc (env := [some (.loc st.length), some kind, some names, some lives, some mark]) rfl (pers_f1 h1)
  | true =>
    cases b2 with
    | false => exact fs_exc (env := [some (.loc st.length), some kind, some names, some lives, some mark]) rfl (pers_f2 h1 h2)
    | true =>
      cases b3 with
      | false => exact fs_exc (env := [some (.loc st.length), some kind, some names, some lives, some mark]) rfl (pers_f3 h1 h2 h3)
      | true =>
        cases b4 with
        | false => exact fs_exc (env := [some (.loc st.length), some kind, some names, some lives, some mark]) rfl (pers_f4 h1 h2 h3 h4)
        | true =>
          have hu : (Ob.ins 2 (persF kind mark ns ls)).under 0 = true := by
            have e1 := h.u1 rfl
            have e2 : (U.tup ns).under 0 = true := by unfold U.under; exact h.u2 rfl
            have e3 : (U.tup ls).under 0 = true := by unfold U.under; exact h.u3 rfl
            have e4 := h.u4 rfl
            show U.underL 0 (persF kind mark ns ls) = true
            have e5 : (U.tup [.str "person", kind, .tup ns, .tup ls, mark]).under 0 = true := by
              unfold U.under
              exact underL_all fun u hu => by
                simp only [List.mem_cons, List.not_mem_nil, or_false] at hu
                rcases hu with rfl | rfl | rfl | rfl | rfl
                · rfl
                · exact e1
                · exact e2
                · exact e3
                · exact e4
            exact underL_all fun u hu => by
              simp only [persF, List.mem_cons, List.not_mem_nil, or_false] at hu
              rcases hu with rfl | rfl | rfl | rfl | rfl
              · exact e1
              · exact e2
              · exact e3
              · exact e4
              · exact e5
          have o : Old (st ++ [Ob.ins 2 []]) (st ++ [.ins 2 (persF kind mark ns ls)]) := by
            refine ⟨by simp, fun i hi => ?_⟩
            rw [List.length_append, List.length_singleton] at hi
            by_cases e : i < st.length
            · left
              rw [List.getElem?_append_left e, List.getElem?_append_left e]
            · right
              have : i = st.length := by omega
              subst this
              exact ⟨_, by simp, hu⟩
          exact fs_next (env := [some (.loc st.length), some kind, some names, some lives, some mark]) rfl (pers_ok h1 h2 h3 h4 (h.tn rfl) (h.tl rfl)) o
/-- the state made, as a value; or refused -/
theorem pers_scope {kind names lives mark : U} {ns ls : List U} {b1 b2 b3 b4 : Bool} {st : Sto} {env : NK.Env} {ma : MA} (h : PArg kind names lives mark ns ls b1 b2 b3 b4 st) (hm : ma env st = .ok [kind, names, lives, mark] st) :
    eScope (eMake 2 5 m_PersonState___init [] ma) env st = match persW b1 b2 b3 b4 with
      | none => .ok (.ins 2 (persF kind mark ns ls)) st
      | some w => .exc (bad w) (st ++ [.ins 2 []]) := by
  have e := pers_make h
  generalize m_PersonState___init = mf at e ⊢
  show scopeOut st (eMake 2 5 mf [] ma env st) = _
  simp only [eMake, hm, ob, List.append_nil, List.length_cons, List.length_nil, Nat.reduceAdd, ↓reduceIte, e]
  cases q : persW b1 b2 b3 b4 with
  | some w => rfl
  | none =>
    have : b1 = true ∧ b2 = true ∧ b3 = true ∧ b4 = true := by
      cases b1 <;> cases b2 <;> cases b3 <;> cases b4 <;> first | exact ⟨rfl, rfl, rfl, rfl⟩ | cases q
    obtain ⟨rfl, rfl, rfl, rfl⟩ := this
    have e2 : (U.tup ns).under 0 = true := by unfold U.under; exact h.u2 rfl
    have e3 : (U.tup ls).under 0 = true := by unfold U.under; exact h.u3 rfl
    have e5 : (U.tup [.str "person", kind, .tup ns, .tup ls, mark]).under 0 = true := by
      unfold U.under
      exact underL_all fun u hu => by
        simp only [List.mem_cons, List.not_mem_nil, or_false] at hu
        rcases hu with rfl | rfl | rfl | rfl | rfl
        · rfl
        · exact h.u1 rfl
        · exact e2
        · exact e3
        · exact h.u4 rfl
    exact sc_obj (st := st) (st2 := st) (j := 0) [.ins 2 (persF kind mark ns ls)] (Old.refl st) rfl (underL_all fun u hu => by
      simp only [persF, List.mem_cons, List.not_mem_nil, or_false] at hu
      rcases hu with rfl | rfl | rfl | rfl | rfl
      · exact h.u1 rfl
      · exact e2
      · exact e3
      · exact h.u4 rfl
      · exact e5)
end G

set_option Elab.async false
set_option linter.all false
set_option maxRecDepth 100000
set_option maxHeartbeats 2000000
/-! Q35i: equal data; two persons' states. -/
namespace G
open PySem L2 NK
def eqvL (us ws : List U) : Bool := PyData.eqvAll (datL us) (datL ws)
theorem eqv_tup {us ws : List U} : eqvU (.tup us) (.tup ws) = eqvL us ws := by simp [eqvU, eqvL, datU, PyData.eqv]
theorem eqv_lst {us ws : List U} : eqvU (.lst us) (.lst ws) = eqvL us ws := by simp [eqvU, eqvL, datU, PyData.eqv]
theorem eqvL_nil : eqvL [] [] = true := by simp [eqvL, datL, PyData.eqvAll]
theorem eqvL_cons {u w : U} {us ws : List U} : eqvL (u :: us) (w :: ws) = (eqvU u w && eqvL us ws) := by simp [eqvU, eqvL, datL, PyData.eqvAll]
theorem eqv_str {x y : Str} : eqvU (.str x) (.str y) = (x == y) := by simp [eqvU, datU, PyData.eqv]
theorem eqvL_len : ∀ {us ws : List U}, us.length ≠ ws.length → eqvL us ws = false
  | [], [], h => absurd rfl h
  | [], _ :: _, _ => by simp [eqvL, datL, PyData.eqvAll]
  | _ :: _, [], _ => by simp [eqvL, datL, PyData.eqvAll]
  | u :: us, w :: ws, h => by
    rw [eqvL_cons, eqvL_len (fun e => h (by simp [e])), Bool.and_false]
theorem okU_tup {n : Nat} {us : List U} (h : us.all (okU n) = true) : okU (n + 1) (.tup us) = true := h
theorem okU_lst {n : Nat} {us : List U} (h : us.all (okU n) = true) : okU (n + 1) (.lst us) = true := h
theorem str_ok (s : String) (n : Nat) : okU (n + 1) (.str (Str.ofString s)) = true := by
  have h : PyData.strOk (Str.ofString s) = true := by
    rw [Str.ofString_eq_toList]
    unfold PyData.strOk
    rw [List.all_toArray, List.all_map, List.all_eq_true]
    intro c _
    have := c.valid
    rcases this with q | q
    · exact decide_eq_true (by show c.val.toNat < _; have : c.val.toNat < 0xd800 := q; omega)
    · exact decide_eq_true (by show c.val.toNat < _; exact q.2)
  show PyData.canLay0 (.str _) = true
  simpa only [PyData.canLay0] using h
def lifD (u : U) : Prop := u = .str "alive" ∨ u = .str "dead" ∨ u = .non
theorem lifD.ok {u : U} (h : lifD u) (n : Nat) : okU (n + 1) u = true := by
  rcases h with rfl | rfl | rfl
  · exact str_ok _ n
  · exact str_ok _ n
  · rfl
theorem lifD.life {u : U} (h : lifD u) : lifeU u = true := by rcases h with rfl | rfl | rfl <;> rfl
theorem lifD.flat {u : U} (h : lifD u) : flatU u = true := by rcases h with rfl | rfl | rfl <;> rfl
structure PGood (kind mark : U) (ns ls : List U) : Prop where
  k : kind = .str "s" ∨ kind = .str "d"
  m : ∃ i : Int, mark = .int i ∧ 0 ≤ i ∧ i ≤ 1000
  e : ∀ u ∈ ns, entU u
  el : ns.length ≤ 40
  ef : faultL 0 0 ns = .non
  l : ∀ u ∈ ls, lifD u
def persKey (kind mark : U) (ns ls : List U) : U := .tup [.str "person", kind, .tup ns, .tup ls, mark]
section
variable {kind mark kind' mark' names lives : U} {ns ls ns' ls' : List U} {st : Sto}
theorem PGood.key (h : PGood kind mark ns ls) : okU 12 (persKey kind mark ns ls) = true := by
  refine okU_tup (n := 11) ?_
  simp only [List.all_cons, List.all_nil, Bool.and_true, Bool.and_eq_true]
  obtain ⟨i, hm, _, _⟩ := h.m
  refine ⟨str_ok _ 10, ?_, okU_tup (n := 10) ?_, okU_tup (n := 10) ?_, ?_⟩
  · rcases h.k with q | q <;> rw [q] <;> exact str_ok _ 10
  · exact List.all_eq_true.mpr fun u hu => (h.e u hu).ok 9
  · exact List.all_eq_true.mpr fun u hu => (h.l u hu).ok 9
  · rw [hm]
    rfl
theorem PGood.arg (h : PGood kind mark ns ls) (hn : Sq names ns st) (hl : Sq lives ls st) : PArg kind names lives mark ns ls true true true true st := by
  obtain ⟨i, hm, m0, m1⟩ := h.m
  refine ⟨fun ext => ?_, fun ext => ?_, fun ext => ?_, fun ext => ?_, fun _ ext => (hn.app ext).tuple, fun _ ext => (hl.app ext).tuple, fun _ => ?_, fun _ => ?_, fun _ => ?_, fun _ => ?_⟩
  · rcases h.k with q | q <;> rw [q] <;> exact kind_ok rfl
  · exact entries_ok (hn.app ext) h.el (List.all_eq_true.mpr fun u hu => (h.e u hu).plain) (by rw [h.ef]; rfl)
  · have q := lives_seq (hl.app ext) (List.all_eq_true.mpr fun u hu => (h.l u hu).flat)
    rw [if_pos (List.all_eq_true.mpr fun u hu => (h.l u hu).life)] at q
    exact q
  · have q := marks_seq (v := .tup [mark, .int 0]) (us := [mark, .int 0]) (st := st ++ ext) (.inr (.inl rfl)) (by rw [hm]; rfl)
    rw [if_pos ⟨rfl, by rw [hm]; simp [isWh, m0, m1]⟩] at q
    exact q
  · rcases h.k with q | q <;> rw [q] <;> rfl
  · exact ent_under h.e
  · exact underL_all fun u hu => by rcases h.l u hu with rfl | rfl | rfl <;> rfl
  · rw [hm]
    rfl
def persV (kind mark : U) (ns ls : List U) : U := .ins 2 (persF kind mark ns ls)
theorem PGood.made {env : NK.Env} {ma : MA} (h : PGood kind mark ns ls) (hn : Sq names ns st) (hl : Sq lives ls st) (hm : ma env st = .ok [kind, names, lives, mark] st) : eScope (eMake 2 5 m_PersonState___init [] ma) env st = .ok (persV kind mark ns ls) st := pers_scope (h.arg hn hl) hm
theorem PGood.under (h : PGood kind mark ns ls) : (persV kind mark ns ls).under 0 = true := by
  have e := okU_under 12 _ h.key
  obtain ⟨i, hm, _, _⟩ := h.m
  show U.underL 0 (persF kind mark ns ls) = true
  refine underL_all fun u hu => ?_
  simp only [persF, List.mem_cons, List.not_mem_nil, or_false] at hu
  rcases hu with rfl | rfl | rfl | rfl | rfl
  · rcases h.k with q | q <;> rw [q] <;> rfl
  · unfold U.under
    exact ent_under h.e
  · unfold U.under
    exact underL_all fun u hu => by rcases h.l u hu with rfl | rfl | rfl <;> rfl
  · rw [hm]
    rfl
  · exact e
theorem pers_eq (h : PGood kind mark ns ls) (h' : PGood kind' mark' ns' ls') : fEqO 2 [.o 2, .b .tuple] m_PersonState___eq (persV kind mark ns ls) (persV kind' mark' ns' ls') st = .ok (.bl (eqvU (persKey kind mark ns ls) (persKey kind' mark' ns' ls'))) st := by
  have e : m_PersonState___eq [persV kind mark ns ls, persV kind' mark' ns' ls'] st = .ok (.bl (eqvU (persKey kind mark ns ls) (persKey kind' mark' ns' ls'))) st := by
    have q := fEq_ok (st := st) h.key h'.key
    refine fs_same (env := [some (persV kind mark ns ls), some (persV kind' mark' ns' ls')]) rfl ?_ rfl
    unfold b_PersonState___eq
    simp only [sSeq, sIf, sAsg, sRet, sDrop, sSetIx, sNext, sCont, NK.tAnd, NK.tOr, NK.tNot, NK.tTru, NK.tB, eOp, eUn, eCB, eIf, eAnd, eOr, eNot, eVar, eC, aCons, aNil, gN, ob, xb, NK.os, NK.xs, nb, rb, kb, eb, List.getElem?_cons_zero, List.getElem?_cons_succ, List.set_cons_zero, List.set_cons_succ, ↓reduceIte, Bool.false_eq_true, Bool.not_true, Bool.not_false, fAdd_i, fSub_i, fNeg_i, fInt_i, fAbs_i, fLt_i, fLe_i, fGt_i, fMin_i, fIsN_n, fNotN_n, fLen_lst, fLen_tup, fTuple_lst, fTuple_tup, U.isNon, truth, fMod_i, fDiv_i, fMul_i, Int.reduceLT, Int.reduceNeg, Int.reducePow, Int.reduceLE, or_true, true_or, and_self, and_true, true_and, eCall, List.append_nil, List.length_cons, List.length_nil, Nat.reduceAdd, Nat.zero_add, eIsi, trOf, isa_int_none, isa_int_bool, isa_int_int, isa_int_str, isa_int_tuple, isa_int_list, isa_bool_none, isa_bool_bool, isa_bool_int, isa_bool_str, isa_bool_tuple, isa_bool_list, isa_str_none, isa_str_bool, isa_str_int, isa_str_str, isa_str_tuple, isa_str_list, isa_seq_none, isa_seq_bool, isa_seq_int, isa_seq_str, isa_seq_tuple, isa_seq_list, isa_tup_none, isa_tup_bool, isa_tup_int, isa_tup_str, isa_tup_tuple, isa_tup_list, isa_o2_o, isa_o2_tuple, isa_o3_o, isa_o3_tuple, persV, eFld, get_ins, persF]
    unfold persKey at q ⊢
    rw [q]
    rfl
  unfold fEqO
  rw [if_pos (show isK 2 (persV kind mark ns ls) st = true from rfl)]
  show (if (Tr.o 2) ∈ [Tr.o 2, .b .tuple] then _ else _) = _
  rw [if_pos List.mem_cons_self, e]
theorem pers_eqt {us : List U} (h : PGood kind mark ns ls) : fEqO 2 [.o 2, .b .tuple] m_PersonState___eq (persV kind mark ns ls) (.tup us) st = .ok (.bl false) st := by
  have e : m_PersonState___eq [persV kind mark ns ls, .tup us] st = .ok (.bl false) st := by
    refine fs_same (env := [some (persV kind mark ns ls), some (.tup us)]) rfl ?_ rfl
    unfold b_PersonState___eq
    simp only [sSeq, sIf, sAsg, sRet, sDrop, sSetIx, sNext, sCont, NK.tAnd, NK.tOr, NK.tNot, NK.tTru, NK.tB, eOp, eUn, eCB, eIf, eAnd, eOr, eNot, eVar, eC, aCons, aNil, gN, ob, xb, NK.os, NK.xs, nb, rb, kb, eb, List.getElem?_cons_zero, List.getElem?_cons_succ, List.set_cons_zero, List.set_cons_succ, ↓reduceIte, Bool.false_eq_true, Bool.not_true, Bool.not_false, fAdd_i, fSub_i, fNeg_i, fInt_i, fAbs_i, fLt_i, fLe_i, fGt_i, fMin_i, fIsN_n, fNotN_n, fLen_lst, fLen_tup, fTuple_lst, fTuple_tup, U.isNon, truth, fMod_i, fDiv_i, fMul_i, Int.reduceLT, Int.reduceNeg, Int.reducePow, Int.reduceLE, or_true, true_or, and_self, and_true, true_and, eCall, List.append_nil, List.length_cons, List.length_nil, Nat.reduceAdd, Nat.zero_add, eIsi, trOf, isa_int_none, isa_int_bool, isa_int_int, isa_int_str, isa_int_tuple, isa_int_list, isa_bool_none, isa_bool_bool, isa_bool_int, isa_bool_str, isa_bool_tuple, isa_bool_list, isa_str_none, isa_str_bool, isa_str_int, isa_str_str, isa_str_tuple, isa_str_list, isa_seq_none, isa_seq_bool, isa_seq_int, isa_seq_str, isa_seq_tuple, isa_seq_list, isa_tup_none, isa_tup_bool, isa_tup_int, isa_tup_str, isa_tup_tuple, isa_tup_list, isa_o2_o, isa_o2_tuple, isa_o3_o, isa_o3_tuple]
  unfold fEqO
  rw [if_pos (show isK 2 (persV kind mark ns ls) st = true from rfl)]
  show (if (Tr.b .tuple) ∈ [Tr.o 2, .b .tuple] then _ else _) = _
  rw [if_pos (List.mem_cons_of_mem _ List.mem_cons_self), e]
theorem key_eqv : eqvU (persKey kind mark ns ls) (persKey kind' mark' ns' ls') = (eqvU kind kind' && (eqvL ns ns' && (eqvL ls ls' && eqvU mark mark'))) := by
  unfold persKey
  rw [eqv_tup, eqvL_cons, eqvL_cons, eqvL_cons, eqvL_cons, eqvL_cons, eqvL_nil, eqv_tup, eqv_tup, eqv_str, Bool.and_true]
  simp
end
end G

set_option Elab.async false
set_option linter.all false
set_option maxRecDepth 100000
set_option maxHeartbeats 4000000
/-! Q35j: persons are right. -/
namespace G
open PySem L2 NK
theorem fAdd_ll {us ws : List U} {st : Sto} (h : us.length + ws.length ≤ 1000) : fAdd (.lst us) (.lst ws) st = .ok (.loc st.length) (st ++ [.lst (us ++ ws)]) := by
  show (if us.length + ws.length ≤ 16777216 then _ else _) = _
  rw [if_pos (by omega)]
theorem esa {f : U → U → Sto → Out U} {ma mb : ME} {env : NK.Env} {st : Sto} : eScope (eOp f ma mb) env st = scopeOut st (eOp f ma mb env st) := rfl
theorem sc_nil {st : Sto} : scopeOut st (.ok (.loc st.length) (st ++ [.lst []])) = .ok (.lst []) st := sc_lit rfl rfl
theorem fEq_nil {st : Sto} : fEq (.lst []) (.lst []) st = .ok (.bl true) st := by
  rw [fEq_ok rfl rfl, eqvU_same rfl]
/-- none of what is walked is equal -/
theorem none_eq {eqf : U → U → Sto → Out U} {env : NK.Env} {i j k : Nat} {made : U} {os : List U} {st : Sto} (hi : env[i]? = some (some made)) (hj : env[j]? = some (some (.lst os))) (hk : k < env.length) (hik : i ≠ k) (hl : os.length ≤ 1000) (ne : ∀ o ∈ os, ∀ S, eqf made o S = .ok (.bl false) S) :
    eScope (eComp (iSeq (eVar j)) (gN k) (NK.tB (eOp eqf (eVar i) (eVar k))) (eVar k) [k]) env st = .ok (.lst []) st := by
  have nil : (os.filter fun _ => false).map id = ([] : List U) := by
    rw [List.filter_eq_nil_iff.mpr (by simp)]
    rfl
  have e := comp_scope (i := k) (mt := NK.tB (eOp eqf (eVar i) (eVar k))) (me := eVar k) (mi := iSeq (eVar j)) (env := env) (st := st) (g := fun _ => True) id (fun _ => false) (us := os) (by simp only [iSeq, eVar, hj, ob, NK.src]) (fun _ => True.intro) (by omega) (fun u hu acc => by
    refine ⟨?_, fun h => by cases h⟩
    have h1 : (env.set k (some u))[i]? = some (some made) := by rw [List.getElem?_set_ne (Ne.symm hik)]; exact hi
    have h2 : (env.set k (some u))[k]? = some (some u) := by rw [List.getElem?_set_self hk]
    simp only [NK.tB, eOp, eVar, h1, h2, ob, ne u hu]) (by rw [nil]; rfl)
  rw [e, nil]
theorem right_body {pk ini : MF} {eqf : U → U → Sto → Out U} {fl : ME} {h h1 h2 : Ob} {st : Sto} {es ls : List U} {kind kind' made o1 o2 o3 o4 : U} {m : Int}
    (p1 : pk [.loc 0, .lst [.str "s", .str "d"]] (h :: st) = .ok kind (h1 :: st)) (p2 : pk [.loc 0, .lst [.int 0, .int 0, .int 1, .int 1000]] (h1 :: st) = .ok (.int m) (h2 :: st))
    (mk1 : ∀ env ma, ma env (h2 :: (st ++ [.lst es, .lst ls])) = .ok [kind, .loc (st.length + 1), .loc (st.length + 2), .int m] (h2 :: (st ++ [.lst es, .lst ls])) → eScope (eMake 2 5 ini [] ma) env (h2 :: (st ++ [.lst es, .lst ls])) = .ok made (h2 :: (st ++ [.lst es, .lst ls])))
    (mk2 : ∀ env ma, ma env (h2 :: (st ++ [.lst es, .lst ls])) = .ok [kind, .tup es, .tup ls, .int m] (h2 :: (st ++ [.lst es, .lst ls])) → eScope (eMake 2 5 ini [] ma) env (h2 :: (st ++ [.lst es, .lst ls])) = .ok made (h2 :: (st ++ [.lst es, .lst ls])))
    (S3 : Sto) (hS : S3 = h2 :: (st ++ [.lst (es ++ [.int 0]), .lst (ls ++ [.str "dead"])]))
    (mo1 : ∀ env ma, ma env S3 = .ok [kind', .lst es, .lst ls, .int m] S3 → eScope (eMake 2 5 ini [] ma) env S3 = .ok o1 S3)
    (mo2 : ∀ env ma, ma env S3 = .ok [kind, .lst (es ++ [.non]), .lst ls, .int m] S3 → eScope (eMake 2 5 ini [] ma) env S3 = .ok o2 S3)
    (mo3 : ∀ env ma, ma env S3 = .ok [kind, .lst es, .lst (ls ++ [.non]), .int m] S3 → eScope (eMake 2 5 ini [] ma) env S3 = .ok o3 S3)
    (mo4 : ∀ env ma, ma env S3 = .ok [kind, .lst es, .lst ls, .int (1 - if 1 < m then 1 else m)] S3 → eScope (eMake 2 5 ini [] ma) env S3 = .ok o4 S3)
    (hfl : fl [some (.loc 0), some (.lst es), some (.lst ls), some kind, some (.int m), some (.loc (st.length + 1)), some (.loc (st.length + 2)), some made, some made, none, none] S3 = .ok kind' S3)
    (g0 : ∀ S, getF 2 0 made S = some kind) (g1 : ∀ S, getF 2 1 made S = some (.tup es)) (g2 : ∀ S, getF 2 2 made S = some (.tup ls)) (g3 : ∀ S, getF 2 3 made S = some (.int m))
    (ue : U.underL 0 (es ++ [.non]) = true) (ul : U.underL 0 (ls ++ [.non]) = true) (le : es.length ≤ 100) (ll : ls.length ≤ 100) (u1 : o1.under 0 = true) (u2 : o2.under 0 = true) (u3 : o3.under 0 = true) (u4 : o4.under 0 = true)
    (hne : ∀ S, fNe (.tup [kind, .tup es, .tup ls, .int m]) (.tup [kind, .tup es, .tup ls, .int m]) S = .ok (.bl false) S)
    (ee : ∀ S, eqf made made S = .ok (.bl true) S) (et : ∀ S us, eqf made (.tup us) S = .ok (.bl false) S) (ne : ∀ o ∈ [o1, o2, o3, o4], ∀ S, eqf made o S = .ok (.bl false) S) :
    (sSeq (sPar 3 4 (aCons (eCall 2 pk [] (aCons (eVar 0) (aCons (eScope (eLst (aCons (eC (.str "s")) (aCons (eC (.str "d")) aNil)))) aNil))) (aCons (eCall 2 pk [] (aCons (eVar 0) (aCons (eScope (eLst (aCons (eC (.int 0)) (aCons (eC (.int 0)) (aCons (eC (.int 1)) (aCons (eC (.int 1000)) aNil)))))) aNil))) aNil)))
    (sSeq (sPar 5 6 (aCons (eCB fList (aCons (eVar 1) aNil)) (aCons (eCB fList (aCons (eVar 2) aNil)) aNil)))
    (sSeq (sAsg (eScope (eMake 2 5 ini [] (aCons (eVar 3) (aCons (eVar 5) (aCons (eVar 6) (aCons (eVar 4) aNil)))))) (gN 7))
    (sSeq (sAsg (eScope (eMake 2 5 ini [] (aCons (eVar 3) (aCons (eCB fTuple (aCons (eVar 1) aNil)) (aCons (eCB fTuple (aCons (eVar 2) aNil)) (aCons (eVar 4) aNil)))))) (gN 8))
    (sSeq (sDrop (eBM fApp (eVar 5) (aCons (eC (.int 0)) aNil)))
    (sSeq (sDrop (eBM fApp (eVar 6) (aCons (eC (.str "dead")) aNil)))
    (sSeq (sIf (NK.tB (eOp fNe (eTup (aCons (eFld 2 0 (eVar 7)) (aCons (eFld 2 1 (eVar 7)) (aCons (eFld 2 2 (eVar 7)) (aCons (eFld 2 3 (eVar 7)) aNil))))) (eTup (aCons (eVar 3) (aCons (eCB fTuple (aCons (eVar 1) aNil)) (aCons (eCB fTuple (aCons (eVar 2) aNil)) (aCons (eVar 4) aNil))))))) (sRet (eC (.bl false))) sNext)
    (sSeq (sIf (tOr (tTru (eIsi isl [(.b .bool)] (eFld 2 3 (eVar 7)))) (tOr (tNot (tTru (eIsi isl [(.b .tuple)] (eFld 2 1 (eVar 7))))) (tNot (tTru (eIsi isl [(.b .tuple)] (eFld 2 2 (eVar 7))))))) (sRet (eC (.bl false))) sNext)
    (sSeq (sAsg (eScope (eLst (aCons (eScope (eMake 2 5 ini [] (aCons fl (aCons (eVar 1) (aCons (eVar 2) (aCons (eVar 4) aNil)))))) (aCons (eScope (eMake 2 5 ini [] (aCons (eVar 3) (aCons (eScope (eOp fAdd (eVar 1) (eScope (eLst (aCons (eC .non) aNil))))) (aCons (eVar 2) (aCons (eVar 4) aNil)))))) aNil)))) (gN 9))
    (sSeq (sAsg (eScope (eOp fAdd (eVar 9) (eScope (eLst (aCons (eScope (eMake 2 5 ini [] (aCons (eVar 3) (aCons (eVar 1) (aCons (eScope (eOp fAdd (eVar 2) (eScope (eLst (aCons (eC .non) aNil))))) (aCons (eVar 4) aNil)))))) (aCons (eScope (eMake 2 5 ini [] (aCons (eVar 3) (aCons (eVar 1) (aCons (eVar 2) (aCons (eOp fSub (eC (.int 1)) (eCB fMin2 (aCons (eVar 4) (aCons (eC (.int 1)) aNil)))) aNil)))))) aNil)))))) (gN 9))
    (sRet (eAnd (eOp eqf (eVar 7) (eVar 8)) (eAnd (eOp fEq (eScope (eComp (iSeq (eVar 9)) (gN 10) (NK.tB (eOp eqf (eVar 7) (eVar 10))) (eVar 10) [10])) (eScope (eLst aNil))) (eNot (eOp eqf (eVar 7) (eTup (aCons (eVar 3) (aCons (eVar 1) (aCons (eVar 2) (aCons (eVar 4) aNil)))))))))))))))))))) [some (.loc 0), some (.lst es), some (.lst ls), none, none, none, none, none, none, none, none] (h :: st) = .ret (.bl true) S3 := by
  have z1 : (h2 :: (st ++ [Ob.lst es, Ob.lst ls]))[st.length + 1]? = some (.lst es) := by simp
  have z2 : (h2 :: (st ++ [Ob.lst (es ++ [.int 0]), Ob.lst ls]))[st.length + 2]? = some (.lst ls) := by simp
  have s1 : ∀ us, (h2 :: (st ++ [Ob.lst es, Ob.lst ls])).set (st.length + 1) (.lst us) = h2 :: (st ++ [Ob.lst us, Ob.lst ls]) := fun us => by simp
  have s2 : (h2 :: (st ++ [Ob.lst (es ++ [.int 0]), Ob.lst ls])).set (st.length + 2) (.lst (ls ++ [.str "dead"])) = S3 := by rw [hS]; simp
  have n1 : (st ++ [Ob.lst es]).length + 1 = st.length + 2 := by simp
  have n2 : st ++ [Ob.lst es] ++ [Ob.lst ls] = st ++ [.lst es, .lst ls] := by simp
  have q1 : es.length < 16777216 := by omega
  have q2 : ls.length < 16777216 := by omega
  have a1 : es.length + 1 ≤ 1000 := by omega
  have a2 : ls.length + 1 ≤ 1000 := by omega
  have hl2 : eCB fList (aCons (eVar 1) aNil) [some (.loc 0), some (.lst es), some (.lst ls), some kind, some (.int m), none, none, none, none, none, none] (h2 :: st) = .ok (.loc (st.length + 1)) ((h2 :: st) ++ [.lst es]) := rfl
  have hc : eScope (eComp (iSeq (eVar 9)) (gN 10) (NK.tB (eOp eqf (eVar 7) (eVar 10))) (eVar 10) [10]) [some (.loc 0), some (.lst es), some (.lst ls), some kind, some (.int m), some (.loc (st.length + 1)), some (.loc (st.length + 2)), some made, some made, some (.lst [o1, o2, o3, o4]), none] S3 = .ok (.lst []) S3 := none_eq rfl rfl (by simp) (by decide) (by simp) ne
  generalize eScope (eComp (iSeq (eVar 9)) (gN 10) (NK.tB (eOp eqf (eVar 7) (eVar 10))) (eVar 10) [10]) = mc at hc ⊢
  simp (maxDischargeDepth := 8) -implicitDefEqProofs only [sSeq, sIf, sAsg, sRet, sDrop, sSetIx, sNext, sCont, NK.tAnd, NK.tOr, NK.tNot, NK.tTru, NK.tB, eOp, eUn, eCB, eIf, eAnd, eOr, eNot, eVar, eC, aCons, aNil, gN, ob, xb, NK.os, NK.xs, nb, rb, kb, eb, List.getElem?_cons_zero, List.getElem?_cons_succ, List.set_cons_zero, List.set_cons_succ, ↓reduceIte, Bool.false_eq_true, Bool.not_true, Bool.not_false, fAdd_i, fSub_i, fNeg_i, fInt_i, fAbs_i, fLt_i, fLe_i, fGt_i, fMin_i, fIsN_n, fNotN_n, fLen_lst, fLen_tup, fTuple_lst, fTuple_tup, U.isNon, truth, fMod_i, fDiv_i, fMul_i, Int.reduceLT, Int.reduceNeg, Int.reducePow, Int.reduceLE, or_true, true_or, and_self, and_true, true_and, eCall, List.append_nil, List.length_cons, List.length_nil, Nat.reduceAdd, Nat.zero_add, esl, lstK_ok, Nat.reduceLeDiff, sc_lit, U.underL, U.under, Bool.and_self, sc_nil, esa, sPar, p1, p2, hl2, fList, NK.items, n1, n2, mk1, mk2, eBM, isLoc, fApp, z1, z2, q1, q2, s1, s2, eTup, eFld, g0, g1, g2, g3, hne, eIsi, trOf, isa_int_none, isa_int_bool, isa_int_int, isa_int_str, isa_int_tuple, isa_int_list, isa_bool_none, isa_bool_bool, isa_bool_int, isa_bool_str, isa_bool_tuple, isa_bool_list, isa_str_none, isa_str_bool, isa_str_int, isa_str_str, isa_str_tuple, isa_str_list, isa_seq_none, isa_seq_bool, isa_seq_int, isa_seq_str, isa_seq_tuple, isa_seq_list, isa_tup_none, isa_tup_bool, isa_tup_int, isa_tup_str, isa_tup_tuple, isa_tup_list, isa_o2_o, isa_o2_tuple, isa_o3_o, isa_o3_tuple, hfl, fAdd_ll, a1, a2, ue, ul, mo1, mo2, mo3, mo4, u1, u2, u3, u4, List.cons_append, List.nil_append, ee, et, hc, fEq_nil, Nat.reduceLeDiff]
end G

set_option Elab.async false
set_option linter.all false
set_option maxRecDepth 100000
set_option maxHeartbeats 4000000
/-! Q35k: persons are right. -/
namespace G
open PySem L2 NK
theorem fault_snoc : ∀ {us : List U} {n : Nat} {l : Int}, faultL n l us = .non → faultL n l (us ++ [.non]) = .non
  | [], _, _, _ => rfl
  | u :: us, n, l, h => by
    rw [List.cons_append]
    unfold faultL at h ⊢
    cases u with
    | non => exact fault_snoc h
    | int k =>
      dsimp only at h ⊢
      split at h
      · cases h
      · split at h
        · cases h
        · rename_i a b
          rw [if_neg a, if_neg b]
          exact fault_snoc h
    | _ => cases h
theorem Ents.good1 {es : List U} (E : Ents es) : faultL 0 0 (es ++ [.non]) = .non := fault_snoc E.good
theorem eqvL_false {us ws : List U} (h : us.length ≠ ws.length) : eqvL us ws = false := eqvL_len h
theorem person_right {h : Ob} {st : Sto} {es ls : List U} (H : HOb h) (E : Ents es) (hl : ∀ u ∈ ls, lifD u) (ll : ls.length ≤ 100) : ∃ h', HOb h' ∧ m_u_law_person_right [.loc 0, .lst es, .lst ls] (h :: st) = .ok (.bl true) (h' :: st) := by
  obtain ⟨kind, h1, hk, H1, p1⟩ := pick_ok (st := st) (us := [.str "s", .str "d"]) H (by simp) (by simp) rfl
  obtain ⟨mark, h2, hm, H2, p2⟩ := pick_ok (st := st) (us := [.int 0, .int 0, .int 1, .int 1000]) H1 (by simp) (by simp) rfl
  have hk' : kind = .str "s" ∨ kind = .str "d" := by simpa using hk
  obtain ⟨m, rfl, m0, m1⟩ : ∃ m : Int, mark = .int m ∧ 0 ≤ m ∧ m ≤ 1000 := by
    simp only [List.mem_cons, List.not_mem_nil, or_false] at hm
    rcases hm with rfl | rfl | rfl | rfl
    · exact ⟨0, rfl, by omega, by omega⟩
    · exact ⟨0, rfl, by omega, by omega⟩
    · exact ⟨1, rfl, by omega, by omega⟩
    · exact ⟨1000, rfl, by omega, by omega⟩
  have le := E.len
  have ent1 : ∀ u ∈ es ++ [U.non], entU u := fun u hu => by
    rcases List.mem_append.mp hu with q | q
    · exact E.ent u q
    · rw [List.mem_singleton.mp q]
      exact .inl rfl
  have lif1 : ∀ u ∈ ls ++ [U.non], lifD u := fun u hu => by
    rcases List.mem_append.mp hu with q | q
    · exact hl u q
    · rw [List.mem_singleton.mp q]
      exact .inr (.inr rfl)
  have G0 : PGood kind (.int m) es ls := ⟨hk', ⟨m, rfl, m0, m1⟩, E.ent, by omega, E.good, hl⟩
  obtain ⟨kind', hkd, hkf, hkn⟩ : ∃ kind' : U, (kind' = .str "s" ∨ kind' = .str "d") ∧ (∀ env S, env[3]? = some (some kind) → (eIf (NK.tB (eOp fEq (eVar 3) (eC (.str "s")))) (eC (.str "d")) (eC (.str "s"))) env S = .ok kind' S) ∧ eqvU kind kind' = false := by
    have sd : (Str.ofString "s" == Str.ofString "d") = false := by decide
    have ds : (Str.ofString "d" == Str.ofString "s") = false := by decide
    rcases hk' with rfl | rfl
    · refine ⟨.str "d", .inr rfl, fun env S he => ?_, by rw [eqv_str]; exact sd⟩
      have q := fEq_ok (st := S) (str_ok "s" 11) (str_ok "s" 11)
      rw [eqv_str, beq_self_eq_true] at q
      simp only [eIf, NK.tB, eOp, eVar, he, ob, eC, q, ↓reduceIte]
    · refine ⟨.str "s", .inl rfl, fun env S he => ?_, by rw [eqv_str]; exact ds⟩
      have q := fEq_ok (st := S) (str_ok "d" 11) (str_ok "s" 11)
      rw [eqv_str, ds] at q
      simp only [eIf, NK.tB, eOp, eVar, he, ob, eC, q, Bool.false_eq_true, ↓reduceIte]
  have G1 : PGood kind' (.int m) es ls := ⟨hkd, ⟨m, rfl, m0, m1⟩, E.ent, by omega, E.good, hl⟩
  have G2 : PGood kind (.int m) (es ++ [.non]) ls := ⟨hk', ⟨m, rfl, m0, m1⟩, ent1, by simp; omega, E.good1, hl⟩
  have G3 : PGood kind (.int m) es (ls ++ [.non]) := ⟨hk', ⟨m, rfl, m0, m1⟩, E.ent, by omega, E.good, lif1⟩
  have G4 : PGood kind (.int (1 - if 1 < m then 1 else m)) es ls := ⟨hk', ⟨_, rfl, by split <;> omega, by split <;> omega⟩, E.ent, by omega, E.good, hl⟩
  have sq1 : Sq (.loc (st.length + 1)) es (h2 :: (st ++ [Ob.lst es, Ob.lst ls])) := .inr (.inr ⟨_, rfl, by simp⟩)
  have sq2 : Sq (.loc (st.length + 2)) ls (h2 :: (st ++ [Ob.lst es, Ob.lst ls])) := .inr (.inr ⟨_, rfl, by simp⟩)
  have vl : ∀ (us : List U) (S : Sto), Sq (.lst us) us S := fun us S => .inl rfl
  have vt : ∀ (us : List U) (S : Sto), Sq (.tup us) us S := fun us S => .inr (.inl rfl)
  have body := right_body (fl := (eIf (NK.tB (eOp fEq (eVar 3) (eC (.str "s")))) (eC (.str "d")) (eC (.str "s")))) (eqf := fEqO 2 [.o 2, .b .tuple] m_PersonState___eq) (ini := m_PersonState___init) (made := persV kind (.int m) es ls) p1 p2
    (fun env ma hma => G0.made sq1 sq2 hma) (fun env ma hma => G0.made (vt _ _) (vt _ _) hma) _ rfl
    (fun env ma hma => G1.made (vl _ _) (vl _ _) hma) (fun env ma hma => G2.made (vl _ _) (vl _ _) hma) (fun env ma hma => G3.made (vl _ _) (vl _ _) hma) (fun env ma hma => G4.made (vl _ _) (vl _ _) hma)
    (hkf _ _ rfl) (fun S => rfl) (fun S => rfl) (fun S => rfl) (fun S => rfl) (ent_under ent1) (underL_all fun u hu => okU_under 1 u ((lif1 u hu).ok 0)) (by omega) ll G1.under G2.under G3.under G4.under
    (fun S => by
      have ok : okU 12 (.tup [kind, .tup es, .tup ls, .int m]) = true := by
        have q := G0.key
        unfold persKey at q
        have q2 : ([U.str "person", kind, .tup es, .tup ls, .int m] : List U).all (okU 11) = true := q
        rw [List.all_cons, Bool.and_eq_true] at q2
        exact okU_tup q2.2
      rw [fNe_ok ok ok, eqvU_same ok]
      rfl)
    (fun S => by rw [pers_eq G0 G0, eqvU_same G0.key]) (fun S us => pers_eqt G0)
    (fun o ho S => by
      simp only [List.mem_cons, List.not_mem_nil, or_false] at ho
      rcases ho with rfl | rfl | rfl | rfl
      · rw [pers_eq G0 G1, key_eqv, hkn, Bool.false_and]
      · rw [pers_eq G0 G2, key_eqv, eqvL_false (us := es) (ws := es ++ [U.non]) (by simp), Bool.false_and, Bool.and_false]
      · rw [pers_eq G0 G3, key_eqv, eqvL_false (us := ls) (ws := ls ++ [U.non]) (by simp), Bool.false_and, Bool.and_false, Bool.and_false]
      · rw [pers_eq G0 G4, key_eqv, eqv_ii, show (m == 1 - if 1 < m then 1 else m) = false from by
          rw [beq_eq_false_iff_ne]
          split <;> omega, Bool.and_false, Bool.and_false, Bool.and_false])
  exact ⟨h2, H2, fs_val (n := 11) (mb := b_u_law_person_right) (env := [some (.loc 0), some (.lst es), some (.lst ls), none, none, none, none, none, none, none, none]) (st2 := h2 :: st) (ext := [Ob.lst (es ++ [U.int 0]), Ob.lst (ls ++ [U.str "dead"])]) rfl body (Old.hand H2.under) rfl⟩
end G

set_option Elab.async false
set_option linter.all false
set_option maxRecDepth 100000
set_option maxHeartbeats 4000000
/-! Q35l: the classes are counted. -/
namespace G
open PySem L2 NK
def intOf : U → Int | .int i => i | _ => 0
def intsOf (us : List U) : List Int := (us.filter fun u => !u.isNon).map intOf
def ncls (us : List U) : Nat := (dedup [] (intsOf us)).length
theorem dedup_snoc : ∀ (r acc : List Int) (x : Int), dedup acc (r ++ [x]) = if x ∈ dedup acc r then dedup acc r else dedup acc r ++ [x]
  | [], acc, x => rfl
  | k :: r, acc, x => dedup_snoc r (if k ∈ acc then acc else acc ++ [k]) x
theorem dedup_mem : ∀ (r acc : List Int) (x : Int), x ∈ dedup acc r ↔ x ∈ acc ∨ x ∈ r
  | [], acc, x => by simp [dedup]
  | k :: r, acc, x => by
    show x ∈ dedup (if k ∈ acc then acc else acc ++ [k]) r ↔ _
    rw [dedup_mem r]
    by_cases h : k ∈ acc
    · rw [if_pos h]
      constructor
      · rintro (a | a)
        · exact .inl a
        · exact .inr (List.mem_cons_of_mem _ a)
      · rintro (a | a)
        · exact .inl a
        · rcases List.mem_cons.mp a with rfl | b
          · exact .inl h
          · exact .inr b
    · rw [if_neg h]
      simp only [List.mem_append, List.mem_cons, List.not_mem_nil, or_false, or_assoc]
theorem ncls_le (us : List U) : ncls us ≤ us.length := by
  unfold ncls
  refine Nat.le_trans (dedup_len _ _) ?_
  unfold intsOf
  rw [List.length_map, List.length_nil, Nat.zero_add]
  exact List.length_filter_le _ _
theorem inU_ent {i : Int} : ∀ {us : List U}, (∀ u ∈ us, entU u) → inU (.int i) us = decide (i ∈ intsOf us)
  | [], _ => rfl
  | u :: us, h => by
    have ih := inU_ent (i := i) (us := us) fun w hw => h w (List.mem_cons_of_mem _ hw)
    have e : inU (.int i) (u :: us) = (NK.eqU u (.int i) || inU (.int i) us) := rfl
    rw [e, ih]
    rcases h u List.mem_cons_self with rfl | ⟨k, rfl⟩
    · rfl
    · show (((k : Int) == i) || _) = decide (i ∈ (k : Int) :: intsOf us)
      by_cases q : i = (k : Int)
      · subst q
        simp
      · have q2 : ((k : Int) == i) = false := by
          rw [beq_eq_false_iff_ne]
          exact fun e => q e.symm
        rw [q2, Bool.false_or]
        simp only [List.mem_cons, q, false_or]
def manyQ (us : List U) (k : Nat) : Bool := match us[k]? with
  | some w => !w.isNon && !inU w (us.take k)
  | none => false
theorem count_many {us : List U} (h : ∀ u ∈ us, entU u) : ∀ n, n ≤ us.length → ((List.range n).filter (manyQ us)).length = ncls (us.take n)
  | 0, _ => rfl
  | n + 1, hn => by
    have ih := count_many h n (by omega)
    have hw : us[n]? = some us[n] := List.getElem?_eq_getElem (by omega)
    have ht : us.take (n + 1) = us.take n ++ [us[n]] := by rw [List.take_succ, hw]; rfl
    have htn : ∀ u ∈ us.take n, entU u := fun u hu => h u (List.mem_of_mem_take hu)
    rw [List.range_succ, List.filter_append, List.length_append, ih, ht]
    have hq : manyQ us n = (!us[n].isNon && !inU us[n] (us.take n)) := by unfold manyQ; rw [hw]
    rcases h us[n] (List.getElem_mem _) with e | ⟨k, e⟩
    · rw [e] at hq ⊢
      have hq : manyQ us n = false := hq
      have e2 : intsOf (us.take n ++ [U.non]) = intsOf (us.take n) := by
        unfold intsOf
        rw [List.filter_append]
        simp [U.isNon]
      unfold ncls
      rw [e2]
      simp [hq]
    · rw [e] at hq ⊢
      have e2 : intsOf (us.take n ++ [U.int (k : Int)]) = intsOf (us.take n) ++ [(k : Int)] := by
        unfold intsOf
        rw [List.filter_append]
        simp [U.isNon, intOf]
      have hq : manyQ us n = !inU (.int (k : Int)) (us.take n) := hq
      rw [inU_ent htn] at hq
      unfold ncls
      rw [e2, dedup_snoc]
      have hm := dedup_mem (intsOf (us.take n)) [] (k : Int)
      by_cases q : (k : Int) ∈ intsOf (us.take n)
      · rw [if_pos (hm.mpr (.inr q))]
        simp [hq, q]
      · have : ¬ (k : Int) ∈ dedup [] (intsOf (us.take n)) := fun a => by
          rcases hm.mp a with b | b
          · cases b
          · exact q b
        rw [if_neg this]
        simp [hq, q]
theorem cut_take {us : List U} {k : Nat} (h : k ≤ us.length) : cutU us none (some (k : Int)) = us.take k := by
  unfold cutU
  rw [HT.sIx_none, HT.sIx_nat]
  simp
theorem cut_drop1 {us : List U} (h : 1 ≤ us.length) : cutU us (some 1) none = us.drop 1 := by
  have e : HT.sIx us.length 0 (some ((1 : Nat) : Int)) = 1 := by
    rw [HT.sIx_nat]
    omega
  unfold cutU
  rw [HT.sIx_none, show (1 : Int) = ((1 : Nat) : Int) from rfl, e, List.take_of_length_le]
  simp
def manyP (us : List U) (u : U) : Bool := match u with | .int i => manyQ us i.toNat | _ => false
theorem many_body {us : List U} {st : Sto} {ws : List U} {mc : ME} (h : mc [some (.lst us), none] st = .ok (.lst ws) st) : (sRet (eCB fLen (aCons mc aNil))) [some (.lst us), none] st = .ret (.int ws.length) st := by
  simp only [sSeq, sIf, sAsg, sRet, sDrop, sSetIx, sNext, sCont, NK.tAnd, NK.tOr, NK.tNot, NK.tTru, NK.tB, eOp, eUn, eCB, eIf, eAnd, eOr, eNot, eVar, eC, aCons, aNil, gN, ob, xb, NK.os, NK.xs, nb, rb, kb, eb, List.getElem?_cons_zero, List.getElem?_cons_succ, List.set_cons_zero, List.set_cons_succ, ↓reduceIte, Bool.false_eq_true, Bool.not_true, Bool.not_false, fAdd_i, fSub_i, fNeg_i, fInt_i, fAbs_i, fLt_i, fLe_i, fGt_i, fMin_i, fIsN_n, fNotN_n, fLen_lst, fLen_tup, fTuple_lst, fTuple_tup, U.isNon, truth, fMod_i, fDiv_i, fMul_i, Int.reduceLT, Int.reduceNeg, Int.reducePow, Int.reduceLE, or_true, true_or, and_self, and_true, true_and, eCall, List.append_nil, List.length_cons, List.length_nil, Nat.reduceAdd, Nat.zero_add, h]
theorem ent_flat {u : U} (h : entU u) : flatU u = true := by rcases h with rfl | ⟨k, rfl⟩ <;> rfl
theorem many_ok {us : List U} {st : Sto} (h : ∀ u ∈ us, entU u) (hl : us.length ≤ 100) : m_u_law_many [.lst us] st = .ok (.int (ncls us : Nat)) st := by
  have e := comp_scope (g := fun _ => True) (i := 1) (mt := tAnd (NK.tB (eOp fNotN (eOp fIx (eVar 0) (eVar 1)) (eC .non))) (NK.tB (eOp (fIn true) (eOp fIx (eVar 0) (eVar 1)) (eScope (eSl (eVar 0) none (some (eVar 1)))))))
    (me := eVar 1) (mi := NK.iRng1 (aCons (eCB fLen (aCons (eVar 0) aNil)) aNil)) (env := [some (.lst us), none]) (st := st) id (manyP us) (us := (List.range us.length).map fun (i : Nat) => .int (0 + (i : Int)))
    (rng_ok (by simp only [sSeq, sIf, sAsg, sRet, sDrop, sSetIx, sNext, sCont, NK.tAnd, NK.tOr, NK.tNot, NK.tTru, NK.tB, eOp, eUn, eCB, eIf, eAnd, eOr, eNot, eVar, eC, aCons, aNil, gN, ob, xb, NK.os, NK.xs, nb, rb, kb, eb, List.getElem?_cons_zero, List.getElem?_cons_succ, List.set_cons_zero, List.set_cons_succ, ↓reduceIte, Bool.false_eq_true, Bool.not_true, Bool.not_false, fAdd_i, fSub_i, fNeg_i, fInt_i, fAbs_i, fLt_i, fLe_i, fGt_i, fMin_i, fIsN_n, fNotN_n, fLen_lst, fLen_tup, fTuple_lst, fTuple_tup, U.isNon, truth, fMod_i, fDiv_i, fMul_i, Int.reduceLT, Int.reduceNeg, Int.reducePow, Int.reduceLE, or_true, true_or, and_self, and_true, true_and, eCall, List.append_nil, List.length_cons, List.length_nil, Nat.reduceAdd, Nat.zero_add]) (by omega)) (fun _ => True.intro) (by simp; omega) (fun u hu acc => by
      rw [List.mem_map] at hu
      obtain ⟨k, hk, rfl⟩ := hu
      rw [List.mem_range] at hk
      rw [Int.zero_add]
      have hw : us[k]? = some us[k] := List.getElem?_eq_getElem hk
      have hx : ∀ S, fIx (.lst us) (.int (k : Int)) S = .ok us[k] S := fun S => fIx_lst (by rw [NK.atI_nat]; exact hw)
      have ht : U.underL 0 (us.take k) = true := ent_under fun u hu => h u (List.mem_of_mem_take hu)
      have hs : ∀ S, eScope (eSl (eVar 0) none (some (eVar 1))) [some (.lst us), some (.int (k : Int))] S = .ok (.lst (us.take k)) S := fun S => by
        show scopeOut S (eSl (eVar 0) none (some (eVar 1)) [some (.lst us), some (.int (k : Int))] S) = _
        have : eSl (eVar 0) none (some (eVar 1)) [some (.lst us), some (.int (k : Int))] S = .ok (.loc S.length) (S ++ [.lst (us.take k)]) := by
          simp only [eSl, eVar, List.getElem?_cons_zero, List.getElem?_cons_succ, ob, eSl.lsts, cut_take (Nat.le_of_lt hk)]
        rw [this]
        exact sc_lit rfl ht
      have hq : manyP us (.int (k : Int)) = (!us[k].isNon && !inU us[k] (us.take k)) := by
        show manyQ us (k : Int).toNat = _
        rw [Int.toNat_natCast]
        unfold manyQ
        rw [hw]
      have hf : ∀ S, fIn true us[k] (.lst (us.take k)) S = .ok (.bl (!inU us[k] (us.take k))) S := fun S => by
        unfold fIn
        have : flatU us[k] = true ∧ (us.take k).all flatU = true := ⟨ent_flat (h _ (List.getElem_mem hk)), List.all_eq_true.mpr fun u hu => ent_flat (h u (List.mem_of_mem_take hu))⟩
        simp only [items, this, and_self, ↓reduceIte]
      refine ⟨?_, fun _ => rfl⟩
      rw [hq]
      show NK.tAnd _ _ [some (.lst us), some (.int (k : Int))] _ = _
      have he := h us[k] (List.getElem_mem hk)
      generalize us[k] = w at hx hf he ⊢
      rcases he with rfl | ⟨j, rfl⟩
      · simp only [sSeq, sIf, sAsg, sRet, sDrop, sSetIx, sNext, sCont, NK.tAnd, NK.tOr, NK.tNot, NK.tTru, NK.tB, eOp, eUn, eCB, eIf, eAnd, eOr, eNot, eVar, eC, aCons, aNil, gN, ob, xb, NK.os, NK.xs, nb, rb, kb, eb, List.getElem?_cons_zero, List.getElem?_cons_succ, List.set_cons_zero, List.set_cons_succ, ↓reduceIte, Bool.false_eq_true, Bool.not_true, Bool.not_false, fAdd_i, fSub_i, fNeg_i, fInt_i, fAbs_i, fLt_i, fLe_i, fGt_i, fMin_i, fIsN_n, fNotN_n, fLen_lst, fLen_tup, fTuple_lst, fTuple_tup, U.isNon, truth, fMod_i, fDiv_i, fMul_i, Int.reduceLT, Int.reduceNeg, Int.reducePow, Int.reduceLE, or_true, true_or, and_self, and_true, true_and, eCall, List.append_nil, List.length_cons, List.length_nil, Nat.reduceAdd, Nat.zero_add, hx, Bool.false_and]
      · simp only [sSeq, sIf, sAsg, sRet, sDrop, sSetIx, sNext, sCont, NK.tAnd, NK.tOr, NK.tNot, NK.tTru, NK.tB, eOp, eUn, eCB, eIf, eAnd, eOr, eNot, eVar, eC, aCons, aNil, gN, ob, xb, NK.os, NK.xs, nb, rb, kb, eb, List.getElem?_cons_zero, List.getElem?_cons_succ, List.set_cons_zero, List.set_cons_succ, ↓reduceIte, Bool.false_eq_true, Bool.not_true, Bool.not_false, fAdd_i, fSub_i, fNeg_i, fInt_i, fAbs_i, fLt_i, fLe_i, fGt_i, fMin_i, fIsN_n, fNotN_n, fLen_lst, fLen_tup, fTuple_lst, fTuple_tup, U.isNon, truth, fMod_i, fDiv_i, fMul_i, Int.reduceLT, Int.reduceNeg, Int.reducePow, Int.reduceLE, or_true, true_or, and_self, and_true, true_and, eCall, List.append_nil, List.length_cons, List.length_nil, Nat.reduceAdd, Nat.zero_add, hx, hs, hf, Bool.true_and])
    (underL_all fun u hu => by
      rw [List.map_id] at hu
      have := (List.mem_filter.mp hu).1
      rw [List.mem_map] at this
      obtain ⟨k, _, rfl⟩ := this
      rfl)
  refine fs_same (env := [some (.lst us), none]) rfl ?_ rfl
  have c : ((((List.range us.length).map fun (i : Nat) => U.int (0 + (i : Int))).filter (manyP us)).map id).length = ncls us := by
    rw [List.map_id, List.filter_map, List.length_map]
    have : (manyP us ∘ fun (i : Nat) => U.int (0 + (i : Int))) = manyQ us := by
      funext k
      simp [manyP]
    rw [this, count_many h _ (Nat.le_refl _), List.take_length]
  have b := many_body (mc := eScope (eComp (iRng1 (aCons (eCB fLen (aCons (eVar 0) aNil)) aNil)) (gN 1) (tAnd (NK.tB (eOp fNotN (eOp fIx (eVar 0) (eVar 1)) (eC .non))) (NK.tB (eOp (fIn true) (eOp fIx (eVar 0) (eVar 1)) (eScope (eSl (eVar 0) none (some (eVar 1))))))) (eVar 1) [1])) e
  rw [c] at b
  exact b
end G

set_option Elab.async false
set_option linter.all false
set_option maxRecDepth 100000
set_option maxHeartbeats 4000000
/-! Q35m: a couple's state is made. -/
namespace G
open PySem L2 NK
def coupKey (ns ls : List U) (s d : U) (bs ms : List U) : U := .tup [.str "couple", .tup ns, .tup ls, s, d, .tup bs, .tup ms]
def coupF (n : Nat) (ns ls : List U) (s d : Int) (bs ms : List U) (nw : Bool) : List U := [.int (n : Int), .tup ns, .tup ls, .int s, .int d, .tup bs, .tup ms, coupKey ns ls (.int s) (.int d) bs ms, .bl nw]
section
variable {a1 a2 a3 a4 a5 : MF} {cl bc nw : ME} {names lives borne marks sons daus : U} {ns ls bs ms : List U} {s d : Int} {n : Nat} {st S : Sto} {w : Bool} {x : Ex} {o : U}
theorem coup_ok (h1 : a1 [names] (st ++ [Ob.ins 3 []]) = .ok .non (st ++ [Ob.ins 3 []])) (h2 : a2 [lives] (st ++ [Ob.ins 3 []]) = .ok .non (st ++ [Ob.ins 3 []]))
    (h3 : a3 [.int s, .int 0, .int 3] (st ++ [Ob.ins 3 []]) = .ok (.bl true) (st ++ [Ob.ins 3 []])) (h4 : a3 [.int d, .int 0, .int 3] (st ++ [Ob.ins 3 []]) = .ok (.bl true) (st ++ [Ob.ins 3 []]))
    (hc : cl [some (U.loc st.length), some names, some lives, some (U.int s), some (U.int d), some borne, some marks, none, none] (st ++ [Ob.ins 3 []]) = .ok (.int (n : Int)) (st ++ [Ob.ins 3 []]))
    (h5 : a4 [borne, .int (n : Int)] (st ++ [Ob.ins 3 [.int (n : Int)]]) = .ok .non (st ++ [Ob.ins 3 [.int (n : Int)]])) (h6 : a5 [marks] (st ++ [Ob.ins 3 [.int (n : Int)]]) = .ok .non (st ++ [Ob.ins 3 [.int (n : Int)]]))
    (tn : ∀ ext, fTuple [names] (st ++ ext) = .ok (.tup ns) (st ++ ext)) (tl : ∀ ext, fTuple [lives] (st ++ ext) = .ok (.tup ls) (st ++ ext)) (tm : ∀ ext, fTuple [marks] (st ++ ext) = .ok (.tup ms) (st ++ ext))
    (hb : ∀ ext, bc [some (U.loc st.length), some names, some lives, some (U.int s), some (U.int d), some borne, some marks, none, none] (st ++ ext) = .ok (.lst bs) (st ++ ext))
    (hn : ∀ us, us[5]? = some (.tup bs) → nw [some (U.loc st.length), some names, some lives, some (U.int s), some (U.int d), some borne, some marks, none, none] (st ++ [Ob.ins 3 us]) = .ok (.bl w) (st ++ [Ob.ins 3 us])) :
    (sSeq (sDrop (eCall 1 a1 [] (aCons (eVar 1) aNil)))
    (sSeq (sDrop (eCall 1 a2 [] (aCons (eVar 2) aNil)))
    (sSeq (sIf (tOr (tNot (tTru (eCall 3 a3 [] (aCons (eVar 3) (aCons (eC (.int 0)) (aCons (eC (.int 3)) aNil)))))) (tNot (tTru (eCall 3 a3 [] (aCons (eVar 4) (aCons (eC (.int 0)) (aCons (eC (.int 3)) aNil))))))) (sRaise 1 1 (aCons (eC (.str "numbers")) aNil)) sNext)
    (sSeq (NK.sFld 3 0 (eVar 0) cl)
    (sSeq (sDrop (eCall 2 a4 [] (aCons (eVar 5) (aCons (eFld 3 0 (eVar 0)) aNil))))
    (sSeq (sDrop (eCall 1 a5 [] (aCons (eVar 6) aNil)))
    (sSeq (NK.sFld 3 1 (eVar 0) (eCB fTuple (aCons (eVar 1) aNil)))
    (sSeq (NK.sFld 3 2 (eVar 0) (eCB fTuple (aCons (eVar 2) aNil)))
    (sSeq (NK.sFld 3 3 (eVar 0) (eVar 3))
    (sSeq (NK.sFld 3 4 (eVar 0) (eVar 4))
    (sSeq (NK.sFld 3 5 (eVar 0) (eCB fTuple (aCons bc aNil)))
    (sSeq (NK.sFld 3 6 (eVar 0) (eCB fTuple (aCons (eVar 6) aNil)))
    (sSeq (NK.sFld 3 7 (eVar 0) (eTup (aCons (eC (.str "couple")) (aCons (eFld 3 1 (eVar 0)) (aCons (eFld 3 2 (eVar 0)) (aCons (eVar 3) (aCons (eVar 4) (aCons (eFld 3 5 (eVar 0)) (aCons (eFld 3 6 (eVar 0)) aNil)))))))))
    (NK.sFld 3 8 (eVar 0) nw)))))))))))))) [some (U.loc st.length), some names, some lives, some (U.int s), some (U.int d), some borne, some marks, none, none] (st ++ [Ob.ins 3 []]) = SO.next [some (U.loc st.length), some names, some lives, some (U.int s), some (U.int d), some borne, some marks, none, none] (st ++ [Ob.ins 3 (coupF n ns ls s d bs ms w)]) := by
  simp (maxDischargeDepth := 8) -implicitDefEqProofs only [sSeq, sIf, sAsg, sRet, sDrop, sSetIx, sNext, sCont, NK.tAnd, NK.tOr, NK.tNot, NK.tTru, NK.tB, eOp, eUn, eCB, eIf, eAnd, eOr, eNot, eVar, eC, aCons, aNil, gN, ob, xb, NK.os, NK.xs, nb, rb, kb, eb, List.getElem?_cons_zero, List.getElem?_cons_succ, List.set_cons_zero, List.set_cons_succ, ↓reduceIte, Bool.false_eq_true, Bool.not_true, Bool.not_false, fAdd_i, fSub_i, fNeg_i, fInt_i, fAbs_i, fLt_i, fLe_i, fGt_i, fMin_i, fIsN_n, fNotN_n, fLen_lst, fLen_tup, fTuple_lst, fTuple_tup, U.isNon, truth, fMod_i, fDiv_i, fMul_i, Int.reduceLT, Int.reduceNeg, Int.reducePow, Int.reduceLE, or_true, true_or, and_self, and_true, true_and, eCall, List.append_nil, List.length_cons, List.length_nil, Nat.reduceAdd, Nat.zero_add, eTup, Nat.reduceLeDiff, h1, h2, h3, h4, hc, h5, h6, NK.sFld, eFld, put_at, get_at, tn, tl, tm, hb, hn, List.nil_append, List.cons_append, coupF, coupKey]
theorem coup_f1 (h1 : a1 [names] S = .exc x S) : (sSeq (sDrop (eCall 1 a1 [] (aCons (eVar 1) aNil)))
    (sSeq (sDrop (eCall 1 a2 [] (aCons (eVar 2) aNil)))
    (sSeq (sIf (tOr (tNot (tTru (eCall 3 a3 [] (aCons (eVar 3) (aCons (eC (.int 0)) (aCons (eC (.int 3)) aNil)))))) (tNot (tTru (eCall 3 a3 [] (aCons (eVar 4) (aCons (eC (.int 0)) (aCons (eC (.int 3)) aNil))))))) (sRaise 1 1 (aCons (eC (.str "numbers")) aNil)) sNext)
    (sSeq (NK.sFld 3 0 (eVar 0) cl)
    (sSeq (sDrop (eCall 2 a4 [] (aCons (eVar 5) (aCons (eFld 3 0 (eVar 0)) aNil))))
    (sSeq (sDrop (eCall 1 a5 [] (aCons (eVar 6) aNil)))
    (sSeq (NK.sFld 3 1 (eVar 0) (eCB fTuple (aCons (eVar 1) aNil)))
    (sSeq (NK.sFld 3 2 (eVar 0) (eCB fTuple (aCons (eVar 2) aNil)))
    (sSeq (NK.sFld 3 3 (eVar 0) (eVar 3))
    (sSeq (NK.sFld 3 4 (eVar 0) (eVar 4))
    (sSeq (NK.sFld 3 5 (eVar 0) (eCB fTuple (aCons bc aNil)))
    (sSeq (NK.sFld 3 6 (eVar 0) (eCB fTuple (aCons (eVar 6) aNil)))
    (sSeq (NK.sFld 3 7 (eVar 0) (eTup (aCons (eC (.str "couple")) (aCons (eFld 3 1 (eVar 0)) (aCons (eFld 3 2 (eVar 0)) (aCons (eVar 3) (aCons (eVar 4) (aCons (eFld 3 5 (eVar 0)) (aCons (eFld 3 6 (eVar 0)) aNil)))))))))
    (NK.sFld 3 8 (eVar 0) nw)))))))))))))) [some o, some names, some lives, some sons, some daus, some borne, some marks, none, none] S = SO.exc x [some o, some names, some lives, some sons, some daus, some borne, some marks, none, none] S := by
  simp (maxDischargeDepth := 8) -implicitDefEqProofs only [sSeq, sIf, sAsg, sRet, sDrop, sSetIx, sNext, sCont, NK.tAnd, NK.tOr, NK.tNot, NK.tTru, NK.tB, eOp, eUn, eCB, eIf, eAnd, eOr, eNot, eVar, eC, aCons, aNil, gN, ob, xb, NK.os, NK.xs, nb, rb, kb, eb, List.getElem?_cons_zero, List.getElem?_cons_succ, List.set_cons_zero, List.set_cons_succ, ↓reduceIte, Bool.false_eq_true, Bool.not_true, Bool.not_false, fAdd_i, fSub_i, fNeg_i, fInt_i, fAbs_i, fLt_i, fLe_i, fGt_i, fMin_i, fIsN_n, fNotN_n, fLen_lst, fLen_tup, fTuple_lst, fTuple_tup, U.isNon, truth, fMod_i, fDiv_i, fMul_i, Int.reduceLT, Int.reduceNeg, Int.reducePow, Int.reduceLE, or_true, true_or, and_self, and_true, true_and, eCall, List.append_nil, List.length_cons, List.length_nil, Nat.reduceAdd, Nat.zero_add, h1]
theorem coup_f2 (h1 : a1 [names] S = .ok .non S) (h2 : a2 [lives] S = .exc x S) : (sSeq (sDrop (eCall 1 a1 [] (aCons (eVar 1) aNil)))
    (sSeq (sDrop (eCall 1 a2 [] (aCons (eVar 2) aNil)))
    (sSeq (sIf (tOr (tNot (tTru (eCall 3 a3 [] (aCons (eVar 3) (aCons (eC (.int 0)) (aCons (eC (.int 3)) aNil)))))) (tNot (tTru (eCall 3 a3 [] (aCons (eVar 4) (aCons (eC (.int 0)) (aCons (eC (.int 3)) aNil))))))) (sRaise 1 1 (aCons (eC (.str "numbers")) aNil)) sNext)
    (sSeq (NK.sFld 3 0 (eVar 0) cl)
    (sSeq (sDrop (eCall 2 a4 [] (aCons (eVar 5) (aCons (eFld 3 0 (eVar 0)) aNil))))
    (sSeq (sDrop (eCall 1 a5 [] (aCons (eVar 6) aNil)))
    (sSeq (NK.sFld 3 1 (eVar 0) (eCB fTuple (aCons (eVar 1) aNil)))
    (sSeq (NK.sFld 3 2 (eVar 0) (eCB fTuple (aCons (eVar 2) aNil)))
    (sSeq (NK.sFld 3 3 (eVar 0) (eVar 3))
    (sSeq (NK.sFld 3 4 (eVar 0) (eVar 4))
    (sSeq (NK.sFld 3 5 (eVar 0) (eCB fTuple (aCons bc aNil)))
    (sSeq (NK.sFld 3 6 (eVar 0) (eCB fTuple (aCons (eVar 6) aNil)))
    (sSeq (NK.sFld 3 7 (eVar 0) (eTup (aCons (eC (.str "couple")) (aCons (eFld 3 1 (eVar 0)) (aCons (eFld 3 2 (eVar 0)) (aCons (eVar 3) (aCons (eVar 4) (aCons (eFld 3 5 (eVar 0)) (aCons (eFld 3 6 (eVar 0)) aNil)))))))))
    (NK.sFld 3 8 (eVar 0) nw)))))))))))))) [some o, some names, some lives, some sons, some daus, some borne, some marks, none, none] S = SO.exc x [some o, some names, some lives, some sons, some daus, some borne, some marks, none, none] S := by
  simp (maxDischargeDepth := 8) -implicitDefEqProofs only [sSeq, sIf, sAsg, sRet, sDrop, sSetIx, sNext, sCont, NK.tAnd, NK.tOr, NK.tNot, NK.tTru, NK.tB, eOp, eUn, eCB, eIf, eAnd, eOr, eNot, eVar, eC, aCons, aNil, gN, ob, xb, NK.os, NK.xs, nb, rb, kb, eb, List.getElem?_cons_zero, List.getElem?_cons_succ, List.set_cons_zero, List.set_cons_succ, ↓reduceIte, Bool.false_eq_true, Bool.not_true, Bool.not_false, fAdd_i, fSub_i, fNeg_i, fInt_i, fAbs_i, fLt_i, fLe_i, fGt_i, fMin_i, fIsN_n, fNotN_n, fLen_lst, fLen_tup, fTuple_lst, fTuple_tup, U.isNon, truth, fMod_i, fDiv_i, fMul_i, Int.reduceLT, Int.reduceNeg, Int.reducePow, Int.reduceLE, or_true, true_or, and_self, and_true, true_and, eCall, List.append_nil, List.length_cons, List.length_nil, Nat.reduceAdd, Nat.zero_add, h1, h2]
theorem coup_f3 (h1 : a1 [names] S = .ok .non S) (h2 : a2 [lives] S = .ok .non S) (h3 : a3 [sons, .int 0, .int 3] S = .ok (.bl false) S) : (sSeq (sDrop (eCall 1 a1 [] (aCons (eVar 1) aNil)))
    (sSeq (sDrop (eCall 1 a2 [] (aCons (eVar 2) aNil)))
    (sSeq (sIf (tOr (tNot (tTru (eCall 3 a3 [] (aCons (eVar 3) (aCons (eC (.int 0)) (aCons (eC (.int 3)) aNil)))))) (tNot (tTru (eCall 3 a3 [] (aCons (eVar 4) (aCons (eC (.int 0)) (aCons (eC (.int 3)) aNil))))))) (sRaise 1 1 (aCons (eC (.str "numbers")) aNil)) sNext)
    (sSeq (NK.sFld 3 0 (eVar 0) cl)
    (sSeq (sDrop (eCall 2 a4 [] (aCons (eVar 5) (aCons (eFld 3 0 (eVar 0)) aNil))))
    (sSeq (sDrop (eCall 1 a5 [] (aCons (eVar 6) aNil)))
    (sSeq (NK.sFld 3 1 (eVar 0) (eCB fTuple (aCons (eVar 1) aNil)))
    (sSeq (NK.sFld 3 2 (eVar 0) (eCB fTuple (aCons (eVar 2) aNil)))
    (sSeq (NK.sFld 3 3 (eVar 0) (eVar 3))
    (sSeq (NK.sFld 3 4 (eVar 0) (eVar 4))
    (sSeq (NK.sFld 3 5 (eVar 0) (eCB fTuple (aCons bc aNil)))
    (sSeq (NK.sFld 3 6 (eVar 0) (eCB fTuple (aCons (eVar 6) aNil)))
    (sSeq (NK.sFld 3 7 (eVar 0) (eTup (aCons (eC (.str "couple")) (aCons (eFld 3 1 (eVar 0)) (aCons (eFld 3 2 (eVar 0)) (aCons (eVar 3) (aCons (eVar 4) (aCons (eFld 3 5 (eVar 0)) (aCons (eFld 3 6 (eVar 0)) aNil)))))))))
    (NK.sFld 3 8 (eVar 0) nw)))))))))))))) [some o, some names, some lives, some sons, some daus, some borne, some marks, none, none] S = SO.exc (bad "numbers") [some o, some names, some lives, some sons, some daus, some borne, some marks, none, none] S := by
  simp (maxDischargeDepth := 8) -implicitDefEqProofs only [sSeq, sIf, sAsg, sRet, sDrop, sSetIx, sNext, sCont, NK.tAnd, NK.tOr, NK.tNot, NK.tTru, NK.tB, eOp, eUn, eCB, eIf, eAnd, eOr, eNot, eVar, eC, aCons, aNil, gN, ob, xb, NK.os, NK.xs, nb, rb, kb, eb, List.getElem?_cons_zero, List.getElem?_cons_succ, List.set_cons_zero, List.set_cons_succ, ↓reduceIte, Bool.false_eq_true, Bool.not_true, Bool.not_false, fAdd_i, fSub_i, fNeg_i, fInt_i, fAbs_i, fLt_i, fLe_i, fGt_i, fMin_i, fIsN_n, fNotN_n, fLen_lst, fLen_tup, fTuple_lst, fTuple_tup, U.isNon, truth, fMod_i, fDiv_i, fMul_i, Int.reduceLT, Int.reduceNeg, Int.reducePow, Int.reduceLE, or_true, true_or, and_self, and_true, true_and, eCall, List.append_nil, List.length_cons, List.length_nil, Nat.reduceAdd, Nat.zero_add, h1, h2, h3, sRaise]
  rfl
theorem coup_f4 (h1 : a1 [names] S = .ok .non S) (h2 : a2 [lives] S = .ok .non S) (h3 : a3 [sons, .int 0, .int 3] S = .ok (.bl true) S) (h4 : a3 [daus, .int 0, .int 3] S = .ok (.bl false) S) : (sSeq (sDrop (eCall 1 a1 [] (aCons (eVar 1) aNil)))
    (sSeq (sDrop (eCall 1 a2 [] (aCons (eVar 2) aNil)))
    (sSeq (sIf (tOr (tNot (tTru (eCall 3 a3 [] (aCons (eVar 3) (aCons (eC (.int 0)) (aCons (eC (.int 3)) aNil)))))) (tNot (tTru (eCall 3 a3 [] (aCons (eVar 4) (aCons (eC (.int 0)) (aCons (eC (.int 3)) aNil))))))) (sRaise 1 1 (aCons (eC (.str "numbers")) aNil)) sNext)
    (sSeq (NK.sFld 3 0 (eVar 0) cl)
    (sSeq (sDrop (eCall 2 a4 [] (aCons (eVar 5) (aCons (eFld 3 0 (eVar 0)) aNil))))
    (sSeq (sDrop (eCall 1 a5 [] (aCons (eVar 6) aNil)))
    (sSeq (NK.sFld 3 1 (eVar 0) (eCB fTuple (aCons (eVar 1) aNil)))
    (sSeq (NK.sFld 3 2 (eVar 0) (eCB fTuple (aCons (eVar 2) aNil)))
    (sSeq (NK.sFld 3 3 (eVar 0) (eVar 3))
    (sSeq (NK.sFld 3 4 (eVar 0) (eVar 4))
    (sSeq (NK.sFld 3 5 (eVar 0) (eCB fTuple (aCons bc aNil)))
    (sSeq (NK.sFld 3 6 (eVar 0) (eCB fTuple (aCons (eVar 6) aNil)))
    (sSeq (NK.sFld 3 7 (eVar 0) (eTup (aCons (eC (.str "couple")) (aCons (eFld 3 1 (eVar 0)) (aCons (eFld 3 2 (eVar 0)) (aCons (eVar 3) (aCons (eVar 4) (aCons (eFld 3 5 (eVar 0)) (aCons (eFld 3 6 (eVar 0)) aNil)))))))))
    (NK.sFld 3 8 (eVar 0) nw)))))))))))))) [some o, some names, some lives, some sons, some daus, some borne, some marks, none, none] S = SO.exc (bad "numbers") [some o, some names, some lives, some sons, some daus, some borne, some marks, none, none] S := by
  simp (maxDischargeDepth := 8) -implicitDefEqProofs only [sSeq, sIf, sAsg, sRet, sDrop, sSetIx, sNext, sCont, NK.tAnd, NK.tOr, NK.tNot, NK.tTru, NK.tB, eOp, eUn, eCB, eIf, eAnd, eOr, eNot, eVar, eC, aCons, aNil, gN, ob, xb, NK.os, NK.xs, nb, rb, kb, eb, List.getElem?_cons_zero, List.getElem?_cons_succ, List.set_cons_zero, List.set_cons_succ, ↓reduceIte, Bool.false_eq_true, Bool.not_true, Bool.not_false, fAdd_i, fSub_i, fNeg_i, fInt_i, fAbs_i, fLt_i, fLe_i, fGt_i, fMin_i, fIsN_n, fNotN_n, fLen_lst, fLen_tup, fTuple_lst, fTuple_tup, U.isNon, truth, fMod_i, fDiv_i, fMul_i, Int.reduceLT, Int.reduceNeg, Int.reducePow, Int.reduceLE, or_true, true_or, and_self, and_true, true_and, eCall, List.append_nil, List.length_cons, List.length_nil, Nat.reduceAdd, Nat.zero_add, h1, h2, h3, h4, sRaise]
  rfl
theorem coup_f5 (h1 : a1 [names] (st ++ [Ob.ins 3 []]) = .ok .non (st ++ [Ob.ins 3 []])) (h2 : a2 [lives] (st ++ [Ob.ins 3 []]) = .ok .non (st ++ [Ob.ins 3 []]))
    (h3 : a3 [sons, .int 0, .int 3] (st ++ [Ob.ins 3 []]) = .ok (.bl true) (st ++ [Ob.ins 3 []])) (h4 : a3 [daus, .int 0, .int 3] (st ++ [Ob.ins 3 []]) = .ok (.bl true) (st ++ [Ob.ins 3 []]))
    (hc : cl [some (U.loc st.length), some names, some lives, some sons, some daus, some borne, some marks, none, none] (st ++ [Ob.ins 3 []]) = .ok (.int (n : Int)) (st ++ [Ob.ins 3 []]))
    (h5 : a4 [borne, .int (n : Int)] (st ++ [Ob.ins 3 [.int (n : Int)]]) = .exc x (st ++ [Ob.ins 3 [.int (n : Int)]])) :
    (sSeq (sDrop (eCall 1 a1 [] (aCons (eVar 1) aNil)))
    (sSeq (sDrop (eCall 1 a2 [] (aCons (eVar 2) aNil)))
    (sSeq (sIf (tOr (tNot (tTru (eCall 3 a3 [] (aCons (eVar 3) (aCons (eC (.int 0)) (aCons (eC (.int 3)) aNil)))))) (tNot (tTru (eCall 3 a3 [] (aCons (eVar 4) (aCons (eC (.int 0)) (aCons (eC (.int 3)) aNil))))))) (sRaise 1 1 (aCons (eC (.str "numbers")) aNil)) sNext)
    (sSeq (NK.sFld 3 0 (eVar 0) cl)
    (sSeq (sDrop (eCall 2 a4 [] (aCons (eVar 5) (aCons (eFld 3 0 (eVar 0)) aNil))))
    (sSeq (sDrop (eCall 1 a5 [] (aCons (eVar 6) aNil)))
    (sSeq (NK.sFld 3 1 (eVar 0) (eCB fTuple (aCons (eVar 1) aNil)))
    (sSeq (NK.sFld 3 2 (eVar 0) (eCB fTuple (aCons (eVar 2) aNil)))
    (sSeq (NK.sFld 3 3 (eVar 0) (eVar 3))
    (sSeq (NK.sFld 3 4 (eVar 0) (eVar 4))
    (sSeq (NK.sFld 3 5 (eVar 0) (eCB fTuple (aCons bc aNil)))
    (sSeq (NK.sFld 3 6 (eVar 0) (eCB fTuple (aCons (eVar 6) aNil)))
    (sSeq (NK.sFld 3 7 (eVar 0) (eTup (aCons (eC (.str "couple")) (aCons (eFld 3 1 (eVar 0)) (aCons (eFld 3 2 (eVar 0)) (aCons (eVar 3) (aCons (eVar 4) (aCons (eFld 3 5 (eVar 0)) (aCons (eFld 3 6 (eVar 0)) aNil)))))))))
    (NK.sFld 3 8 (eVar 0) nw)))))))))))))) [some (U.loc st.length), some names, some lives, some sons, some daus, some borne, some marks, none, none] (st ++ [Ob.ins 3 []]) = SO.exc x [some (U.loc st.length), some names, some lives, some sons, some daus, some borne, some marks, none, none] (st ++ [Ob.ins 3 [.int (n : Int)]]) := by
  simp (maxDischargeDepth := 8) -implicitDefEqProofs only [sSeq, sIf, sAsg, sRet, sDrop, sSetIx, sNext, sCont, NK.tAnd, NK.tOr, NK.tNot, NK.tTru, NK.tB, eOp, eUn, eCB, eIf, eAnd, eOr, eNot, eVar, eC, aCons, aNil, gN, ob, xb, NK.os, NK.xs, nb, rb, kb, eb, List.getElem?_cons_zero, List.getElem?_cons_succ, List.set_cons_zero, List.set_cons_succ, ↓reduceIte, Bool.false_eq_true, Bool.not_true, Bool.not_false, fAdd_i, fSub_i, fNeg_i, fInt_i, fAbs_i, fLt_i, fLe_i, fGt_i, fMin_i, fIsN_n, fNotN_n, fLen_lst, fLen_tup, fTuple_lst, fTuple_tup, U.isNon, truth, fMod_i, fDiv_i, fMul_i, Int.reduceLT, Int.reduceNeg, Int.reducePow, Int.reduceLE, or_true, true_or, and_self, and_true, true_and, eCall, List.append_nil, List.length_cons, List.length_nil, Nat.reduceAdd, Nat.zero_add, h1, h2, h3, h4, hc, h5, NK.sFld, eFld, put_at, get_at, List.nil_append]
theorem coup_f6 (h1 : a1 [names] (st ++ [Ob.ins 3 []]) = .ok .non (st ++ [Ob.ins 3 []])) (h2 : a2 [lives] (st ++ [Ob.ins 3 []]) = .ok .non (st ++ [Ob.ins 3 []]))
    (h3 : a3 [sons, .int 0, .int 3] (st ++ [Ob.ins 3 []]) = .ok (.bl true) (st ++ [Ob.ins 3 []])) (h4 : a3 [daus, .int 0, .int 3] (st ++ [Ob.ins 3 []]) = .ok (.bl true) (st ++ [Ob.ins 3 []]))
    (hc : cl [some (U.loc st.length), some names, some lives, some sons, some daus, some borne, some marks, none, none] (st ++ [Ob.ins 3 []]) = .ok (.int (n : Int)) (st ++ [Ob.ins 3 []]))
    (h5 : a4 [borne, .int (n : Int)] (st ++ [Ob.ins 3 [.int (n : Int)]]) = .ok .non (st ++ [Ob.ins 3 [.int (n : Int)]])) (h6 : a5 [marks] (st ++ [Ob.ins 3 [.int (n : Int)]]) = .exc x (st ++ [Ob.ins 3 [.int (n : Int)]])) :
    (sSeq (sDrop (eCall 1 a1 [] (aCons (eVar 1) aNil)))
    (sSeq (sDrop (eCall 1 a2 [] (aCons (eVar 2) aNil)))
    (sSeq (sIf (tOr (tNot (tTru (eCall 3 a3 [] (aCons (eVar 3) (aCons (eC (.int 0)) (aCons (eC (.int 3)) aNil)))))) (tNot (tTru (eCall 3 a3 [] (aCons (eVar 4) (aCons (eC (.int 0)) (aCons (eC (.int 3)) aNil))))))) (sRaise 1 1 (aCons (eC (.str "numbers")) aNil)) sNext)
    (sSeq (NK.sFld 3 0 (eVar 0) cl)
    (sSeq (sDrop (eCall 2 a4 [] (aCons (eVar 5) (aCons (eFld 3 0 (eVar 0)) aNil))))
    (sSeq (sDrop (eCall 1 a5 [] (aCons (eVar 6) aNil)))
    (sSeq (NK.sFld 3 1 (eVar 0) (eCB fTuple (aCons (eVar 1) aNil)))
    (sSeq (NK.sFld 3 2 (eVar 0) (eCB fTuple (aCons (eVar 2) aNil)))
    (sSeq (NK.sFld 3 3 (eVar 0) (eVar 3))
    (sSeq (NK.sFld 3 4 (eVar 0) (eVar 4))
    (sSeq (NK.sFld 3 5 (eVar 0) (eCB fTuple (aCons bc aNil)))
    (sSeq (NK.sFld 3 6 (eVar 0) (eCB fTuple (aCons (eVar 6) aNil)))
    (sSeq (NK.sFld 3 7 (eVar 0) (eTup (aCons (eC (.str "couple")) (aCons (eFld 3 1 (eVar 0)) (aCons (eFld 3 2 (eVar 0)) (aCons (eVar 3) (aCons (eVar 4) (aCons (eFld 3 5 (eVar 0)) (aCons (eFld 3 6 (eVar 0)) aNil)))))))))
    (NK.sFld 3 8 (eVar 0) nw)))))))))))))) [some (U.loc st.length), some names, some lives, some sons, some daus, some borne, some marks, none, none] (st ++ [Ob.ins 3 []]) = SO.exc x [some (U.loc st.length), some names, some lives, some sons, some daus, some borne, some marks, none, none] (st ++ [Ob.ins 3 [.int (n : Int)]]) := by
  simp (maxDischargeDepth := 8) -implicitDefEqProofs only [sSeq, sIf, sAsg, sRet, sDrop, sSetIx, sNext, sCont, NK.tAnd, NK.tOr, NK.tNot, NK.tTru, NK.tB, eOp, eUn, eCB, eIf, eAnd, eOr, eNot, eVar, eC, aCons, aNil, gN, ob, xb, NK.os, NK.xs, nb, rb, kb, eb, List.getElem?_cons_zero, List.getElem?_cons_succ, List.set_cons_zero, List.set_cons_succ, ↓reduceIte, Bool.false_eq_true, Bool.not_true, Bool.not_false, fAdd_i, fSub_i, fNeg_i, fInt_i, fAbs_i, fLt_i, fLe_i, fGt_i, fMin_i, fIsN_n, fNotN_n, fLen_lst, fLen_tup, fTuple_lst, fTuple_tup, U.isNon, truth, fMod_i, fDiv_i, fMul_i, Int.reduceLT, Int.reduceNeg, Int.reducePow, Int.reduceLE, or_true, true_or, and_self, and_true, true_and, eCall, List.append_nil, List.length_cons, List.length_nil, Nat.reduceAdd, Nat.zero_add, h1, h2, h3, h4, hc, h5, h6, NK.sFld, eFld, put_at, get_at, List.nil_append]
end
end G

set_option Elab.async false
set_option linter.all false
set_option maxRecDepth 100000
set_option maxHeartbeats 4000000
/-! Q35n: good states of couples. -/
namespace G
open PySem L2 NK
def pT (p : Int × Int) : U := .tup [.int p.1, .int p.2]
def pL (p : Int × Int) : U := .lst [.int p.1, .int p.2]
def asc (c : Int) : Int → List (Int × Int) → Prop
  | _, [] => True
  | l, p :: r => l ≤ p.1 ∧ p.1 ≤ c ∧ 0 ≤ p.2 ∧ p.2 ≤ 2 ∧ asc c (p.1 + 1) r
theorem asc_le {c l l' : Int} (h : l ≤ l') : ∀ {pl : List (Int × Int)}, asc c l' pl → asc c l pl
  | [], _ => True.intro
  | _ :: _, ⟨a, b⟩ => ⟨by omega, b⟩
theorem asc_len {c : Int} : ∀ {pl : List (Int × Int)} {l : Int}, asc c l pl → l ≤ c + 1 → (pl.length : Int) ≤ c + 1 - l
  | [], _, _, h => by simp; omega
  | p :: pl, l, ⟨a, b, _, _, h⟩, hl => by
    have := asc_len h (by omega)
    simp
    omega
theorem asc_neg {c : Int} : ∀ {pl : List (Int × Int)} {l : Int}, asc c l pl → ∀ p ∈ pl, 0 ≤ p.2
  | [], _, _, _, h => nomatch h
  | q :: pl, l, ⟨_, _, a, _, h⟩, p, hp => by
    rcases List.mem_cons.mp hp with rfl | hp
    · exact a
    · exact asc_neg h p hp
/-- the pairs, in the store or not -/
def PrL (S : Sto) : List (Int × Int) → List U → Prop
  | [], [] => True
  | p :: pl, v :: vs => Sq v [.int p.1, .int p.2] S ∧ PrL S pl vs
  | _, _ => False
theorem PrL.app {S : Sto} (ext : Sto) : ∀ {pl : List (Int × Int)} {vs : List U}, PrL S pl vs → PrL (S ++ ext) pl vs
  | [], [], _ => True.intro
  | _ :: _, _ :: _, ⟨a, b⟩ => ⟨a.app ext, PrL.app ext b⟩
theorem PrL.len {S : Sto} : ∀ {pl : List (Int × Int)} {vs : List U}, PrL S pl vs → vs.length = pl.length
  | [], [], _ => rfl
  | _ :: _, _ :: _, ⟨a, b⟩ => by rw [List.length_cons, List.length_cons, PrL.len b]
theorem PrL.elem {S : Sto} : ∀ {pl : List (Int × Int)} {vs : List U}, PrL S pl vs → ∀ u ∈ vs, ∃ p : Int × Int, Sq u [.int p.1, .int p.2] S
  | [], [], _, u, h => nomatch h
  | p :: _, _ :: _, ⟨a, b⟩, u, h => by
    rcases List.mem_cons.mp h with rfl | h
    · exact ⟨p, a⟩
    · exact PrL.elem b u h
theorem PrL.borne {S : Sto} {c : Int} : ∀ {pl : List (Int × Int)} {vs : List U} {l : Int}, PrL S pl vs → asc c l pl → borneB S c l vs = true
  | [], [], _, _, _ => rfl
  | p :: pl, v :: vs, l, ⟨a, b⟩, ⟨c1, c2, c3, c4, c5⟩ => by
    unfold borneB
    rw [a.items]
    have := PrL.borne b c5
    simp [isWh, c1, c2, c3, c4, this]
def tupF (S : Sto) (u : U) : U := match NK.items u S with
  | some us => .tup us
  | none => .non
theorem PrL.tups {S : Sto} : ∀ {pl : List (Int × Int)} {vs : List U}, PrL S pl vs → vs.map (tupF S) = pl.map pT
  | [], [], _ => rfl
  | p :: pl, v :: vs, ⟨a, b⟩ => by
    rw [List.map_cons, List.map_cons, PrL.tups b]
    unfold tupF
    rw [a.items]
    rfl
theorem prL_lst {S : Sto} : ∀ {pl : List (Int × Int)}, PrL S pl (pl.map pL)
  | [] => True.intro
  | _ :: _ => ⟨.inl rfl, prL_lst⟩
theorem prL_tup {S : Sto} : ∀ {pl : List (Int × Int)}, PrL S pl (pl.map pT)
  | [] => True.intro
  | _ :: _ => ⟨.inr (.inl rfl), prL_tup⟩
theorem pT_under (pl : List (Int × Int)) : U.underL 0 (pl.map pT) = true := underL_all fun u hu => by
  rw [List.mem_map] at hu
  obtain ⟨p, _, rfl⟩ := hu
  rfl
section
variable {v : U} {us vs : List U} {env : NK.Env} {S : Sto}
theorem seq_iter {j : Nat} {g : Sto → Prop} (hv : env[j]? = some (some v)) (hs : NK.src v S = some ⟨us, g⟩) : iSeq (eVar j) env S = .ok ⟨us, g⟩ S := by simp only [iSeq, eVar, hv, ob, hs]
theorem cls_ok (hv : env[1]? = some (some v)) (h : Sq v us S) (e : ∀ u ∈ us, entU u) (hl : us.length ≤ 100) (h7 : 7 < env.length) :
    (eScope (eCB fLenO (aCons (eSc (iSeq (eVar 1)) (gN 7) (NK.tB (eOp fNotN (eVar 7) (eC .non))) (eVar 7) [7]) aNil))) env S = .ok (.int (ncls us : Nat)) S := by
  obtain ⟨g, hs, hg, hx⟩ := h.src
  exact sc_pure (i := 7) (mt := NK.tB (eOp fNotN (eVar 7) (eC .non))) (me := eVar 7) (mi := iSeq (eVar 1)) intOf (fun u => !u.isNon) (us := us) (g := g) (seq_iter hv hs) (fun acc => hx _) (by omega) (fun u hu acc => by
    have h2 : (env.set 7 (some u))[7]? = some (some u) := by rw [List.getElem?_set_self h7]
    refine ⟨?_, fun hp => ?_⟩
    · simp only [NK.tB, eOp, eVar, eC, h2, ob, fNotN_n]
    · rcases e u hu with rfl | ⟨k, rfl⟩
      · cases hp
      · simp only [eVar, h2]
        rfl)
theorem bc_ok (hv : env[5]? = some (some v)) (h : Sq v vs S) (h8 : 8 < env.length) (hl : vs.length ≤ 1000) (f : U → U) (hf : ∀ u ∈ vs, ∀ ext, fTuple [u] (S ++ ext) = .ok (f u) (S ++ ext)) (hu : U.underL 0 (vs.map f) = true) :
    (eScope (eComp (iSeq (eVar 5)) (gN 8) NK.tYes (eCB fTuple (aCons (eVar 8) aNil)) [8])) env S = .ok (.lst (vs.map f)) S := by
  obtain ⟨g, hs, hg, hx⟩ := h.src
  have e := comp_scope (i := 8) (mt := NK.tYes) (me := eCB fTuple (aCons (eVar 8) aNil)) (mi := iSeq (eVar 5)) f (fun _ => true) (us := vs) (g := g) (seq_iter hv hs) (fun acc => hx _) (by omega) (fun u hu acc => by
    have h2 : (env.set 8 (some u))[8]? = some (some u) := by rw [List.getElem?_set_self h8]
    exact ⟨rfl, fun _ => by simp only [eCB, aCons, aNil, eVar, h2, ob, hf u hu]⟩) (by rw [filter_all]; exact hu)
  rw [filter_all] at e
  exact e
def newB (s d : Int) (pl : List (Int × Int)) : Bool := s == 0 && (d == 0 && (((pl.filter fun p => decide (0 < p.2)).length : Int) == 0))
def mPos (u : U) : Bool := match u with | .tup [_, .int m] => decide (0 < m) | _ => false
theorem new_ok {st : Sto} {s d : Int} {pl : List (Int × Int)} (h0 : env[0]? = some (some (.loc st.length))) (h3 : env[3]? = some (some (.int s))) (h4 : env[4]? = some (some (.int d))) (h8 : 8 < env.length) (hl : pl.length ≤ 1000) (h5 : us[5]? = some (.tup (pl.map pT))) :
    (eAnd (eOp fEq (eVar 3) (eC (.int 0))) (eAnd (eOp fEq (eVar 4) (eC (.int 0))) (eOp fEq (eCB fLen (aCons (eScope (eComp (iSeq (eFld 3 5 (eVar 0))) (gN 8) (NK.tB (eOp fGt (eOp fIx (eVar 8) (eC (.int 1))) (eC (.int 0)))) (eVar 8) [8])) aNil)) (eC (.int 0))))) env (st ++ [.ins 3 us]) = .ok (.bl (newB s d pl)) (st ++ [.ins 3 us]) := by
  have e := comp_scope (i := 8) (mt := NK.tB (eOp fGt (eOp fIx (eVar 8) (eC (.int 1))) (eC (.int 0)))) (me := eVar 8) (mi := iSeq (eFld 3 5 (eVar 0))) (env := env) (st := st ++ [.ins 3 us]) (g := fun _ => True) id mPos (us := pl.map pT)
    (by simp only [iSeq, eFld, eVar, h0, ob, get_at, h5, NK.src]) (fun _ => True.intro) (by rw [List.length_map]; omega) (fun u hu acc => by
    have h2 : (env.set 8 (some u))[8]? = some (some u) := by rw [List.getElem?_set_self h8]
    rw [List.mem_map] at hu
    obtain ⟨p, _, rfl⟩ := hu
    have hx : ∀ S, fIx (pT p) (.int 1) S = .ok (.int p.2) S := fun S => rfl
    refine ⟨?_, fun _ => by simp only [eVar, h2, id]⟩
    simp only [NK.tB, eOp, eVar, eC, h2, ob, hx, fGt_i]
    rfl) (by
      rw [List.map_id]
      exact underL_all fun u hu => underL_mem (pT_under pl) (List.mem_filter.mp hu).1)
  have c : (((pl.map pT).filter mPos).map id).length = (pl.filter fun p => decide (0 < p.2)).length := by
    rw [List.map_id, List.filter_map, List.length_map]
    rfl
  generalize ((pl.map pT).filter mPos).map id = ws at e c
  generalize eScope (eComp (iSeq (eFld 3 5 (eVar 0))) (gN 8) (NK.tB (eOp fGt (eOp fIx (eVar 8) (eC (.int 1))) (eC (.int 0)))) (eVar 8) [8]) = mc at e ⊢
  have e2 : newB s d pl = (s == 0 && (d == 0 && ((ws.length : Int) == 0))) := by rw [c]; rfl
  rw [e2]
  cases q1 : s == 0 <;> cases q2 : d == 0 <;> simp only [eAnd, eOp, eVar, eC, h3, h4, ob, fEq_ii, q1, q2, truth, ↓reduceIte, Bool.false_eq_true, eCB, aCons, aNil, e, fLen_lst, Bool.true_and, Bool.false_and]
end
structure CGood (ns ls : List U) (s d : Int) (pl : List (Int × Int)) (m1 m2 : Int) : Prop where
  e : ∀ u ∈ ns, entU u
  el : ns.length ≤ 40
  ef : faultL 0 0 ns = .non
  l : ∀ u ∈ ls, lifD u
  s : 0 ≤ s ∧ s ≤ 3
  d : 0 ≤ d ∧ d ≤ 3
  p : asc (ncls ns : Nat) 0 pl
  m : (0 ≤ m1 ∧ m1 ≤ 1000) ∧ 0 ≤ m2 ∧ m2 ≤ 1000
def coupV (ns ls : List U) (s d : Int) (pl : List (Int × Int)) (m1 m2 : Int) : U := .ins 3 (coupF (ncls ns) ns ls s d (pl.map pT) [.int m1, .int m2] (newB s d pl))
section
variable {ns ls vs ns' ls' : List U} {s d m1 m2 s' d' m1' m2' : Int} {pl pl' : List (Int × Int)} {names lives borne marks : U} {st : Sto}
theorem CGood.plen (h : CGood ns ls s d pl m1 m2) : pl.length ≤ 41 := by
  have a := asc_len h.p (by omega)
  have b := ncls_le ns
  have c := h.el
  omega
theorem CGood.key (h : CGood ns ls s d pl m1 m2) : okU 12 (coupKey ns ls (.int s) (.int d) (pl.map pT) [.int m1, .int m2]) = true := by
  refine okU_tup (n := 11) ?_
  simp only [List.all_cons, List.all_nil, Bool.and_true, Bool.and_eq_true]
  refine ⟨str_ok _ 10, okU_tup (n := 10) ?_, okU_tup (n := 10) ?_, rfl, rfl, okU_tup (n := 10) ?_, rfl⟩
  · exact List.all_eq_true.mpr fun u hu => (h.e u hu).ok 9
  · exact List.all_eq_true.mpr fun u hu => (h.l u hu).ok 9
  · exact List.all_eq_true.mpr fun u hu => by
      rw [List.mem_map] at hu
      obtain ⟨p, _, rfl⟩ := hu
      rfl
theorem CGood.under (h : CGood ns ls s d pl m1 m2) : (coupV ns ls s d pl m1 m2).under 0 = true := by
  have e := okU_under 12 _ h.key
  show U.underL 0 (coupF _ ns ls s d _ _ _) = true
  refine underL_all fun u hu => ?_
  simp only [coupF, List.mem_cons, List.not_mem_nil, or_false] at hu
  rcases hu with rfl | rfl | rfl | rfl | rfl | rfl | rfl | rfl | rfl
  · rfl
  · unfold U.under
    exact ent_under h.e
  · unfold U.under
    exact underL_all fun u hu => by rcases h.l u hu with rfl | rfl | rfl <;> rfl
  · rfl
  · rfl
  · unfold U.under
    exact pT_under pl
  · rfl
  · exact e
  · rfl
theorem old_ins {k : Nat} {us : List U} (hu : U.underL 0 us = true) : Old (st ++ [Ob.ins k []]) (st ++ [.ins k us]) := by
  refine ⟨by simp, fun i hi => ?_⟩
  rw [List.length_append, List.length_singleton] at hi
  by_cases e : i < st.length
  · left
    rw [List.getElem?_append_left e, List.getElem?_append_left e]
  · right
    have : i = st.length := by omega
    subst this
    exact ⟨Ob.ins k us, by simp, hu⟩
theorem CGood.init (h : CGood ns ls s d pl m1 m2) (hn : Sq names ns st) (hl : Sq lives ls st) (hb : Sq borne vs st) (hp : PrL st pl vs) (hm : Sq marks [.int m1, .int m2] st) :
    m_CoupleState___init [.loc st.length, names, lives, .int s, .int d, borne, marks] (st ++ [.ins 3 []]) = .ok .non (st ++ [.ins 3 (coupF (ncls ns) ns ls s d (pl.map pT) [.int m1, .int m2] (newB s d pl))]) := by
  have pl41 := h.plen
  have vl := hp.len
  have el := h.el
  have h1 := entries_ok (hn.app [.ins 3 []]) h.el (List.all_eq_true.mpr fun u hu => (h.e u hu).plain) (by rw [h.ef]; rfl)
  have h2 := lives_seq (hl.app [.ins 3 []]) (List.all_eq_true.mpr fun u hu => (h.l u hu).flat)
  rw [if_pos (List.all_eq_true.mpr fun u hu => (h.l u hu).life)] at h2
  have h3 := whole_ok (u := .int s) (lo := 0) (hi := 3) (st := st ++ [.ins 3 []]) rfl
  have h4 := whole_ok (u := .int d) (lo := 0) (hi := 3) (st := st ++ [.ins 3 []]) rfl
  rw [show isWh (.int s) 0 3 = true from by simp [isWh, h.s.1, h.s.2]] at h3
  rw [show isWh (.int d) 0 3 = true from by simp [isWh, h.d.1, h.d.2]] at h4
  have hc := cls_ok (env := [some (.loc st.length), some names, some lives, some (.int s), some (.int d), some borne, some marks, none, none]) rfl (hn.app [.ins 3 []]) h.e (by omega) (by simp)
  have h5 := borne_seq (c := (ncls ns : Nat)) (hb.app [.ins 3 [.int (ncls ns : Nat)]]) (fun u hu => by
    obtain ⟨p, q⟩ := (hp.app [.ins 3 [.int (ncls ns : Nat)]]).elem u hu
    exact .inl ⟨_, q, rfl⟩)
  rw [if_pos ((hp.app _).borne h.p)] at h5
  have h6 := marks_seq (hm.app [.ins 3 [.int (ncls ns : Nat)]]) rfl
  rw [if_pos ⟨rfl, by simp [isWh, h.m.1.1, h.m.1.2, h.m.2.1, h.m.2.2]⟩] at h6
  refine fs_next (n := 9) (mb := b_CoupleState___init) (env := [some (.loc st.length), some names, some lives, some (.int s), some (.int d), some borne, some marks, none, none]) rfl (coup_ok h1 h2 h3 h4 hc h5 h6 (fun ext => (hn.app ext).tuple) (fun ext => (hl.app ext).tuple) (fun ext => (hm.app ext).tuple) (fun ext => ?_) (fun us hus => ?_)) (old_ins ?_)
  · have e := bc_ok (env := [some (.loc st.length), some names, some lives, some (.int s), some (.int d), some borne, some marks, none, none]) rfl (hb.app ext) (by simp) (by omega) (tupF (st ++ ext)) (fun u hu e2 => by
      obtain ⟨p, q⟩ := (hp.app ext).elem u hu
      rw [(q.app e2).tuple]
      unfold tupF
      rw [q.items]) (by rw [(hp.app ext).tups]; exact pT_under pl)
    rw [(hp.app ext).tups] at e
    exact e
  · exact new_ok rfl rfl rfl (by simp) (by omega) hus
  · exact h.under
theorem CGood.made {env : NK.Env} {ma : MA} {us dus : List U} (h : CGood ns ls s d pl m1 m2) (hn : Sq names ns st) (hl : Sq lives ls st) (hb : Sq borne vs st) (hp : PrL st pl vs) (hm : Sq marks [.int m1, .int m2] st) (hma : ma env st = .ok us st) (he : us ++ dus = [names, lives, .int s, .int d, borne, marks]) :
    eScope (eMake 3 7 m_CoupleState___init dus ma) env st = .ok (coupV ns ls s d pl m1 m2) st := by
  have e := h.init hn hl hb hp hm
  generalize m_CoupleState___init = mf at e ⊢
  show scopeOut st (eMake 3 7 mf dus ma env st) = _
  simp only [eMake, hma, ob, he, List.length_cons, List.length_nil, Nat.reduceAdd, ↓reduceIte, e]
  exact sc_obj (st := st) (st2 := st) (j := 0) [.ins 3 _] (Old.refl st) rfl h.under
theorem coup_eq (h : CGood ns ls s d pl m1 m2) (h' : CGood ns' ls' s' d' pl' m1' m2') : fEqO 3 [.o 3, .b .tuple] m_CoupleState___eq (coupV ns ls s d pl m1 m2) (coupV ns' ls' s' d' pl' m1' m2') st = .ok (.bl (eqvU (coupKey ns ls (.int s) (.int d) (pl.map pT) [.int m1, .int m2]) (coupKey ns' ls' (.int s') (.int d') (pl'.map pT) [.int m1', .int m2']))) st := by
  have e : m_CoupleState___eq [coupV ns ls s d pl m1 m2, coupV ns' ls' s' d' pl' m1' m2'] st = .ok (.bl (eqvU (coupKey ns ls (.int s) (.int d) (pl.map pT) [.int m1, .int m2]) (coupKey ns' ls' (.int s') (.int d') (pl'.map pT) [.int m1', .int m2']))) st := by
    have q := fEq_ok (st := st) h.key h'.key
    refine fs_same (env := [some (coupV ns ls s d pl m1 m2), some (coupV ns' ls' s' d' pl' m1' m2')]) rfl ?_ rfl
    unfold b_CoupleState___eq
    simp only [sSeq, sIf, sAsg, sRet, sDrop, sSetIx, sNext, sCont, NK.tAnd, NK.tOr, NK.tNot, NK.tTru, NK.tB, eOp, eUn, eCB, eIf, eAnd, eOr, eNot, eVar, eC, aCons, aNil, gN, ob, xb, NK.os, NK.xs, nb, rb, kb, eb, List.getElem?_cons_zero, List.getElem?_cons_succ, List.set_cons_zero, List.set_cons_succ, ↓reduceIte, Bool.false_eq_true, Bool.not_true, Bool.not_false, fAdd_i, fSub_i, fNeg_i, fInt_i, fAbs_i, fLt_i, fLe_i, fGt_i, fMin_i, fIsN_n, fNotN_n, fLen_lst, fLen_tup, fTuple_lst, fTuple_tup, U.isNon, truth, fMod_i, fDiv_i, fMul_i, Int.reduceLT, Int.reduceNeg, Int.reducePow, Int.reduceLE, or_true, true_or, and_self, and_true, true_and, eCall, List.append_nil, List.length_cons, List.length_nil, Nat.reduceAdd, Nat.zero_add, eIsi, trOf, isa_int_none, isa_int_bool, isa_int_int, isa_int_str, isa_int_tuple, isa_int_list, isa_bool_none, isa_bool_bool, isa_bool_int, isa_bool_str, isa_bool_tuple, isa_bool_list, isa_str_none, isa_str_bool, isa_str_int, isa_str_str, isa_str_tuple, isa_str_list, isa_seq_none, isa_seq_bool, isa_seq_int, isa_seq_str, isa_seq_tuple, isa_seq_list, isa_tup_none, isa_tup_bool, isa_tup_int, isa_tup_str, isa_tup_tuple, isa_tup_list, isa_o2_o, isa_o2_tuple, isa_o3_o, isa_o3_tuple, coupV, eFld, get_ins, coupF]
    rw [q]
    rfl
  unfold fEqO
  rw [if_pos (show isK 3 (coupV ns ls s d pl m1 m2) st = true from rfl)]
  show (if (Tr.o 3) ∈ [Tr.o 3, .b .tuple] then _ else _) = _
  rw [if_pos List.mem_cons_self, e]
theorem coup_eqt {us : List U} (h : CGood ns ls s d pl m1 m2) : fEqO 3 [.o 3, .b .tuple] m_CoupleState___eq (coupV ns ls s d pl m1 m2) (.tup us) st = .ok (.bl false) st := by
  have e : m_CoupleState___eq [coupV ns ls s d pl m1 m2, .tup us] st = .ok (.bl false) st := by
    refine fs_same (env := [some (coupV ns ls s d pl m1 m2), some (.tup us)]) rfl ?_ rfl
    unfold b_CoupleState___eq
    simp only [sSeq, sIf, sAsg, sRet, sDrop, sSetIx, sNext, sCont, NK.tAnd, NK.tOr, NK.tNot, NK.tTru, NK.tB, eOp, eUn, eCB, eIf, eAnd, eOr, eNot, eVar, eC, aCons, aNil, gN, ob, xb, NK.os, NK.xs, nb, rb, kb, eb, List.getElem?_cons_zero, List.getElem?_cons_succ, List.set_cons_zero, List.set_cons_succ, ↓reduceIte, Bool.false_eq_true, Bool.not_true, Bool.not_false, fAdd_i, fSub_i, fNeg_i, fInt_i, fAbs_i, fLt_i, fLe_i, fGt_i, fMin_i, fIsN_n, fNotN_n, fLen_lst, fLen_tup, fTuple_lst, fTuple_tup, U.isNon, truth, fMod_i, fDiv_i, fMul_i, Int.reduceLT, Int.reduceNeg, Int.reducePow, Int.reduceLE, or_true, true_or, and_self, and_true, true_and, eCall, List.append_nil, List.length_cons, List.length_nil, Nat.reduceAdd, Nat.zero_add, eIsi, trOf, isa_int_none, isa_int_bool, isa_int_int, isa_int_str, isa_int_tuple, isa_int_list, isa_bool_none, isa_bool_bool, isa_bool_int, isa_bool_str, isa_bool_tuple, isa_bool_list, isa_str_none, isa_str_bool, isa_str_int, isa_str_str, isa_str_tuple, isa_str_list, isa_seq_none, isa_seq_bool, isa_seq_int, isa_seq_str, isa_seq_tuple, isa_seq_list, isa_tup_none, isa_tup_bool, isa_tup_int, isa_tup_str, isa_tup_tuple, isa_tup_list, isa_o2_o, isa_o2_tuple, isa_o3_o, isa_o3_tuple]
  unfold fEqO
  rw [if_pos (show isK 3 (coupV ns ls s d pl m1 m2) st = true from rfl)]
  show (if (Tr.b .tuple) ∈ [Tr.o 3, .b .tuple] then _ else _) = _
  rw [if_pos (List.mem_cons_of_mem _ List.mem_cons_self), e]
theorem coup_eqv {ns ls ns' ls' bs ms bs' ms' : List U} {s d s' d' : U} : eqvU (coupKey ns ls s d bs ms) (coupKey ns' ls' s' d' bs' ms') = (eqvL ns ns' && (eqvL ls ls' && (eqvU s s' && (eqvU d d' && (eqvL bs bs' && eqvL ms ms'))))) := by
  unfold coupKey
  rw [eqv_tup, eqvL_cons, eqvL_cons, eqvL_cons, eqvL_cons, eqvL_cons, eqvL_cons, eqvL_cons, eqvL_nil, eqv_tup, eqv_tup, eqv_tup, eqv_tup, eqv_str, Bool.and_true]
  simp
/-- mark_of -/
def markOf (pl : List (Int × Int)) (k : Int) : U := match pl.find? fun p => p.1 == k with
  | some p => .int p.2
  | none => .non
theorem mark_loop2 {k : Int} : ∀ (pl : List (Int × Int)) (v e2 e3 : Option U), (markOf pl k = .non ∧ ∃ env', forM (fun _ => True) (gT [2, 3]) l_CoupleState_mark_of_1 (pl.map pT) [v, some (.int k), e2, e3] st = .next env' st) ∨ forM (fun _ => True) (gT [2, 3]) l_CoupleState_mark_of_1 (pl.map pT) [v, some (.int k), e2, e3] st = .ret (markOf pl k) st
  | [], v, e2, e3 => .inl ⟨rfl, _, forM_nil True.intro⟩
  | p :: pl, v, e2, e3 => by
    by_cases q : p.1 = k
    · have hb : (p.1 == k) = true := by rw [q]; exact beq_self_eq_true k
      have m : markOf (p :: pl) k = .int p.2 := by
        unfold markOf
        rw [List.find?_cons_of_pos (p := fun q : Int × Int => q.1 == k) hb]
      right
      rw [m]
      exact forM_r (env1 := [v, some (.int k), some (.int p.1), some (.int p.2)]) True.intro rfl (by unfold l_CoupleState_mark_of_1; simp only [sSeq, sIf, sAsg, sRet, sDrop, sSetIx, sNext, sCont, NK.tAnd, NK.tOr, NK.tNot, NK.tTru, NK.tB, eOp, eUn, eCB, eIf, eAnd, eOr, eNot, eVar, eC, aCons, aNil, gN, ob, xb, NK.os, NK.xs, nb, rb, kb, eb, List.getElem?_cons_zero, List.getElem?_cons_succ, List.set_cons_zero, List.set_cons_succ, ↓reduceIte, Bool.false_eq_true, Bool.not_true, Bool.not_false, fAdd_i, fSub_i, fNeg_i, fInt_i, fAbs_i, fLt_i, fLe_i, fGt_i, fMin_i, fIsN_n, fNotN_n, fLen_lst, fLen_tup, fTuple_lst, fTuple_tup, U.isNon, truth, fMod_i, fDiv_i, fMul_i, Int.reduceLT, Int.reduceNeg, Int.reducePow, Int.reduceLE, or_true, true_or, and_self, and_true, true_and, eCall, List.append_nil, List.length_cons, List.length_nil, Nat.reduceAdd, Nat.zero_add, fEq_ii, hb])
    · have hb : (p.1 == k) = false := beq_eq_false_iff_ne.mpr q
      have m : markOf (p :: pl) k = markOf pl k := by
        unfold markOf
        rw [List.find?_cons_of_neg (p := fun q : Int × Int => q.1 == k) (by rw [hb]; exact Bool.false_ne_true)]
      have e := forM_n (g := fun _ => True) (gt := gT [2, 3]) (b := l_CoupleState_mark_of_1) (u := pT p) (us := pl.map pT) (env := [v, some (.int k), e2, e3]) (env1 := [v, some (.int k), some (.int p.1), some (.int p.2)]) (env2 := [v, some (.int k), some (.int p.1), some (.int p.2)]) (st := st) (st2 := st) True.intro rfl (by unfold l_CoupleState_mark_of_1; simp only [sSeq, sIf, sAsg, sRet, sDrop, sSetIx, sNext, sCont, NK.tAnd, NK.tOr, NK.tNot, NK.tTru, NK.tB, eOp, eUn, eCB, eIf, eAnd, eOr, eNot, eVar, eC, aCons, aNil, gN, ob, xb, NK.os, NK.xs, nb, rb, kb, eb, List.getElem?_cons_zero, List.getElem?_cons_succ, List.set_cons_zero, List.set_cons_succ, ↓reduceIte, Bool.false_eq_true, Bool.not_true, Bool.not_false, fAdd_i, fSub_i, fNeg_i, fInt_i, fAbs_i, fLt_i, fLe_i, fGt_i, fMin_i, fIsN_n, fNotN_n, fLen_lst, fLen_tup, fTuple_lst, fTuple_tup, U.isNon, truth, fMod_i, fDiv_i, fMul_i, Int.reduceLT, Int.reduceNeg, Int.reducePow, Int.reduceLE, or_true, true_or, and_self, and_true, true_and, eCall, List.append_nil, List.length_cons, List.length_nil, Nat.reduceAdd, Nat.zero_add, fEq_ii, hb])
      rw [m, List.map_cons, e]
      exact mark_loop2 pl v _ _
theorem markOf_flat (pl : List (Int × Int)) (k : Int) : markOf pl k = .non ∨ ∃ i, markOf pl k = .int i := by
  unfold markOf
  split
  · exact .inr ⟨_, rfl⟩
  · exact .inl rfl
theorem mark_of_ok {k : Int} : m_CoupleState_mark_of [coupV ns ls s d pl m1 m2, .int k] st = .ok (markOf pl k) st := by
  refine fs_same (env := [some (coupV ns ls s d pl m1 m2), some (.int k), none, none]) rfl ?_ (by rcases markOf_flat pl k with e | ⟨i, e⟩ <;> rw [e] <;> rfl)
  have hi : iSeq (eFld 3 5 (eVar 0)) [some (coupV ns ls s d pl m1 m2), some (.int k), none, none] st = .ok ⟨pl.map pT, fun _ => True⟩ st := by
    simp only [sSeq, sIf, sAsg, sRet, sDrop, sSetIx, sNext, sCont, NK.tAnd, NK.tOr, NK.tNot, NK.tTru, NK.tB, eOp, eUn, eCB, eIf, eAnd, eOr, eNot, eVar, eC, aCons, aNil, gN, ob, xb, NK.os, NK.xs, nb, rb, kb, eb, List.getElem?_cons_zero, List.getElem?_cons_succ, List.set_cons_zero, List.set_cons_succ, ↓reduceIte, Bool.false_eq_true, Bool.not_true, Bool.not_false, fAdd_i, fSub_i, fNeg_i, fInt_i, fAbs_i, fLt_i, fLe_i, fGt_i, fMin_i, fIsN_n, fNotN_n, fLen_lst, fLen_tup, fTuple_lst, fTuple_tup, U.isNon, truth, fMod_i, fDiv_i, fMul_i, Int.reduceLT, Int.reduceNeg, Int.reducePow, Int.reduceLE, or_true, true_or, and_self, and_true, true_and, eCall, List.append_nil, List.length_cons, List.length_nil, Nat.reduceAdd, Nat.zero_add, iSeq, eFld, coupV, get_ins, coupF, NK.src]
  unfold b_CoupleState_mark_of
  rcases mark_loop2 (st := st) (k := k) pl (some (coupV ns ls s d pl m1 m2)) none none with ⟨e, env', f⟩ | f
  · simp only [sSeq, sIf, sAsg, sRet, sDrop, sSetIx, sNext, sCont, NK.tAnd, NK.tOr, NK.tNot, NK.tTru, NK.tB, eOp, eUn, eCB, eIf, eAnd, eOr, eNot, eVar, eC, aCons, aNil, gN, ob, xb, NK.os, NK.xs, nb, rb, kb, eb, List.getElem?_cons_zero, List.getElem?_cons_succ, List.set_cons_zero, List.set_cons_succ, ↓reduceIte, Bool.false_eq_true, Bool.not_true, Bool.not_false, fAdd_i, fSub_i, fNeg_i, fInt_i, fAbs_i, fLt_i, fLe_i, fGt_i, fMin_i, fIsN_n, fNotN_n, fLen_lst, fLen_tup, fTuple_lst, fTuple_tup, U.isNon, truth, fMod_i, fDiv_i, fMul_i, Int.reduceLT, Int.reduceNeg, Int.reducePow, Int.reduceLE, or_true, true_or, and_self, and_true, true_and, eCall, List.append_nil, List.length_cons, List.length_nil, Nat.reduceAdd, Nat.zero_add, sFor, hi, f, e]
  · simp only [sSeq, sIf, sAsg, sRet, sDrop, sSetIx, sNext, sCont, NK.tAnd, NK.tOr, NK.tNot, NK.tTru, NK.tB, eOp, eUn, eCB, eIf, eAnd, eOr, eNot, eVar, eC, aCons, aNil, gN, ob, xb, NK.os, NK.xs, nb, rb, kb, eb, List.getElem?_cons_zero, List.getElem?_cons_succ, List.set_cons_zero, List.set_cons_succ, ↓reduceIte, Bool.false_eq_true, Bool.not_true, Bool.not_false, fAdd_i, fSub_i, fNeg_i, fInt_i, fAbs_i, fLt_i, fLe_i, fGt_i, fMin_i, fIsN_n, fNotN_n, fLen_lst, fLen_tup, fTuple_lst, fTuple_tup, U.isNon, truth, fMod_i, fDiv_i, fMul_i, Int.reduceLT, Int.reduceNeg, Int.reducePow, Int.reduceLE, or_true, true_or, and_self, and_true, true_and, eCall, List.append_nil, List.length_cons, List.length_nil, Nat.reduceAdd, Nat.zero_add, sFor, hi, f]
def headU : List U → U
  | [] => .non
  | u :: _ => u
theorem due_head {k : Int} : ∀ pl : List (Int × Int), markOf pl k = headU ((pl.filter fun p => p.1 == k).map fun p => U.int p.2)
  | [] => rfl
  | p :: pl => by
    cases q : p.1 == k with
    | true =>
      rw [List.filter_cons_of_pos (p := fun q : Int × Int => q.1 == k) q]
      unfold markOf
      rw [List.find?_cons_of_pos (p := fun q : Int × Int => q.1 == k) q]
      rfl
    | false =>
      rw [List.filter_cons_of_neg (p := fun q : Int × Int => q.1 == k) (by rw [q]; exact Bool.false_ne_true), ← due_head pl]
      unfold markOf
      rw [List.find?_cons_of_neg (p := fun q : Int × Int => q.1 == k) (by rw [q]; exact Bool.false_ne_true)]
end
end G

set_option Elab.async false
set_option linter.all false
set_option maxRecDepth 100000
set_option maxHeartbeats 4000000
/-! Q35o: the parts of couples put right. -/
namespace G
open PySem L2 NK
def locsFrom (k n : Nat) : List U := (List.range' k n).map U.loc
def cell (p : Int × Int) : Ob := .lst [.int p.1, .int p.2]
theorem locs_cons {k n : Nat} : locsFrom k (n + 1) = .loc k :: locsFrom (k + 1) n := rfl
theorem locs_len {k n : Nat} : (locsFrom k n).length = n := by simp [locsFrom]
theorem compM_step {g : Sto → Prop} {gt : MGt} {mt : MT} {me : ME} {D : Nat} {env env1 : NK.Env} {u w : U} {us acc : List U} {st st1 st2 : Sto} (hg : g st) (ht : gt u env st = some env1) (h1 : mt env1 st = .ok true st1) (h2 : me env1 st1 = .ok w st2) (h3 : st2[D]? = some (.lst acc)) (hz : acc.length < 16777216) :
    compM g gt mt me D env (u :: us) st = compM g gt mt me D env us (st2.set D (.lst (acc ++ [w]))) := by
  rw [compM, if_pos hg, ht]
  dsimp only
  rw [h1]
  dsimp only
  rw [h2]
  dsimp only
  rw [h3]
  dsimp only
  rw [if_pos hz]
theorem hand_lists {S : Sto} {env : NK.Env} (h9 : 9 < env.length) : ∀ (pl : List (Int × Int)) (acc : List U) (cells : Sto), acc.length + pl.length ≤ 1000 → 
    compM (fun _ => True) (gN 9) NK.tYes (eCB fList (aCons (eVar 9) aNil)) S.length (wipeE env [9]) (pl.map pL) (S ++ (.lst acc :: cells)) = .ok (.loc S.length) (S ++ (.lst (acc ++ locsFrom (S.length + 1 + cells.length) pl.length) :: (cells ++ pl.map cell)))
  | [], acc, cells, _ => by
    rw [List.map_nil]
    unfold compM
    rw [if_pos True.intro]
    simp [locsFrom]
  | p :: pl, acc, cells, hz => by
    rw [List.length_cons] at hz
    have ih := hand_lists (S := S) h9 pl (acc ++ [.loc (S.length + 1 + cells.length)]) (cells ++ [cell p]) (by simp; omega)
    have h2 : (env.set 9 (some (pL p)))[9]? = some (some (pL p)) := by rw [List.getElem?_set_self h9]
    have e1 : eCB fList (aCons (eVar 9) aNil) (env.set 9 (some (pL p))) (S ++ (.lst acc :: cells)) = .ok (.loc (S.length + 1 + cells.length)) (S ++ (.lst acc :: (cells ++ [cell p]))) := by
      have hlen : (S ++ (Ob.lst acc :: cells)).length = S.length + 1 + cells.length := by
        simp
        omega
      have hf : fList [pL p] (S ++ (Ob.lst acc :: cells)) = .ok (.loc (S ++ (Ob.lst acc :: cells)).length) ((S ++ (Ob.lst acc :: cells)) ++ [.lst [.int p.1, .int p.2]]) := rfl
      simp only [eCB, aCons, aNil, eVar, h2, ob, hf, hlen]
      simp [cell]
    have e2 : (S ++ (Ob.lst acc :: (cells ++ [cell p])))[S.length]? = some (.lst acc) := by simp
    have e3 : (S ++ (Ob.lst acc :: (cells ++ [cell p]))).set S.length (.lst (acc ++ [.loc (S.length + 1 + cells.length)])) = S ++ (.lst (acc ++ [.loc (S.length + 1 + cells.length)]) :: (cells ++ [cell p])) := by simp
    rw [List.map_cons, compM_step (env1 := env.set 9 (some (pL p))) (st1 := S ++ (.lst acc :: cells)) True.intro (congrArg some (wipe1 env 9 (pL p))) rfl e1 e2 (by omega), e3, ih]
    simp [locs_cons, Nat.add_assoc]
theorem prL_locs {S' : Sto} : ∀ (pl : List (Int × Int)) (k : Nat), (∀ i p, pl[i]? = some p → S'[k + i]? = some (cell p)) → PrL S' pl (locsFrom k pl.length)
  | [], _, _ => True.intro
  | p :: pl, k, h => by
    rw [List.length_cons, locs_cons]
    refine ⟨.inr (.inr ⟨k, rfl, h 0 p rfl⟩), prL_locs pl (k + 1) fun i q hi => ?_⟩
    have := h (i + 1) q (by simpa using hi)
    rw [show k + 1 + i = k + (i + 1) by omega]
    exact this
theorem l1_step {x0 x1 x2 x3 x4 x5 x6 x7 x8 : Option U} {pre rest : Sto} {a b : U} : l_u_law_couple_right_1 [x0, x1, x2, x3, x4, x5, x6, x7, x8, some (.loc pre.length), none, none, none, none] (pre ++ (.lst [a, b] :: rest)) = .next [x0, x1, x2, x3, x4, x5, x6, x7, x8, some (.loc pre.length), none, none, none, none] (pre ++ (.lst [a, .int 7] :: rest)) := by
  have e : setIx (.loc pre.length) (.int 1) (.int 7) (pre ++ (.lst [a, b] :: rest)) = some (pre ++ (.lst [a, .int 7] :: rest)) := by
    simp [setIx, ixN]
  unfold l_u_law_couple_right_1
  simp only [sSeq, sIf, sAsg, sRet, sDrop, sSetIx, sNext, sCont, NK.tAnd, NK.tOr, NK.tNot, NK.tTru, NK.tB, eOp, eUn, eCB, eIf, eAnd, eOr, eNot, eVar, eC, aCons, aNil, gN, ob, xb, NK.os, NK.xs, nb, rb, kb, eb, List.getElem?_cons_zero, List.getElem?_cons_succ, List.set_cons_zero, List.set_cons_succ, ↓reduceIte, Bool.false_eq_true, Bool.not_true, Bool.not_false, fAdd_i, fSub_i, fNeg_i, fInt_i, fAbs_i, fLt_i, fLe_i, fGt_i, fMin_i, fIsN_n, fNotN_n, fLen_lst, fLen_tup, fTuple_lst, fTuple_tup, U.isNon, truth, fMod_i, fDiv_i, fMul_i, Int.reduceLT, Int.reduceNeg, Int.reducePow, Int.reduceLE, or_true, true_or, and_self, and_true, true_and, eCall, List.append_nil, List.length_cons, List.length_nil, Nat.reduceAdd, Nat.zero_add, e]
theorem l1_loop {x0 x1 x2 x3 x4 x5 x6 x7 x8 : Option U} {g : Sto → Prop} : ∀ (pl : List (Int × Int)) (pre : Sto) (e9 : Option U), (∀ ext, g (pre ++ ext)) → ∃ f9 cells, forM g (gN 9) l_u_law_couple_right_1 (locsFrom pre.length pl.length) [x0, x1, x2, x3, x4, x5, x6, x7, x8, e9, none, none, none, none] (pre ++ pl.map cell) = .next [x0, x1, x2, x3, x4, x5, x6, x7, x8, f9, none, none, none, none] (pre ++ cells)
  | [], pre, e9, hg => ⟨e9, [], forM_nil (hg [])⟩
  | p :: pl, pre, e9, hg => by
    obtain ⟨f9, cells, e⟩ := l1_loop (x0 := x0) (x1 := x1) (x2 := x2) (x3 := x3) (x4 := x4) (x5 := x5) (x6 := x6) (x7 := x7) (x8 := x8) (g := g) pl (pre ++ [.lst [.int p.1, .int 7]]) (some (.loc pre.length)) (fun ext => by rw [List.append_assoc]; exact hg _)
    refine ⟨f9, .lst [.int p.1, .int 7] :: cells, ?_⟩
    rw [List.length_cons, locs_cons, List.map_cons, show cell p = .lst [.int p.1, .int p.2] from rfl, forM_n (env1 := [x0, x1, x2, x3, x4, x5, x6, x7, x8, some (.loc pre.length), none, none, none, none]) (hg _) rfl l1_step]
    rw [List.length_append, List.length_singleton, List.append_assoc, List.append_assoc] at e
    exact e
theorem sum_ok {env : NK.Env} {S : Sto} {pl : List (Int × Int)} (h5 : env[5]? = some (some (.tup (pl.map pT)))) (h9 : 9 < env.length) (hl : pl.length ≤ 1000) :
    (eScope (eComp (iSeq (eVar 5)) (gN 9) NK.tYes (eOp fIx (eVar 9) (eC (.int 1))) [9])) env S = .ok (.lst (pl.map fun p => .int p.2)) S := by
  have e := comp_scope (i := 9) (mt := NK.tYes) (me := eOp fIx (eVar 9) (eC (.int 1))) (mi := iSeq (eVar 5)) (env := env) (st := S) (g := fun _ => True) (fun u => match u with | .tup [_, .int m] => .int m | _ => .non) (fun _ => true) (us := pl.map pT) (by simp only [iSeq, eVar, h5, ob, NK.src]) (fun _ => True.intro) (by rw [List.length_map]; omega) (fun u hu acc => by
    have h2 : (env.set 9 (some u))[9]? = some (some u) := by rw [List.getElem?_set_self h9]
    rw [List.mem_map] at hu
    obtain ⟨p, _, rfl⟩ := hu
    have hx : ∀ S, fIx (pT p) (.int 1) S = .ok (.int p.2) S := fun S => rfl
    exact ⟨rfl, fun _ => by simp only [eOp, eVar, eC, h2, ob, hx]; rfl⟩) (by
      rw [filter_all, List.map_map]
      exact underL_all fun u hu => by
        rw [List.mem_map] at hu
        obtain ⟨p, _, rfl⟩ := hu
        rfl)
  rw [filter_all, List.map_map] at e
  exact e
theorem all_ints : ∀ pl : List (Int × Int), allInts (pl.map fun p => U.int p.2) = some (pl.map fun p => p.2)
  | [] => rfl
  | p :: pl => by
    show (allInts (pl.map fun p => U.int p.2)).map _ = _
    rw [all_ints pl]
    rfl
theorem fSum_ok {pl : List (Int × Int)} {S : Sto} : fSum [.lst (pl.map fun p => .int p.2)] S = .ok (.int (pl.map fun p => p.2).sum) S := by
  unfold fSum
  simp only [asLst, all_ints]
theorem sum_new {s d : Int} : ∀ {pl : List (Int × Int)}, 0 ≤ s → 0 ≤ d → (∀ p ∈ pl, 0 ≤ p.2) → (s + d + (pl.map fun p => p.2).sum == 0) = newB s d pl := by
  intro pl hs hd h
  have key : 0 ≤ (pl.map fun p => p.2).sum ∧ ((pl.map fun p => p.2).sum = 0 ↔ (pl.filter fun p => decide (0 < p.2)).length = 0) := by
    induction pl with
    | nil => simp
    | cons p pl ih =>
      obtain ⟨a, b⟩ := ih fun q hq => h q (List.mem_cons_of_mem _ hq)
      have hp := h p List.mem_cons_self
      rw [List.map_cons, List.sum_cons]
      refine ⟨by omega, ?_⟩
      by_cases q : 0 < p.2
      · rw [List.filter_cons_of_pos (by simpa using q)]
        simp only [List.length_cons]
        constructor
        · intro e; omega
        · intro e; omega
      · rw [List.filter_cons_of_neg (by simpa using q), ← b]
        constructor
        · intro e; omega
        · intro e; omega
  obtain ⟨a, b⟩ := key
  unfold newB
  rw [Bool.eq_iff_iff]
  simp only [beq_iff_eq, Bool.and_eq_true]
  constructor
  · intro e
    refine ⟨by omega, by omega, ?_⟩
    have := b.mp (by omega)
    omega
  · rintro ⟨e1, e2, e3⟩
    have := b.mpr (by omega)
    omega
/-! the marks asked -/
def dueU (pl : List (Int × Int)) (k : Int) : List U := (pl.filter fun p => p.1 == k).map fun p => .int p.2
theorem due_ok {env : NK.Env} {S : Sto} {pl : List (Int × Int)} {k : Int} (h5 : env[5]? = some (some (.tup (pl.map pT)))) (h10 : env[10]? = some (some (.int k))) (h9 : 9 < env.length) (hl : pl.length ≤ 1000) :
    (eScope (eComp (iSeq (eVar 5)) (gN 9) (NK.tB (eOp fEq (eOp fIx (eVar 9) (eC (.int 0))) (eVar 10))) (eOp fIx (eVar 9) (eC (.int 1))) [9])) env S = .ok (.lst (dueU pl k)) S := by
  have c : ((pl.map pT).filter (fun u => match u with | .tup [.int a, _] => a == k | _ => false)).map (fun u => match u with | .tup [_, .int m] => U.int m | _ => .non) = dueU pl k := by
    rw [List.filter_map, List.map_map]
    rfl
  have e := comp_scope (i := 9) (mt := NK.tB (eOp fEq (eOp fIx (eVar 9) (eC (.int 0))) (eVar 10))) (me := eOp fIx (eVar 9) (eC (.int 1))) (mi := iSeq (eVar 5)) (env := env) (st := S) (g := fun _ => True) (fun u => match u with | .tup [_, .int m] => .int m | _ => .non) (fun u => match u with | .tup [.int a, _] => a == k | _ => false) (us := pl.map pT) (by simp only [iSeq, eVar, h5, ob, NK.src]) (fun _ => True.intro) (by rw [List.length_map]; omega) (fun u hu acc => by
    have h2 : (env.set 9 (some u))[9]? = some (some u) := by rw [List.getElem?_set_self h9]
    have h3 : (env.set 9 (some u))[10]? = some (some (.int k)) := by rw [List.getElem?_set_ne (by decide)]; exact h10
    rw [List.mem_map] at hu
    obtain ⟨p, _, rfl⟩ := hu
    have hx : ∀ S, fIx (pT p) (.int 1) S = .ok (.int p.2) S := fun S => rfl
    have hy : ∀ S, fIx (pT p) (.int 0) S = .ok (.int p.1) S := fun S => rfl
    exact ⟨by simp only [NK.tB, eOp, eVar, eC, h2, h3, ob, hy, fEq_ii]; rfl, fun _ => by simp only [eOp, eVar, eC, h2, ob, hx]; rfl⟩) (by
      rw [c]
      unfold dueU
      exact underL_all fun u hu => by
        rw [List.mem_map] at hu
        obtain ⟨p, _, rfl⟩ := hu
        rfl)
  rw [c] at e
  exact e
theorem due_okU (pl : List (Int × Int)) (k : Int) : okU 12 (.lst (dueU pl k)) = true := okU_lst (n := 11) (List.all_eq_true.mpr fun u hu => by
  unfold dueU at hu
  rw [List.mem_map] at hu
  obtain ⟨p, _, rfl⟩ := hu
  rfl)
theorem loop2_step {x0 x1 x2 x3 x4 x6 x8 x9 x11 one : Option U} {S : Sto} {mk : MF} {ov : U} {k : Int} {due : List U} {c : ME} (ho : NK.isK 3 ov S = true) (hc : c [x0, x1, x2, x3, x4, x6, x8, some ov, x9, x11, some (.int k), one, none, none] S = .ok (.lst due) S)
    (hm : mk [ov, .int k] S = .ok (headU due) S) (ok : okU 12 (.lst due) = true) (okr : okU 12 (headU due) = true) :
    (sSeq (sAsg c (gN 11))
    (sIf (NK.tB (eOp fNe (eMeth 3 2 mk [] (eVar 7) (aCons (eVar 10) aNil)) (eIf (NK.tB (eOp fNe (eVar 11) (eScope (eLst aNil)))) (eOp fIx (eVar 11) (eC (.int 0))) (eC .non)))) (sRet (eC (.bl false))) sNext)) [x0, x1, x2, x3, x4, x6, x8, some ov, x9, x11, some (.int k), one, none, none] S = .next [x0, x1, x2, x3, x4, x6, x8, some ov, x9, x11, some (.int k), some (.lst due), none, none] S := by
  have e1 := fNe_ok (st := S) (u := .lst due) (w := .lst []) ok rfl
  rw [eqv_lst] at e1
  have e2 := fNe_ok (st := S) okr okr
  rw [eqvU_same okr] at e2
  cases due with
  | nil =>
    rw [eqvL_nil] at e1
    have hm : mk [ov, .int k] S = .ok .non S := hm
    have e2 : fNe .non .non S = .ok (.bl (!true)) S := e2
    simp (maxDischargeDepth := 8) -implicitDefEqProofs only [sSeq, sIf, sAsg, sRet, sDrop, sSetIx, sNext, sCont, NK.tAnd, NK.tOr, NK.tNot, NK.tTru, NK.tB, eOp, eUn, eCB, eIf, eAnd, eOr, eNot, eVar, eC, aCons, aNil, gN, ob, xb, NK.os, NK.xs, nb, rb, kb, eb, List.getElem?_cons_zero, List.getElem?_cons_succ, List.set_cons_zero, List.set_cons_succ, ↓reduceIte, Bool.false_eq_true, Bool.not_true, Bool.not_false, fAdd_i, fSub_i, fNeg_i, fInt_i, fAbs_i, fLt_i, fLe_i, fGt_i, fMin_i, fIsN_n, fNotN_n, fLen_lst, fLen_tup, fTuple_lst, fTuple_tup, U.isNon, truth, fMod_i, fDiv_i, fMul_i, Int.reduceLT, Int.reduceNeg, Int.reducePow, Int.reduceLE, or_true, true_or, and_self, and_true, true_and, eCall, List.append_nil, List.length_cons, List.length_nil, Nat.reduceAdd, Nat.zero_add, esl, lstK_ok, Nat.reduceLeDiff, sc_lit, U.underL, U.under, Bool.and_self, sc_nil, eMeth, ho, hc, hm, e1, e2]
  | cons u us =>
    rw [eqvL_len (by simp)] at e1
    have hm : mk [ov, .int k] S = .ok u S := hm
    have e2 : fNe u u S = .ok (.bl (!true)) S := e2
    have hx : fIx (.lst (u :: us)) (.int 0) S = .ok u S := fIx_lst (by rw [show (0 : Int) = ((0 : Nat) : Int) from rfl, NK.atI_nat]; rfl)
    simp (maxDischargeDepth := 8) -implicitDefEqProofs only [sSeq, sIf, sAsg, sRet, sDrop, sSetIx, sNext, sCont, NK.tAnd, NK.tOr, NK.tNot, NK.tTru, NK.tB, eOp, eUn, eCB, eIf, eAnd, eOr, eNot, eVar, eC, aCons, aNil, gN, ob, xb, NK.os, NK.xs, nb, rb, kb, eb, List.getElem?_cons_zero, List.getElem?_cons_succ, List.set_cons_zero, List.set_cons_succ, ↓reduceIte, Bool.false_eq_true, Bool.not_true, Bool.not_false, fAdd_i, fSub_i, fNeg_i, fInt_i, fAbs_i, fLt_i, fLe_i, fGt_i, fMin_i, fIsN_n, fNotN_n, fLen_lst, fLen_tup, fTuple_lst, fTuple_tup, U.isNon, truth, fMod_i, fDiv_i, fMul_i, Int.reduceLT, Int.reduceNeg, Int.reducePow, Int.reduceLE, or_true, true_or, and_self, and_true, true_and, eCall, List.append_nil, List.length_cons, List.length_nil, Nat.reduceAdd, Nat.zero_add, esl, lstK_ok, Nat.reduceLeDiff, sc_lit, U.underL, U.under, Bool.and_self, sc_nil, eMeth, ho, hc, hm, e1, e2, hx]
theorem loop2_ok {x0 x1 x2 x3 x4 x6 x8 : Option U} {S : Sto} {ns ls : List U} {s d m1 m2 : Int} {pl : List (Int × Int)} (hl : pl.length ≤ 1000) : ∀ (ks : List Nat) (x9 e10 e11 : Option U), ∃ f10 f11,
    forM (fun _ => True) (gN 10) l_u_law_couple_right_2 (ks.map fun (i : Nat) => .int (0 + (i : Int))) [x0, x1, x2, x3, x4, some (.tup (pl.map pT)), x6, some (coupV ns ls s d pl m1 m2), x8, x9, e10, e11, none, none] S = .next [x0, x1, x2, x3, x4, some (.tup (pl.map pT)), x6, some (coupV ns ls s d pl m1 m2), x8, x9, f10, f11, none, none] S
  | [], x9, e10, e11 => ⟨e10, e11, forM_nil True.intro⟩
  | k :: ks, x9, e10, e11 => by
    obtain ⟨f10, f11, e⟩ := loop2_ok (x0 := x0) (x1 := x1) (x2 := x2) (x3 := x3) (x4 := x4) (x6 := x6) (x8 := x8) (S := S) (ns := ns) (ls := ls) (s := s) (d := d) (m1 := m1) (m2 := m2) (pl := pl) hl ks x9 (some (.int (0 + (k : Int)))) (some (.lst (dueU pl (0 + (k : Int)))))
    refine ⟨f10, f11, ?_⟩
    rw [List.map_cons, forM_n (env1 := [x0, x1, x2, x3, x4, some (.tup (pl.map pT)), x6, some (coupV ns ls s d pl m1 m2), x8, x9, some (.int (0 + (k : Int))), e11, none, none]) (env2 := [x0, x1, x2, x3, x4, some (.tup (pl.map pT)), x6, some (coupV ns ls s d pl m1 m2), x8, x9, some (.int (0 + (k : Int))), some (.lst (dueU pl (0 + (k : Int)))), none, none]) (st2 := S) True.intro rfl ?_, e]
    exact loop2_step (mk := m_CoupleState_mark_of) (ov := coupV ns ls s d pl m1 m2) rfl (due_ok rfl rfl (by simp) hl) (by rw [mark_of_ok, due_head]; rfl) (due_okU _ _) (by rw [show headU (dueU pl (0 + (k : Int))) = markOf pl (0 + (k : Int)) from (due_head pl).symm]; rcases markOf_flat pl (0 + (k : Int)) with q | ⟨i, q⟩ <;> rw [q] <;> rfl)
/-- none of what is walked is equal: a list in the store -/
theorem none_eq_loc {eqf : U → U → Sto → Out U} {env : NK.Env} {i j k a : Nat} {made : U} {os : List U} {st : Sto} (hi : env[i]? = some (some made)) (hj : env[j]? = some (some (.loc a))) (ha : st[a]? = some (.lst os)) (hk : k < env.length) (hik : i ≠ k) (hl : os.length ≤ 1000) (ne : ∀ o ∈ os, ∀ S, eqf made o S = .ok (.bl false) S) :
    eScope (eComp (iSeq (eVar j)) (gN k) (NK.tB (eOp eqf (eVar i) (eVar k))) (eVar k) [k]) env st = .ok (.lst []) st := by
  have nil : (os.filter fun _ => false).map id = ([] : List U) := by
    rw [List.filter_eq_nil_iff.mpr (by simp)]
    rfl
  have e := comp_scope (i := k) (mt := NK.tB (eOp eqf (eVar i) (eVar k))) (me := eVar k) (mi := iSeq (eVar j)) (env := env) (st := st) (g := fun s => s[a]? = some (Ob.lst os)) id (fun _ => false) (us := os) (by simp only [iSeq, eVar, hj, ob, NK.src, ha]) (fun acc => by
      show (st ++ [Ob.lst acc])[a]? = _
      rw [List.getElem?_append_left (List.getElem?_eq_some_iff.mp ha).1]
      exact ha) (by omega) (fun u hu acc => by
    refine ⟨?_, fun h => by cases h⟩
    have h1 : (env.set k (some u))[i]? = some (some made) := by rw [List.getElem?_set_ne (Ne.symm hik)]; exact hi
    have h2 : (env.set k (some u))[k]? = some (some u) := by rw [List.getElem?_set_self hk]
    simp only [NK.tB, eOp, eVar, h1, h2, ob, ne u hu]) (by rw [nil]; rfl)
  rw [e, nil]
end G

set_option Elab.async false
set_option linter.all false
set_option maxRecDepth 100000
set_option maxHeartbeats 4000000
/-! Q35p: couples are right. -/
namespace G
open PySem L2 NK
theorem coup_first {c1 c2 sm : ME} {lo1 lo2 rest : MS} {ini mny : MF} {es ls bs ps vs mss : List U} {s d t nc : Int} {w : Bool} {n : Nat} {one two : U} {e9 e10 e11 : Option U} {S S2 S3 S4 : Sto}
    (h1 : c1 [some (.lst es), some (.lst ls), some (.int s), some (.int d), some (.lst ps), none, none, none, none, none, none, none, none, none] S = .ok (.lst bs) S)
    (h2 : c2 [some (.lst es), some (.lst ls), some (.int s), some (.int d), some (.lst ps), some (.tup bs), none, none, none, none, none, none, none, none] S = .ok (.loc n) S2)
    (mk1 : ∀ env ma, ma env S2 = .ok [.lst es, .lst ls, .int s, .int d, .loc n] S2 → eScope (eMake 3 7 ini [.tup [.int 0, .int 0]] ma) env S2 = .ok one S2)
    (mk2 : ∀ env ma, ma env S2 = .ok [.tup es, .tup ls, .int s, .int d, .tup bs, .lst [.int 0, .int 0]] S2 → eScope (eMake 3 7 ini [] ma) env S2 = .ok two S2)
    (hlo1 : lo1 [some (.lst es), some (.lst ls), some (.int s), some (.int d), some (.lst ps), some (.tup bs), some (.loc n), some one, some two, none, none, none, none, none] S2 = .next [some (.lst es), some (.lst ls), some (.int s), some (.int d), some (.lst ps), some (.tup bs), some (.loc n), some one, some two, e9, none, none, none, none] S3)
    (h3 : S3[n]? = some (.lst vs)) (hv : vs.length < 16777216) (h4 : S3.set n (.lst (vs ++ [.int 0])) = S4)
    (g0 : ∀ S, getF 3 0 one S = some (.int nc)) (g1 : ∀ S, getF 3 1 one S = some (.tup es)) (g2 : ∀ S, getF 3 2 one S = some (.tup ls)) (g3 : ∀ S, getF 3 3 one S = some (.int s)) (g4 : ∀ S, getF 3 4 one S = some (.int d)) (g5 : ∀ S, getF 3 5 one S = some (.tup bs)) (g6 : ∀ S, getF 3 6 one S = some (.tup [.int 0, .int 0])) (g8 : ∀ S, getF 3 8 one S = some (.bl w))
    (t6 : ∀ S, getF 3 6 two S = some (.tup [.int 0, .int 0]))
    (n1 : ∀ S, fNe (.tup [.tup es, .tup ls, .int s, .int d]) (.tup [.tup es, .tup ls, .int s, .int d]) S = .ok (.bl false) S) (n2 : ∀ S, fNe (.tup bs) (.tup bs) S = .ok (.bl false) S) (n3 : ∀ S, fNe (.tup [.int 0, .int 0]) (.tup [.int 0, .int 0]) S = .ok (.bl false) S) (n4 : ∀ S, fNe (.bl w) (.bl w) S = .ok (.bl false) S)
    (hm : ∀ S, mny [.lst es] S = .ok (.int nc) S)
    (hsm : sm [some (.lst es), some (.lst ls), some (.int s), some (.int d), some (.lst ps), some (.tup bs), some (.loc n), some one, some two, e9, none, none, none, none] S4 = .ok (.lst mss) S4) (hsum : fSum [.lst mss] S4 = .ok (.int t) S4) (hw : (s + d + t == 0) = w)
    (hlo2 : lo2 [some (.lst es), some (.lst ls), some (.int s), some (.int d), some (.lst ps), some (.tup bs), some (.loc n), some one, some two, e9, none, none, none, none] S4 = .next [some (.lst es), some (.lst ls), some (.int s), some (.int d), some (.lst ps), some (.tup bs), some (.loc n), some one, some two, e9, e10, e11, none, none] S4) :
    (sSeq (sAsg (eCB fTuple (aCons c1 aNil)) (gN 5))
    (sSeq (sAsg c2 (gN 6))
    (sSeq (sAsg (eScope (eMake 3 7 ini [.tup [.int 0, .int 0]] (aCons (eVar 0) (aCons (eVar 1) (aCons (eVar 2) (aCons (eVar 3) (aCons (eVar 6) aNil))))))) (gN 7))
    (sSeq (sAsg (eScope (eMake 3 7 ini [] (aCons (eCB fTuple (aCons (eVar 0) aNil)) (aCons (eCB fTuple (aCons (eVar 1) aNil)) (aCons (eVar 2) (aCons (eVar 3) (aCons (eVar 5) (aCons (eScope (eLst (aCons (eC (.int 0)) (aCons (eC (.int 0)) aNil)))) aNil)))))))) (gN 8))
    (sSeq lo1
    (sSeq (sDrop (eBM fApp (eVar 6) (aCons (eC (.int 0)) aNil)))
    (sSeq (sIf (NK.tB (eOp fNe (eTup (aCons (eFld 3 1 (eVar 7)) (aCons (eFld 3 2 (eVar 7)) (aCons (eFld 3 3 (eVar 7)) (aCons (eFld 3 4 (eVar 7)) aNil))))) (eTup (aCons (eCB fTuple (aCons (eVar 0) aNil)) (aCons (eCB fTuple (aCons (eVar 1) aNil)) (aCons (eVar 2) (aCons (eVar 3) aNil))))))) (sRet (eC (.bl false))) sNext)
    (sSeq (sIf (tOr (NK.tB (eOp fNe (eFld 3 5 (eVar 7)) (eVar 5))) (tOr (NK.tB (eOp fNe (eFld 3 6 (eVar 7)) (eTup (aCons (eC (.int 0)) (aCons (eC (.int 0)) aNil))))) (tOr (NK.tB (eOp fNe (eFld 3 6 (eVar 8)) (eTup (aCons (eC (.int 0)) (aCons (eC (.int 0)) aNil))))) (NK.tB (eOp fNe (eFld 3 0 (eVar 7)) (eCall 1 mny [] (aCons (eVar 0) aNil))))))) (sRet (eC (.bl false))) sNext)
    (sSeq (sIf (tOr (tNot (tTru (eIsi isl [(.b .bool)] (eFld 3 8 (eVar 7))))) (NK.tB (eOp fNe (eFld 3 8 (eVar 7)) (eOp fEq (eOp fAdd (eOp fAdd (eVar 2) (eVar 3)) (eCB fSum (aCons sm aNil))) (eC (.int 0)))))) (sRet (eC (.bl false))) sNext)
    (sSeq lo2
    rest)))))))))) [some (.lst es), some (.lst ls), some (.int s), some (.int d), some (.lst ps), none, none, none, none, none, none, none, none, none] S = rest [some (.lst es), some (.lst ls), some (.int s), some (.int d), some (.lst ps), some (.tup bs), some (.loc n), some one, some two, e9, e10, e11, none, none] S4 := by
  simp (maxDischargeDepth := 8) -implicitDefEqProofs only [sSeq, sIf, sAsg, sRet, sDrop, sSetIx, sNext, sCont, NK.tAnd, NK.tOr, NK.tNot, NK.tTru, NK.tB, eOp, eUn, eCB, eIf, eAnd, eOr, eNot, eVar, eC, aCons, aNil, gN, ob, xb, NK.os, NK.xs, nb, rb, kb, eb, List.getElem?_cons_zero, List.getElem?_cons_succ, List.set_cons_zero, List.set_cons_succ, ↓reduceIte, Bool.false_eq_true, Bool.not_true, Bool.not_false, fAdd_i, fSub_i, fNeg_i, fInt_i, fAbs_i, fLt_i, fLe_i, fGt_i, fMin_i, fIsN_n, fNotN_n, fLen_lst, fLen_tup, fTuple_lst, fTuple_tup, U.isNon, truth, fMod_i, fDiv_i, fMul_i, Int.reduceLT, Int.reduceNeg, Int.reducePow, Int.reduceLE, or_true, true_or, and_self, and_true, true_and, eCall, List.append_nil, List.length_cons, List.length_nil, Nat.reduceAdd, Nat.zero_add, esl, lstK_ok, Nat.reduceLeDiff, sc_lit, U.underL, U.under, Bool.and_self, eTup, h1, h2, mk1, mk2, hlo1, eBM, isLoc, fApp, h3, hv, h4, eFld, g0, g1, g2, g3, g4, g5, g6, g8, t6, n1, n2, n3, n4, fNe_ii, beq_self_eq_true, hm, eIsi, trOf, isa_int_none, isa_int_bool, isa_int_int, isa_int_str, isa_int_tuple, isa_int_list, isa_bool_none, isa_bool_bool, isa_bool_int, isa_bool_str, isa_bool_tuple, isa_bool_list, isa_str_none, isa_str_bool, isa_str_int, isa_str_str, isa_str_tuple, isa_str_list, isa_seq_none, isa_seq_bool, isa_seq_int, isa_seq_str, isa_seq_tuple, isa_seq_list, isa_tup_none, isa_tup_bool, isa_tup_int, isa_tup_str, isa_tup_tuple, isa_tup_list, isa_o2_o, isa_o2_tuple, isa_o3_o, isa_o3_tuple, hsm, hsum, fEq_ii, hw, hlo2]
theorem coup_rest {ini : MF} {oc tl : ME} {eqf : U → U → Sto → Out U} {es ls bs ps : List U} {s d : Int} {one two o1 o2 o3 o4 o5 o6 x6 : U} {x9 x10 x11 : Option U} {S : Sto} {b : Bool}
    (mo1 : ∀ S env ma, ma env S = .ok [.lst (es ++ [.non]), .lst ls, .int s, .int d, .lst ps] S → eScope (eMake 3 7 ini [.tup [.int 0, .int 0]] ma) env S = .ok o1 S)
    (mo2 : ∀ S env ma, ma env S = .ok [.lst es, .lst (ls ++ [.non]), .int s, .int d, .lst ps] S → eScope (eMake 3 7 ini [.tup [.int 0, .int 0]] ma) env S = .ok o2 S)
    (mo3 : ∀ S env ma, ma env S = .ok [.lst es, .lst ls, .int (3 - s), .int d, .lst ps] S → eScope (eMake 3 7 ini [.tup [.int 0, .int 0]] ma) env S = .ok o3 S)
    (mo4 : ∀ S env ma, ma env S = .ok [.lst es, .lst ls, .int s, .int (3 - d), .lst ps] S → eScope (eMake 3 7 ini [.tup [.int 0, .int 0]] ma) env S = .ok o4 S)
    (mo5 : ∀ S env ma, ma env S = .ok [.lst es, .lst ls, .int s, .int d, .lst ps, .tup [.int 0, .int 7]] S → eScope (eMake 3 7 ini [] ma) env S = .ok o5 S)
    (hps : ∀ S, fNe (.lst ps) (.lst []) S = .ok (.bl b) S)
    (htl : b = true → ∀ env S, env[4]? = some (some (.lst ps)) → tl env S = .ok (.lst (ps.drop 1)) S)
    (mo6 : b = true → ∀ S env ma, ma env S = .ok [.lst es, .lst ls, .int s, .int d, .lst (ps.drop 1)] S → eScope (eMake 3 7 ini [.tup [.int 0, .int 0]] ma) env S = .ok o6 S)
    (hoc : ∀ S, S[S.length - 1]? = some (.lst ([o1, o2, o3, o4, o5] ++ if b = true then [o6] else [])) → oc [some (.lst es), some (.lst ls), some (.int s), some (.int d), some (.lst ps), some (.tup bs), some x6, some one, some two, x9, x10, x11, some (.loc (S.length - 1)), none] S = .ok (.lst []) S)
    (ue : U.underL 0 (es ++ [.non]) = true) (ul : U.underL 0 (ls ++ [.non]) = true) (le : es.length ≤ 100) (ll : ls.length ≤ 100) (u3 : o3.under 0 = true) (u4 : o4.under 0 = true)
    (ee : ∀ S, eqf one two S = .ok (.bl true) S) (et : ∀ S, eqf one (.tup bs) S = .ok (.bl false) S) :
    ∃ ext, (sSeq (sAsg (eLst (aCons (eScope (eMake 3 7 ini [.tup [.int 0, .int 0]] (aCons (eScope (eOp fAdd (eVar 0) (eScope (eLst (aCons (eC .non) aNil))))) (aCons (eVar 1) (aCons (eVar 2) (aCons (eVar 3) (aCons (eVar 4) aNil))))))) (aCons (eScope (eMake 3 7 ini [.tup [.int 0, .int 0]] (aCons (eVar 0) (aCons (eScope (eOp fAdd (eVar 1) (eScope (eLst (aCons (eC .non) aNil))))) (aCons (eVar 2) (aCons (eVar 3) (aCons (eVar 4) aNil))))))) aNil))) (gN 12))
    (sSeq (sAsg (eOp fAdd (eVar 12) (eScope (eLst (aCons (eScope (eMake 3 7 ini [.tup [.int 0, .int 0]] (aCons (eVar 0) (aCons (eVar 1) (aCons (eOp fSub (eC (.int 3)) (eVar 2)) (aCons (eVar 3) (aCons (eVar 4) aNil))))))) (aCons (eScope (eMake 3 7 ini [.tup [.int 0, .int 0]] (aCons (eVar 0) (aCons (eVar 1) (aCons (eVar 2) (aCons (eOp fSub (eC (.int 3)) (eVar 3)) (aCons (eVar 4) aNil))))))) aNil))))) (gN 12))
    (sSeq (sDrop (eBM fApp (eVar 12) (aCons (eScope (eMake 3 7 ini [] (aCons (eVar 0) (aCons (eVar 1) (aCons (eVar 2) (aCons (eVar 3) (aCons (eVar 4) (aCons (eTup (aCons (eC (.int 0)) (aCons (eC (.int 7)) aNil))) aNil)))))))) aNil)))
    (sSeq (sIf (NK.tB (eOp fNe (eVar 4) (eScope (eLst aNil)))) (sDrop (eBM fApp (eVar 12) (aCons (eScope (eMake 3 7 ini [.tup [.int 0, .int 0]] (aCons (eVar 0) (aCons (eVar 1) (aCons (eVar 2) (aCons (eVar 3) (aCons tl aNil))))))) aNil))) sNext)
    (sRet (eAnd (eOp eqf (eVar 7) (eVar 8)) (eAnd (eOp fEq oc (eScope (eLst aNil))) (eNot (eOp eqf (eVar 7) (eVar 5)))))))))) [some (.lst es), some (.lst ls), some (.int s), some (.int d), some (.lst ps), some (.tup bs), some x6, some one, some two, x9, x10, x11, none, none] S = .ret (.bl true) (S ++ ext) := by
  have a1 : es.length + 1 ≤ 1000 := by omega
  have a2 : ls.length + 1 ≤ 1000 := by omega
  have q1 : fAdd (.loc S.length) (.lst [o3, o4]) (S ++ [.lst [o1, o2]]) = .ok (.loc (S.length + 1)) (S ++ [.lst [o1, o2], .lst [o1, o2, o3, o4]]) := by
    simp [fAdd, asLst]
  have q2 : (S ++ [Ob.lst [o1, o2], Ob.lst [o1, o2, o3, o4]])[S.length + 1]? = some (.lst [o1, o2, o3, o4]) := by simp
  have q3 : ∀ us, (S ++ [Ob.lst [o1, o2], Ob.lst [o1, o2, o3, o4]]).set (S.length + 1) (.lst us) = S ++ [.lst [o1, o2], .lst us] := fun us => by simp
  have q4 : (S ++ [Ob.lst [o1, o2], Ob.lst [o1, o2, o3, o4, o5]])[S.length + 1]? = some (.lst [o1, o2, o3, o4, o5]) := by simp
  have q5 : ∀ us, (S ++ [Ob.lst [o1, o2], Ob.lst [o1, o2, o3, o4, o5]]).set (S.length + 1) (.lst us) = S ++ [.lst [o1, o2], .lst us] := fun us => by simp
  have ln : ∀ us ws, (S ++ [Ob.lst us, Ob.lst ws]).length - 1 = S.length + 1 := fun us ws => by simp
  have sz4 : (4 : Nat) < 16777216 := by decide
  have sz5 : (5 : Nat) < 16777216 := by decide
  cases b with
  | false =>
    have hc := hoc (S ++ [.lst [o1, o2], .lst [o1, o2, o3, o4, o5]]) (by rw [ln]; simp)
    rw [ln] at hc
    refine ⟨[.lst [o1, o2], .lst [o1, o2, o3, o4, o5]], ?_⟩
    simp (maxDischargeDepth := 8) -implicitDefEqProofs only [sSeq, sIf, sAsg, sRet, sDrop, sSetIx, sNext, sCont, NK.tAnd, NK.tOr, NK.tNot, NK.tTru, NK.tB, eOp, eUn, eCB, eIf, eAnd, eOr, eNot, eVar, eC, aCons, aNil, gN, ob, xb, NK.os, NK.xs, nb, rb, kb, eb, List.getElem?_cons_zero, List.getElem?_cons_succ, List.set_cons_zero, List.set_cons_succ, ↓reduceIte, Bool.false_eq_true, Bool.not_true, Bool.not_false, fAdd_i, fSub_i, fNeg_i, fInt_i, fAbs_i, fLt_i, fLe_i, fGt_i, fMin_i, fIsN_n, fNotN_n, fLen_lst, fLen_tup, fTuple_lst, fTuple_tup, U.isNon, truth, fMod_i, fDiv_i, fMul_i, Int.reduceLT, Int.reduceNeg, Int.reducePow, Int.reduceLE, or_true, true_or, and_self, and_true, true_and, eCall, List.append_nil, List.length_cons, List.length_nil, Nat.reduceAdd, Nat.zero_add, esl, lstK_ok, Nat.reduceLeDiff, sc_lit, U.underL, U.under, Bool.and_self, sc_nil, esa, eTup, eLst_k, fAdd_ll, a1, a2, ue, ul, mo1, mo2, mo3, mo4, mo5, u3, u4, List.cons_append, List.nil_append, eBM, isLoc, fApp, q1, q2, q3, sz4, hps, hc, ee, et, fEq_nil, Nat.reduceLeDiff]
  | true =>
    have hc := hoc (S ++ [.lst [o1, o2], .lst [o1, o2, o3, o4, o5, o6]]) (by rw [ln]; simp)
    rw [ln] at hc
    have htl := htl rfl
    have mo6 := mo6 rfl
    refine ⟨[.lst [o1, o2], .lst [o1, o2, o3, o4, o5, o6]], ?_⟩
    simp (maxDischargeDepth := 8) -implicitDefEqProofs only [sSeq, sIf, sAsg, sRet, sDrop, sSetIx, sNext, sCont, NK.tAnd, NK.tOr, NK.tNot, NK.tTru, NK.tB, eOp, eUn, eCB, eIf, eAnd, eOr, eNot, eVar, eC, aCons, aNil, gN, ob, xb, NK.os, NK.xs, nb, rb, kb, eb, List.getElem?_cons_zero, List.getElem?_cons_succ, List.set_cons_zero, List.set_cons_succ, ↓reduceIte, Bool.false_eq_true, Bool.not_true, Bool.not_false, fAdd_i, fSub_i, fNeg_i, fInt_i, fAbs_i, fLt_i, fLe_i, fGt_i, fMin_i, fIsN_n, fNotN_n, fLen_lst, fLen_tup, fTuple_lst, fTuple_tup, U.isNon, truth, fMod_i, fDiv_i, fMul_i, Int.reduceLT, Int.reduceNeg, Int.reducePow, Int.reduceLE, or_true, true_or, and_self, and_true, true_and, eCall, List.append_nil, List.length_cons, List.length_nil, Nat.reduceAdd, Nat.zero_add, esl, lstK_ok, Nat.reduceLeDiff, sc_lit, U.underL, U.under, Bool.and_self, sc_nil, esa, eTup, eLst_k, fAdd_ll, a1, a2, ue, ul, mo1, mo2, mo3, mo4, mo5, mo6, htl, u3, u4, List.cons_append, List.nil_append, eBM, isLoc, fApp, q1, q2, q3, q4, q5, sz4, sz5, hps, hc, ee, et, fEq_nil, Nat.reduceLeDiff]
end G

set_option Elab.async false
set_option linter.all false
set_option maxRecDepth 100000
set_option maxHeartbeats 4000000
/-! Q35q: couples are right, joined. -/
namespace G
open PySem L2 NK
theorem ncls_non (es : List U) : ncls (es ++ [.non]) = ncls es := by
  have e : intsOf (es ++ [.non]) = intsOf es := by
    unfold intsOf
    rw [List.filter_append]
    simp [U.isNon]
  unfold ncls
  rw [e]
theorem asc_drop {c : Int} : ∀ {pl : List (Int × Int)}, asc c 0 pl → asc c 0 (pl.drop 1)
  | [], h => h
  | p :: pl, ⟨a, _, _, _, h⟩ => asc_le (by omega) h
theorem sFor_ok {mi : MI} {gt : MGt} {b : MS} {env : NK.Env} {S : Sto} {us : List U} {g : Sto → Prop} {r : SO} (hi : mi env S = .ok ⟨us, g⟩ S) (hf : forM g gt b us env S = r) : sFor mi gt b env S = r := by
  unfold sFor
  rw [hi]
  exact hf
theorem lo2_rng {mny : MF} {env : NK.Env} {S : Sto} {u : U} {n : Nat} (h0 : env[0]? = some (some u)) (hm : mny [u] S = .ok (U.int (n : Int)) S) : aCons (eOp fAdd (eCall 1 mny [] (aCons (eVar 0) aNil)) (eC (.int 1))) aNil env S = Out.ok [U.int ((n + 1 : Nat) : Int)] S := by
  have : ((n + 1 : Nat) : Int) = (n : Int) + 1 := by omega
  rw [this]
  simp -implicitDefEqProofs only [sSeq, sIf, sAsg, sRet, sDrop, sSetIx, sNext, sCont, NK.tAnd, NK.tOr, NK.tNot, NK.tTru, NK.tB, eOp, eUn, eCB, eIf, eAnd, eOr, eNot, eVar, eC, aCons, aNil, gN, ob, xb, NK.os, NK.xs, nb, rb, kb, eb, List.getElem?_cons_zero, List.getElem?_cons_succ, List.set_cons_zero, List.set_cons_succ, ↓reduceIte, Bool.false_eq_true, Bool.not_true, Bool.not_false, fAdd_i, fSub_i, fNeg_i, fInt_i, fAbs_i, fLt_i, fLe_i, fGt_i, fMin_i, fIsN_n, fNotN_n, fLen_lst, fLen_tup, fTuple_lst, fTuple_tup, U.isNon, truth, fMod_i, fDiv_i, fMul_i, Int.reduceLT, Int.reduceNeg, Int.reducePow, Int.reduceLE, or_true, true_or, and_self, and_true, true_and, eCall, List.append_nil, List.length_cons, List.length_nil, Nat.reduceAdd, Nat.zero_add, h0, hm]
structure CG (es ls : List U) (s d : Int) (pl : List (Int × Int)) : Prop where
  g0 : CGood es ls s d pl 0 0
  g1 : CGood (es ++ [U.non]) ls s d pl 0 0
  g2 : CGood es (ls ++ [U.non]) s d pl 0 0
  g3 : CGood es ls (3 - s) d pl 0 0
  g4 : CGood es ls s (3 - d) pl 0 0
  g5 : CGood es ls s d pl 0 7
  g6 : CGood es ls s d (pl.drop 1) 0 0
theorem goods_ok {es ls : List U} {s d : Int} {pl : List (Int × Int)} (E : Ents es) (hl : ∀ u ∈ ls, lifD u) (hs : 0 ≤ s ∧ s ≤ 3) (hd : 0 ≤ d ∧ d ≤ 3) (hp : asc (ncls es : Nat) 0 pl) : CG es ls s d pl := by
  have le := E.len
  have ent1 : ∀ u ∈ es ++ [U.non], entU u := fun u hu => by
    rcases List.mem_append.mp hu with q | q
    · exact E.ent u q
    · rw [List.mem_singleton.mp q]
      exact .inl rfl
  have lif1 : ∀ u ∈ ls ++ [U.non], lifD u := fun u hu => by
    rcases List.mem_append.mp hu with q | q
    · exact hl u q
    · rw [List.mem_singleton.mp q]
      exact .inr (.inr rfl)
  refine ⟨?_, ?_, ?_, ?_, ?_, ?_, ?_⟩
  · exact ⟨E.ent, by omega, E.good, hl, hs, hd, hp, by omega⟩
  · exact ⟨ent1, by simp; omega, E.good1, hl, hs, hd, by rw [ncls_non]; exact hp, by omega⟩
  · exact ⟨E.ent, by omega, E.good, lif1, hs, hd, hp, by omega⟩
  · exact ⟨E.ent, by omega, E.good, hl, by omega, hd, hp, by omega⟩
  · exact ⟨E.ent, by omega, E.good, hl, hs, by omega, hp, by omega⟩
  · exact ⟨E.ent, by omega, E.good, hl, hs, hd, hp, by omega⟩
  · exact ⟨E.ent, by omega, E.good, hl, hs, hd, asc_drop hp, by omega⟩
theorem couple_a {S : Sto} {es ls : List U} {s d : Int} {pl : List (Int × Int)} (E : Ents es) (hs : 0 ≤ s ∧ s ≤ 3) (hd : 0 ≤ d ∧ d ≤ 3) (hp : asc (ncls es : Nat) 0 pl) (G0 : CGood es ls s d pl 0 0) :
    ∃ f9 f10 f11 ext, ∀ rest : MS, (sSeq (sAsg (eCB fTuple (aCons (eScope (eComp (iSeq (eVar 4)) (gN 9) NK.tYes (eCB fTuple (aCons (eVar 9) aNil)) [9])) aNil)) (gN 5))
    (sSeq (sAsg (eComp (iSeq (eVar 4)) (gN 9) NK.tYes (eCB fList (aCons (eVar 9) aNil)) [9]) (gN 6))
    (sSeq (sAsg (eScope (eMake 3 7 m_CoupleState___init [.tup [.int 0, .int 0]] (aCons (eVar 0) (aCons (eVar 1) (aCons (eVar 2) (aCons (eVar 3) (aCons (eVar 6) aNil))))))) (gN 7))
    (sSeq (sAsg (eScope (eMake 3 7 m_CoupleState___init [] (aCons (eCB fTuple (aCons (eVar 0) aNil)) (aCons (eCB fTuple (aCons (eVar 1) aNil)) (aCons (eVar 2) (aCons (eVar 3) (aCons (eVar 5) (aCons (eScope (eLst (aCons (eC (.int 0)) (aCons (eC (.int 0)) aNil)))) aNil)))))))) (gN 8))
    (sSeq (sFor (iSeq (eVar 6)) (gN 9) l_u_law_couple_right_1)
    (sSeq (sDrop (eBM fApp (eVar 6) (aCons (eC (.int 0)) aNil)))
    (sSeq (sIf (NK.tB (eOp fNe (eTup (aCons (eFld 3 1 (eVar 7)) (aCons (eFld 3 2 (eVar 7)) (aCons (eFld 3 3 (eVar 7)) (aCons (eFld 3 4 (eVar 7)) aNil))))) (eTup (aCons (eCB fTuple (aCons (eVar 0) aNil)) (aCons (eCB fTuple (aCons (eVar 1) aNil)) (aCons (eVar 2) (aCons (eVar 3) aNil))))))) (sRet (eC (.bl false))) sNext)
    (sSeq (sIf (tOr (NK.tB (eOp fNe (eFld 3 5 (eVar 7)) (eVar 5))) (tOr (NK.tB (eOp fNe (eFld 3 6 (eVar 7)) (eTup (aCons (eC (.int 0)) (aCons (eC (.int 0)) aNil))))) (tOr (NK.tB (eOp fNe (eFld 3 6 (eVar 8)) (eTup (aCons (eC (.int 0)) (aCons (eC (.int 0)) aNil))))) (NK.tB (eOp fNe (eFld 3 0 (eVar 7)) (eCall 1 m_u_law_many [] (aCons (eVar 0) aNil))))))) (sRet (eC (.bl false))) sNext)
    (sSeq (sIf (tOr (tNot (tTru (eIsi isl [(.b .bool)] (eFld 3 8 (eVar 7))))) (NK.tB (eOp fNe (eFld 3 8 (eVar 7)) (eOp fEq (eOp fAdd (eOp fAdd (eVar 2) (eVar 3)) (eCB fSum (aCons (eScope (eComp (iSeq (eVar 5)) (gN 9) NK.tYes (eOp fIx (eVar 9) (eC (.int 1))) [9])) aNil))) (eC (.int 0)))))) (sRet (eC (.bl false))) sNext)
    (sSeq (sFor (iRng1 (aCons (eOp fAdd (eCall 1 m_u_law_many [] (aCons (eVar 0) aNil)) (eC (.int 1))) aNil)) (gN 10) l_u_law_couple_right_2)
    rest)))))))))) [some (U.lst es), some (U.lst ls), some (U.int s), some (U.int d), some (U.lst (pl.map pL)), none, none, none, none, none, none, none, none, none] S = rest [some (U.lst es), some (U.lst ls), some (U.int s), some (U.int d), some (U.lst (pl.map pL)), some (U.tup (pl.map pT)), some (U.loc S.length), some (coupV es ls s d pl 0 0), some (coupV es ls s d pl 0 0), f9, f10, f11, none, none] (S ++ ext) := by
  have le := E.len
  have pl41 := G0.plen
  have vl : ∀ (us : List U) (S : Sto), Sq (U.lst us) us S := fun us S => .inl rfl
  have vt : ∀ (us : List U) (S : Sto), Sq (U.tup us) us S := fun us S => .inr (.inl rfl)
  -- the pairs handed
  have c2 : (eComp (iSeq (eVar 4)) (gN 9) NK.tYes (eCB fList (aCons (eVar 9) aNil)) [9]) [some (U.lst es), some (U.lst ls), some (U.int s), some (U.int d), some (U.lst (pl.map pL)), some (U.tup (pl.map pT)), none, none, none, none, none, none, none, none] S = Out.ok (U.loc S.length) (S ++ (Ob.lst (locsFrom (S.length + 1) pl.length) :: pl.map cell)) := by
    have e := hand_lists (S := S) (env := [some (U.lst es), some (U.lst ls), some (U.int s), some (U.int d), some (U.lst (pl.map pL)), some (U.tup (pl.map pT)), none, none, none, none, none, none, none, none]) (by simp) pl [] [] (by simp; omega)
    rw [List.nil_append, List.nil_append, List.length_nil, Nat.add_zero] at e
    exact e
  have c1 : (eScope (eComp (iSeq (eVar 4)) (gN 9) NK.tYes (eCB fTuple (aCons (eVar 9) aNil)) [9])) [some (U.lst es), some (U.lst ls), some (U.int s), some (U.int d), some (U.lst (pl.map pL)), none, none, none, none, none, none, none, none, none] S = .ok (.lst (pl.map pT)) S := by
    have e := comp_scope (i := 9) (mt := NK.tYes) (me := eCB fTuple (aCons (eVar 9) aNil)) (mi := iSeq (eVar 4)) (env := [some (U.lst es), some (U.lst ls), some (U.int s), some (U.int d), some (U.lst (pl.map pL)), none, none, none, none, none, none, none, none, none]) (st := S) (g := fun _ => True) (fun u => match u with | .lst us => .tup us | _ => .non) (fun _ => true) (us := pl.map pL) rfl (fun _ => True.intro) (by rw [List.length_map]; omega) (fun u hu acc => by
      rw [List.mem_map] at hu
      obtain ⟨p, _, rfl⟩ := hu
      exact ⟨rfl, fun _ => rfl⟩) (by
        rw [filter_all, List.map_map]
        exact pT_under pl)
    rw [filter_all, List.map_map] at e
    exact e
  have P1 : PrL (S ++ (Ob.lst (locsFrom (S.length + 1) pl.length) :: pl.map cell)) pl (locsFrom (S.length + 1) pl.length) := prL_locs pl _ fun i p hi => by
    rw [List.getElem?_append_right (by omega), show S.length + 1 + i - S.length = i + 1 by omega, List.getElem?_cons_succ, List.getElem?_map, hi]
    rfl
  have B1 : Sq (.loc S.length) (locsFrom (S.length + 1) pl.length) (S ++ (Ob.lst (locsFrom (S.length + 1) pl.length) :: pl.map cell)) := .inr (.inr ⟨_, rfl, by simp⟩)
  obtain ⟨f9, cells, l1⟩ := l1_loop (x0 := some (U.lst es)) (x1 := some (U.lst ls)) (x2 := some (U.int s)) (x3 := some (U.int d)) (x4 := some (U.lst (pl.map pL))) (x5 := some (U.tup (pl.map pT))) (x6 := some (U.loc S.length)) (x7 := some (coupV es ls s d pl 0 0)) (x8 := some (coupV es ls s d pl 0 0)) (g := fun st => st[S.length]? = some (Ob.lst (locsFrom (S.length + 1) pl.length))) pl (S ++ [.lst (locsFrom (S.length + 1) pl.length)]) none (fun ext => by simp)
  rw [List.length_append, List.length_singleton, List.append_assoc, List.append_assoc] at l1
  have lo1 : (sFor (iSeq (eVar 6)) (gN 9) l_u_law_couple_right_1) [some (U.lst es), some (U.lst ls), some (U.int s), some (U.int d), some (U.lst (pl.map pL)), some (U.tup (pl.map pT)), some (U.loc S.length), some (coupV es ls s d pl 0 0), some (coupV es ls s d pl 0 0), none, none, none, none, none] (S ++ (Ob.lst (locsFrom (S.length + 1) pl.length) :: pl.map cell)) = SO.next [some (U.lst es), some (U.lst ls), some (U.int s), some (U.int d), some (U.lst (pl.map pL)), some (U.tup (pl.map pT)), some (U.loc S.length), some (coupV es ls s d pl 0 0), some (coupV es ls s d pl 0 0), f9, none, none, none, none] (S ++ (Ob.lst (locsFrom (S.length + 1) pl.length) :: cells)) := by
    have hi : iSeq (eVar 6) [some (U.lst es), some (U.lst ls), some (U.int s), some (U.int d), some (U.lst (pl.map pL)), some (U.tup (pl.map pT)), some (U.loc S.length), some (coupV es ls s d pl 0 0), some (coupV es ls s d pl 0 0), none, none, none, none, none] (S ++ (Ob.lst (locsFrom (S.length + 1) pl.length) :: pl.map cell)) = .ok ⟨locsFrom (S.length + 1) pl.length, fun st => st[S.length]? = some (Ob.lst (locsFrom (S.length + 1) pl.length))⟩ (S ++ (Ob.lst (locsFrom (S.length + 1) pl.length) :: pl.map cell)) := seq_iter rfl (by
      have : (S ++ (Ob.lst (locsFrom (S.length + 1) pl.length) :: pl.map cell))[S.length]? = some (Ob.lst (locsFrom (S.length + 1) pl.length)) := by simp
      simp only [NK.src, this])
    exact sFor_ok hi l1
  obtain ⟨f10, f11, l2⟩ := loop2_ok (x0 := some (U.lst es)) (x1 := some (U.lst ls)) (x2 := some (U.int s)) (x3 := some (U.int d)) (x4 := some (U.lst (pl.map pL))) (x6 := some (U.loc S.length)) (x8 := some (coupV es ls s d pl 0 0)) (S := S ++ (.lst (locsFrom (S.length + 1) pl.length ++ [U.int 0]) :: cells)) (ns := es) (ls := ls) (s := s) (d := d) (m1 := 0) (m2 := 0) (pl := pl) (by omega) (List.range (ncls es + 1)) f9 none none
  have nle := ncls_le es
  have lo2 : (sFor (iRng1 (aCons (eOp fAdd (eCall 1 m_u_law_many [] (aCons (eVar 0) aNil)) (eC (.int 1))) aNil)) (gN 10) l_u_law_couple_right_2) [some (U.lst es), some (U.lst ls), some (U.int s), some (U.int d), some (U.lst (pl.map pL)), some (U.tup (pl.map pT)), some (U.loc S.length), some (coupV es ls s d pl 0 0), some (coupV es ls s d pl 0 0), f9, none, none, none, none] (S ++ (Ob.lst (locsFrom (S.length + 1) pl.length ++ [U.int 0]) :: cells)) = SO.next [some (U.lst es), some (U.lst ls), some (U.int s), some (U.int d), some (U.lst (pl.map pL)), some (U.tup (pl.map pT)), some (U.loc S.length), some (coupV es ls s d pl 0 0), some (coupV es ls s d pl 0 0), f9, f10, f11, none, none] (S ++ (Ob.lst (locsFrom (S.length + 1) pl.length ++ [U.int 0]) :: cells)) := by
    have hm := many_ok (us := es) (st := S ++ (.lst (locsFrom (S.length + 1) pl.length ++ [U.int 0]) :: cells)) E.ent (by omega)
    have hr := rng_ok (ma := aCons (eOp fAdd (eCall 1 m_u_law_many [] (aCons (eVar 0) aNil)) (eC (.int 1))) aNil) (env := [some (U.lst es), some (U.lst ls), some (U.int s), some (U.int d), some (U.lst (pl.map pL)), some (U.tup (pl.map pT)), some (U.loc S.length), some (coupV es ls s d pl 0 0), some (coupV es ls s d pl 0 0), f9, none, none, none, none]) (st := S ++ (.lst (locsFrom (S.length + 1) pl.length ++ [U.int 0]) :: cells)) (st1 := S ++ (.lst (locsFrom (S.length + 1) pl.length ++ [U.int 0]) :: cells)) (n := ncls es + 1) (lo2_rng rfl hm) (by omega)
    exact sFor_ok hr l2
  have k0 := G0.key
  have key_all : okU 12 (.tup [.tup es, .tup ls, .int s, .int d]) = true ∧ okU 12 (.tup (pl.map pT)) = true := by
    have q2 : ([U.str "couple", .tup es, .tup ls, .int s, .int d, .tup (pl.map pT), .tup [.int 0, .int 0]] : List U).all (okU 11) = true := k0
    simp only [List.all_cons, List.all_nil, Bool.and_true, Bool.and_eq_true] at q2
    obtain ⟨_, q3, q4, q5, q6, q7, _⟩ := q2
    exact ⟨okU_tup (by simp only [List.all_cons, List.all_nil, Bool.and_true, q3, q4, q5, q6]), okU_up _ _ q7⟩
  have ne_same : ∀ {u : U}, okU 12 u = true → ∀ S, fNe u u S = .ok (.bl false) S := fun {u} hu S => by
    rw [fNe_ok hu hu, eqvU_same hu]
    rfl
  refine ⟨f9, f10, f11, Ob.lst (locsFrom (S.length + 1) pl.length ++ [U.int 0]) :: cells, fun rest => ?_⟩
  exact coup_first (c1 := eScope (eComp (iSeq (eVar 4)) (gN 9) NK.tYes (eCB fTuple (aCons (eVar 9) aNil)) [9])) (c2 := eComp (iSeq (eVar 4)) (gN 9) NK.tYes (eCB fList (aCons (eVar 9) aNil)) [9]) (sm := eScope (eComp (iSeq (eVar 5)) (gN 9) NK.tYes (eOp fIx (eVar 9) (eC (.int 1))) [9]))
    (lo1 := sFor (iSeq (eVar 6)) (gN 9) l_u_law_couple_right_1) (lo2 := sFor (iRng1 (aCons (eOp fAdd (eCall 1 m_u_law_many [] (aCons (eVar 0) aNil)) (eC (.int 1))) aNil)) (gN 10) l_u_law_couple_right_2) (rest := rest) (ini := m_CoupleState___init) (mny := m_u_law_many) (vs := locsFrom (S.length + 1) pl.length) (nc := (ncls es : Nat)) (w := newB s d pl)
    (S4 := S ++ (Ob.lst (locsFrom (S.length + 1) pl.length ++ [U.int 0]) :: cells))
    c1 c2 (fun env ma hma => G0.made (vl _ _) (vl _ _) B1 P1 (vt _ _) hma rfl) (fun env ma hma => G0.made (vt _ _) (vt _ _) (vt _ _) prL_tup (vl _ _) hma rfl) lo1 (by simp) (by rw [locs_len]; omega) (by simp)
    (fun S => rfl) (fun S => rfl) (fun S => rfl) (fun S => rfl) (fun S => rfl) (fun S => rfl) (fun S => rfl) (fun S => rfl) (fun S => rfl) (ne_same key_all.1) (ne_same key_all.2) (ne_same rfl) (ne_same rfl) (fun S => many_ok E.ent (by omega)) (sum_ok rfl (by simp) (by omega)) fSum_ok (sum_new hs.1 hd.1 (asc_neg hp)) lo2
theorem couple_b {S : Sto} {es ls : List U} {s d : Int} {pl : List (Int × Int)} {x6 : U} {f9 f10 f11 : Option U} (CC : CG es ls s d pl) (le : es.length ≤ 6) (ll : ls.length ≤ 100) :
    ∃ ext, (sSeq (sAsg (eLst (aCons (eScope (eMake 3 7 m_CoupleState___init [.tup [.int 0, .int 0]] (aCons (eScope (eOp fAdd (eVar 0) (eScope (eLst (aCons (eC .non) aNil))))) (aCons (eVar 1) (aCons (eVar 2) (aCons (eVar 3) (aCons (eVar 4) aNil))))))) (aCons (eScope (eMake 3 7 m_CoupleState___init [.tup [.int 0, .int 0]] (aCons (eVar 0) (aCons (eScope (eOp fAdd (eVar 1) (eScope (eLst (aCons (eC .non) aNil))))) (aCons (eVar 2) (aCons (eVar 3) (aCons (eVar 4) aNil))))))) aNil))) (gN 12))
    (sSeq (sAsg (eOp fAdd (eVar 12) (eScope (eLst (aCons (eScope (eMake 3 7 m_CoupleState___init [.tup [.int 0, .int 0]] (aCons (eVar 0) (aCons (eVar 1) (aCons (eOp fSub (eC (.int 3)) (eVar 2)) (aCons (eVar 3) (aCons (eVar 4) aNil))))))) (aCons (eScope (eMake 3 7 m_CoupleState___init [.tup [.int 0, .int 0]] (aCons (eVar 0) (aCons (eVar 1) (aCons (eVar 2) (aCons (eOp fSub (eC (.int 3)) (eVar 3)) (aCons (eVar 4) aNil))))))) aNil))))) (gN 12))
    (sSeq (sDrop (eBM fApp (eVar 12) (aCons (eScope (eMake 3 7 m_CoupleState___init [] (aCons (eVar 0) (aCons (eVar 1) (aCons (eVar 2) (aCons (eVar 3) (aCons (eVar 4) (aCons (eTup (aCons (eC (.int 0)) (aCons (eC (.int 7)) aNil))) aNil)))))))) aNil)))
    (sSeq (sIf (NK.tB (eOp fNe (eVar 4) (eScope (eLst aNil)))) (sDrop (eBM fApp (eVar 12) (aCons (eScope (eMake 3 7 m_CoupleState___init [.tup [.int 0, .int 0]] (aCons (eVar 0) (aCons (eVar 1) (aCons (eVar 2) (aCons (eVar 3) (aCons (eScope (eSl (eVar 4) (some (eC (.int 1))) none)) aNil))))))) aNil))) sNext)
    (sRet (eAnd (eOp (fEqO 3 [.o 3, .b .tuple] m_CoupleState___eq) (eVar 7) (eVar 8)) (eAnd (eOp fEq (eScope (eComp (iSeq (eVar 12)) (gN 13) (NK.tB (eOp (fEqO 3 [.o 3, .b .tuple] m_CoupleState___eq) (eVar 7) (eVar 13))) (eVar 13) [13])) (eScope (eLst aNil))) (eNot (eOp (fEqO 3 [.o 3, .b .tuple] m_CoupleState___eq) (eVar 7) (eVar 5)))))))))) [some (U.lst es), some (U.lst ls), some (U.int s), some (U.int d), some (U.lst (pl.map pL)), some (U.tup (pl.map pT)), some x6, some (coupV es ls s d pl 0 0), some (coupV es ls s d pl 0 0), f9, f10, f11, none, none] S = SO.ret (U.bl true) (S ++ ext) := by
  have vl : ∀ (us : List U) (S : Sto), Sq (U.lst us) us S := fun us S => .inl rfl
  have vt : ∀ (us : List U) (S : Sto), Sq (U.tup us) us S := fun us S => .inr (.inl rfl)
  have hps : ∀ S, fNe (.lst (pl.map pL)) (.lst []) S = .ok (.bl (!pl.isEmpty)) S := fun S => by
    have ok : okU 12 (.lst (pl.map pL)) = true := okU_lst (n := 11) (List.all_eq_true.mpr fun u hu => by
      rw [List.mem_map] at hu
      obtain ⟨p, _, rfl⟩ := hu
      rfl)
    rw [fNe_ok ok rfl, eqv_lst]
    cases pl with
    | nil => rw [List.map_nil, eqvL_nil]; rfl
    | cons p pl => rw [eqvL_len (by simp)]; rfl
  have eqd : ∀ {ns' ls' : List U} {s' d' a b : Int} {pl' : List (Int × Int)} (G' : CGood ns' ls' s' d' pl' a b), (eqvL es ns' && (eqvL ls ls' && (s == s' && (d == d' && (eqvL (pl.map pT) (pl'.map pT) && eqvL [.int 0, .int 0] [.int a, .int b]))))) = false → ∀ S, fEqO 3 [.o 3, .b .tuple] m_CoupleState___eq (coupV es ls s d pl 0 0) (coupV ns' ls' s' d' pl' a b) S = .ok (.bl false) S := fun G' h S => by
    rw [coup_eq CC.g0 G', coup_eqv, eqv_ii, eqv_ii, h]
  exact coup_rest (ini := m_CoupleState___init) (oc := eScope (eComp (iSeq (eVar 12)) (gN 13) (NK.tB (eOp (fEqO 3 [.o 3, .b .tuple] m_CoupleState___eq) (eVar 7) (eVar 13))) (eVar 13) [13])) (tl := eScope (eSl (eVar 4) (some (eC (.int 1))) none)) (eqf := fEqO 3 [.o 3, .b .tuple] m_CoupleState___eq) (es := es) (ls := ls) (bs := pl.map pT) (ps := pl.map pL) (s := s) (d := d) (one := coupV es ls s d pl 0 0) (two := coupV es ls s d pl 0 0) (x6 := x6) (x9 := f9) (x10 := f10) (x11 := f11) (S := S) (b := !pl.isEmpty)
    (fun S env ma hma => CC.g1.made (vl _ _) (vl _ _) (vl _ _) prL_lst (vt _ _) hma rfl) (fun S env ma hma => CC.g2.made (vl _ _) (vl _ _) (vl _ _) prL_lst (vt _ _) hma rfl) (fun S env ma hma => CC.g3.made (vl _ _) (vl _ _) (vl _ _) prL_lst (vt _ _) hma rfl) (fun S env ma hma => CC.g4.made (vl _ _) (vl _ _) (vl _ _) prL_lst (vt _ _) hma rfl) (fun S env ma hma => CC.g5.made (vl _ _) (vl _ _) (vl _ _) prL_lst (vt _ _) hma rfl)
    hps (fun hb env S he => by
      have h1 : 1 ≤ (pl.map pL).length := by
        cases pl with
        | nil => cases hb
        | cons p pl => simp
      have e : eSl (eVar 4) (some (eC (.int 1))) none env S = Out.ok (U.loc S.length) (S ++ [.lst ((pl.map pL).drop 1)]) := by
        simp only [eSl, eVar, he, ob, eC, eSl.lsts, cut_drop1 h1]
      show scopeOut S (eSl (eVar 4) (some (eC (.int 1))) none env S) = _
      rw [e]
      refine sc_lit rfl (underL_all fun u hu => ?_)
      have := List.mem_of_mem_drop hu
      rw [List.mem_map] at this
      obtain ⟨p, _, rfl⟩ := this
      rfl)
    (fun hb S env ma hma => CC.g6.made (borne := .lst ((pl.map pL).drop 1)) (vs := (pl.map pL).drop 1) (vl _ _) (vl _ _) (vl _ _) (by rw [← List.map_drop]; exact prL_lst) (vt _ _) hma rfl)
    (fun S hS => none_eq_loc (i := 7) (j := 12) (k := 13) rfl rfl hS (by simp) (by decide) (by simp; split <;> simp) (fun o ho => by
      rcases List.mem_append.mp ho with ho | ho
      · simp only [List.mem_cons, List.not_mem_nil, or_false] at ho
        rcases ho with rfl | rfl | rfl | rfl | rfl
        · exact eqd CC.g1 (by rw [eqvL_len (by simp), Bool.false_and])
        · exact eqd CC.g2 (by rw [eqvL_len (us := ls) (by simp), Bool.false_and, Bool.and_false])
        · exact eqd CC.g3 (by rw [show (s == 3 - s) = false from beq_eq_false_iff_ne.mpr (by omega), Bool.false_and, Bool.and_false, Bool.and_false])
        · exact eqd CC.g4 (by rw [show (d == 3 - d) = false from beq_eq_false_iff_ne.mpr (by omega), Bool.false_and, Bool.and_false, Bool.and_false, Bool.and_false])
        · exact eqd CC.g5 (by rw [show eqvL [U.int 0, .int 0] [.int 0, .int 7] = false from by rw [eqvL_cons, eqvL_cons, eqv_ii, eqv_ii]; rfl, Bool.and_false, Bool.and_false, Bool.and_false, Bool.and_false, Bool.and_false])
      · split at ho
        · rename_i hb
          rw [List.mem_singleton.mp ho]
          refine eqd CC.g6 ?_
          have : eqvL (pl.map pT) ((pl.drop 1).map pT) = false := by
            cases pl with
            | nil => cases hb
            | cons p pl => exact eqvL_len (by simp)
          rw [this, Bool.false_and, Bool.and_false, Bool.and_false, Bool.and_false, Bool.and_false]
        · cases ho))
    (ent_under CC.g1.e) (underL_all fun u hu => okU_under 1 u ((CC.g2.l u hu).ok 0)) (by omega) ll CC.g3.under CC.g4.under (fun S => by rw [coup_eq CC.g0 CC.g0, eqvU_same CC.g0.key]) (fun S => coup_eqt CC.g0)
theorem couple_right {S : Sto} {es ls : List U} {s d : Int} {pl : List (Int × Int)} (E : Ents es) (hl : ∀ u ∈ ls, lifD u) (ll : ls.length ≤ 100) (hs : 0 ≤ s ∧ s ≤ 3) (hd : 0 ≤ d ∧ d ≤ 3) (hp : asc (ncls es : Nat) 0 pl) :
    m_u_law_couple_right [U.lst es, U.lst ls, U.int s, U.int d, U.lst (pl.map pL)] S = .ok (U.bl true) S := by
  have CC := goods_ok E hl hs hd hp
  obtain ⟨f9, f10, f11, ext, A⟩ := couple_a (S := S) E hs hd hp CC.g0
  obtain ⟨ext2, B⟩ := couple_b (S := S ++ ext) (x6 := U.loc S.length) (f9 := f9) (f10 := f10) (f11 := f11) CC E.len ll
  have body : b_u_law_couple_right [some (U.lst es), some (U.lst ls), some (U.int s), some (U.int d), some (U.lst (pl.map pL)), none, none, none, none, none, none, none, none, none] S = SO.ret (U.bl true) (S ++ (ext ++ ext2)) := by
    rw [← List.append_assoc]
    exact (A _).trans B
  exact fs_val (n := 14) (mb := b_u_law_couple_right) (st2 := S) rfl body (Old.refl S) rfl
end G

set_option Elab.async false
set_option linter.all false
set_option maxRecDepth 100000
set_option maxHeartbeats 4000000
/-! Q35r: words. -/
namespace G
open PySem L2 NK
/-- None or a word -/
def wordU (u : U) : Prop := u = U.non ∨ ∃ x : String, u = U.str (Str.ofString x)
theorem wordU.ok {u : U} (h : wordU u) (n : Nat) : okU (n + 1) u = true := by
  rcases h with rfl | ⟨x, rfl⟩
  · rfl
  · exact str_ok _ n
theorem wordU.under {u : U} (h : wordU u) : u.under 0 = true := by rcases h with rfl | ⟨x, rfl⟩ <;> rfl
def firstU (ws : List U) : U := headU (ws.filter fun u => !u.isNon)
theorem first_body {mc : ME} {ws fs : List U} {S : Sto} (hc : mc [some (U.lst ws), none, none] S = Out.ok (U.lst fs) S) (hn : fNe (U.lst fs) (U.lst []) S = Out.ok (U.bl (!fs.isEmpty)) S) :
    (sSeq (sAsg mc (gN 1))
    (sRet (eIf (NK.tB (eOp fNe (eVar 1) (eScope (eLst aNil)))) (eOp fIx (eVar 1) (eC (.int 0))) (eC .non)))) [some (U.lst ws), none, none] S = SO.ret (headU fs) S := by
  cases fs with
  | nil =>
    have hn : fNe (U.lst []) (U.lst []) S = Out.ok (U.bl false) S := hn
    show _ = SO.ret U.non S
    simp (maxDischargeDepth := 8) -implicitDefEqProofs only [sSeq, sIf, sAsg, sRet, sDrop, sSetIx, sNext, sCont, NK.tAnd, NK.tOr, NK.tNot, NK.tTru, NK.tB, eOp, eUn, eCB, eIf, eAnd, eOr, eNot, eVar, eC, aCons, aNil, gN, ob, xb, NK.os, NK.xs, nb, rb, kb, eb, List.getElem?_cons_zero, List.getElem?_cons_succ, List.set_cons_zero, List.set_cons_succ, ↓reduceIte, Bool.false_eq_true, Bool.not_true, Bool.not_false, fAdd_i, fSub_i, fNeg_i, fInt_i, fAbs_i, fLt_i, fLe_i, fGt_i, fMin_i, fIsN_n, fNotN_n, fLen_lst, fLen_tup, fTuple_lst, fTuple_tup, U.isNon, truth, fMod_i, fDiv_i, fMul_i, Int.reduceLT, Int.reduceNeg, Int.reducePow, Int.reduceLE, or_true, true_or, and_self, and_true, true_and, eCall, List.append_nil, List.length_cons, List.length_nil, Nat.reduceAdd, Nat.zero_add, esl, lstK_ok, Nat.reduceLeDiff, sc_lit, U.underL, U.under, Bool.and_self, sc_nil, hc, hn]
  | cons u us =>
    have hn : fNe (U.lst (u :: us)) (U.lst []) S = Out.ok (U.bl true) S := hn
    have hx : fIx (U.lst (u :: us)) (U.int 0) S = Out.ok u S := fIx_lst (by rw [show (0 : Int) = ((0 : Nat) : Int) from rfl, NK.atI_nat]; rfl)
    show _ = SO.ret u S
    simp (maxDischargeDepth := 8) -implicitDefEqProofs only [sSeq, sIf, sAsg, sRet, sDrop, sSetIx, sNext, sCont, NK.tAnd, NK.tOr, NK.tNot, NK.tTru, NK.tB, eOp, eUn, eCB, eIf, eAnd, eOr, eNot, eVar, eC, aCons, aNil, gN, ob, xb, NK.os, NK.xs, nb, rb, kb, eb, List.getElem?_cons_zero, List.getElem?_cons_succ, List.set_cons_zero, List.set_cons_succ, ↓reduceIte, Bool.false_eq_true, Bool.not_true, Bool.not_false, fAdd_i, fSub_i, fNeg_i, fInt_i, fAbs_i, fLt_i, fLe_i, fGt_i, fMin_i, fIsN_n, fNotN_n, fLen_lst, fLen_tup, fTuple_lst, fTuple_tup, U.isNon, truth, fMod_i, fDiv_i, fMul_i, Int.reduceLT, Int.reduceNeg, Int.reducePow, Int.reduceLE, or_true, true_or, and_self, and_true, true_and, eCall, List.append_nil, List.length_cons, List.length_nil, Nat.reduceAdd, Nat.zero_add, esl, lstK_ok, Nat.reduceLeDiff, sc_lit, U.underL, U.under, Bool.and_self, sc_nil, hc, hn, hx]
theorem first_ok {ws : List U} {S : Sto} (h : ∀ u ∈ ws, wordU u) (hl : ws.length ≤ 100) : m_u_law_first [U.lst ws] S = Out.ok (firstU ws) S := by
  have hf : ∀ u ∈ ws.filter fun u => !u.isNon, wordU u := fun u hu => h u (List.mem_filter.mp hu).1
  have e := comp_scope (i := 2) (mt := NK.tB (eOp fNotN (eVar 2) (eC .non))) (me := eVar 2) (mi := iSeq (eVar 0)) (env := [some (U.lst ws), none, none]) (st := S) (g := fun _ => True) id (fun u => !u.isNon) (us := ws) rfl (fun _ => True.intro) (by omega) (fun u hu acc => by
    refine ⟨?_, fun _ => rfl⟩
    have hs : [some (U.lst ws), none, none].set 2 (some u) = [some (U.lst ws), none, some u] := rfl
    have h2 : [some (U.lst ws), none, some u][2]? = some (some u) := rfl
    rw [hs]
    simp only [NK.tB, eOp, eVar, eC, h2, ob, fNotN_n]) (underL_all fun u hu => by
      rw [List.map_id] at hu
      exact (hf u hu).under)
  rw [List.map_id] at e
  have hn : fNe (U.lst (ws.filter fun u => !u.isNon)) (U.lst []) S = Out.ok (U.bl (!(ws.filter fun u => !u.isNon).isEmpty)) S := by
    rw [fNe_ok (okU_lst (n := 11) (List.all_eq_true.mpr fun u hu => (hf u hu).ok 10)) rfl, eqv_lst]
    generalize (ws.filter fun u => !u.isNon) = fs
    cases fs with
    | nil => rw [eqvL_nil]; rfl
    | cons u us => rw [eqvL_len (by simp)]; rfl
  refine fs_same (n := 3) (mb := b_u_law_first) (env := [some (U.lst ws), none, none]) rfl (first_body e hn) ?_
  unfold firstU
  generalize (ws.filter fun u => !u.isNon) = fs at hf
  cases fs with
  | nil => rfl
  | cons u us => exact (hf u List.mem_cons_self).under
/-! spoilt -/
theorem spoilt_body {md mp : MF} {good w : U} {bads : List U} {h h1 : Ob} {st : Sto} {d : Int} (hd : md [U.loc 0, U.int 4] (h :: st) = Out.ok (U.int d) (h1 :: st)) (q : d > 0) :
    (sSeq (sIf (NK.tB (eOp fGt (eCall 2 md [] (aCons (eVar 0) (aCons (eC (.int 4)) aNil))) (eC (.int 0)))) (sRet (eTup (aCons (eVar 1) (aCons (eC .non) aNil)))) sNext)
    (sRet (eTup (aCons (eCall 2 mp [] (aCons (eVar 0) (aCons (eVar 2) aNil))) (aCons (eVar 3) aNil))))) [some (U.loc 0), some good, some (U.lst bads), some w] (h :: st) = SO.ret (U.tup [good, .non]) (h1 :: st) := by
  simp (maxDischargeDepth := 8) -implicitDefEqProofs only [sSeq, sIf, sAsg, sRet, sDrop, sSetIx, sNext, sCont, NK.tAnd, NK.tOr, NK.tNot, NK.tTru, NK.tB, eOp, eUn, eCB, eIf, eAnd, eOr, eNot, eVar, eC, aCons, aNil, gN, ob, xb, NK.os, NK.xs, nb, rb, kb, eb, List.getElem?_cons_zero, List.getElem?_cons_succ, List.set_cons_zero, List.set_cons_succ, ↓reduceIte, Bool.false_eq_true, Bool.not_true, Bool.not_false, fAdd_i, fSub_i, fNeg_i, fInt_i, fAbs_i, fLt_i, fLe_i, fGt_i, fMin_i, fIsN_n, fNotN_n, fLen_lst, fLen_tup, fTuple_lst, fTuple_tup, U.isNon, truth, fMod_i, fDiv_i, fMul_i, Int.reduceLT, Int.reduceNeg, Int.reducePow, Int.reduceLE, or_true, true_or, and_self, and_true, true_and, eCall, List.append_nil, List.length_cons, List.length_nil, Nat.reduceAdd, Nat.zero_add, eTup, hd, decide_eq_true q, Nat.reduceLeDiff]
theorem spoilt_body2 {md mp : MF} {good w u : U} {bads : List U} {h h1 h2 : Ob} {st : Sto} {d : Int} (hd : md [U.loc 0, U.int 4] (h :: st) = Out.ok (U.int d) (h1 :: st)) (q : ¬ d > 0) (hp : mp [U.loc 0, U.lst bads] (h1 :: st) = Out.ok u (h2 :: st)) :
    (sSeq (sIf (NK.tB (eOp fGt (eCall 2 md [] (aCons (eVar 0) (aCons (eC (.int 4)) aNil))) (eC (.int 0)))) (sRet (eTup (aCons (eVar 1) (aCons (eC .non) aNil)))) sNext)
    (sRet (eTup (aCons (eCall 2 mp [] (aCons (eVar 0) (aCons (eVar 2) aNil))) (aCons (eVar 3) aNil))))) [some (U.loc 0), some good, some (U.lst bads), some w] (h :: st) = SO.ret (U.tup [u, w]) (h2 :: st) := by
  simp (maxDischargeDepth := 8) -implicitDefEqProofs only [sSeq, sIf, sAsg, sRet, sDrop, sSetIx, sNext, sCont, NK.tAnd, NK.tOr, NK.tNot, NK.tTru, NK.tB, eOp, eUn, eCB, eIf, eAnd, eOr, eNot, eVar, eC, aCons, aNil, gN, ob, xb, NK.os, NK.xs, nb, rb, kb, eb, List.getElem?_cons_zero, List.getElem?_cons_succ, List.set_cons_zero, List.set_cons_succ, ↓reduceIte, Bool.false_eq_true, Bool.not_true, Bool.not_false, fAdd_i, fSub_i, fNeg_i, fInt_i, fAbs_i, fLt_i, fLe_i, fGt_i, fMin_i, fIsN_n, fNotN_n, fLen_lst, fLen_tup, fTuple_lst, fTuple_tup, U.isNon, truth, fMod_i, fDiv_i, fMul_i, Int.reduceLT, Int.reduceNeg, Int.reducePow, Int.reduceLE, or_true, true_or, and_self, and_true, true_and, eCall, List.append_nil, List.length_cons, List.length_nil, Nat.reduceAdd, Nat.zero_add, eTup, hd, decide_eq_false q, Nat.reduceLeDiff, hp]
theorem spoilt_ok {h : Ob} {st : Sto} {good : U} {bads : List U} {w : String} (H : HOb h) (hg : good.under 0 = true) (hb : U.underL 0 bads = true) (hne : bads ≠ []) (hl : bads.length ≤ 100) :
    ∃ (h' : Ob) (v : U) (b : Bool), HOb h' ∧ m_u_law_spoilt [U.loc 0, good, U.lst bads, U.str (Str.ofString w)] (h :: st) = Out.ok (U.tup [v, if b = true then U.non else U.str (Str.ofString w)]) (h' :: st) ∧ (b = true → v = good) ∧ (b = false → v ∈ bads) := by
  obtain ⟨d, h1, H1, d0, d1, e1⟩ := draw_ok (st := st) (m := 4) H (by decide) (by decide)
  by_cases q : d > 0
  · refine ⟨h1, good, true, H1, ?_, fun _ => rfl, fun e => by cases e⟩
    refine fs_old (n := 4) (mb := b_u_law_spoilt) (env := [some (U.loc 0), some good, some (U.lst bads), some (U.str (Str.ofString w))]) rfl (spoilt_body e1 q) (Old.hand H1.under) ?_
    unfold U.under
    unfold U.underL
    rw [hg]
    rfl
  · obtain ⟨u, h2, hu, H2, e2⟩ := pick_ok (st := st) H1 hne (by omega) hb
    refine ⟨h2, u, false, H2, ?_, (fun e => by cases e), fun _ => hu⟩
    refine fs_old (n := 4) (mb := b_u_law_spoilt) (env := [some (U.loc 0), some good, some (U.lst bads), some (U.str (Str.ofString w))]) rfl (spoilt_body2 e1 q e2) (Old.hand H2.under) ?_
    unfold U.under
    unfold U.underL
    rw [underL_mem hb hu]
    rfl
/-! the word of what is made -/
theorem pword_none {mk : ME} {a b c d v : U} {S : Sto} (h : mk [some a, some b, some c, some d, none] S = Out.ok v S) :
    (sSeq (sTry (sDrop mk) [false, true] 4 fun x => (sRet (eIf (tTru (eIsE [true, true] x)) (eExf 1 0 x) (eC (.str "class")))))
    (sRet (eC .non))) [some a, some b, some c, some d, none] S = SO.ret U.non S := by
  simp (maxDischargeDepth := 8) -implicitDefEqProofs only [sSeq, sIf, sAsg, sRet, sDrop, sSetIx, sNext, sCont, NK.tAnd, NK.tOr, NK.tNot, NK.tTru, NK.tB, eOp, eUn, eCB, eIf, eAnd, eOr, eNot, eVar, eC, aCons, aNil, gN, ob, xb, NK.os, NK.xs, nb, rb, kb, eb, List.getElem?_cons_zero, List.getElem?_cons_succ, List.set_cons_zero, List.set_cons_succ, ↓reduceIte, Bool.false_eq_true, Bool.not_true, Bool.not_false, fAdd_i, fSub_i, fNeg_i, fInt_i, fAbs_i, fLt_i, fLe_i, fGt_i, fMin_i, fIsN_n, fNotN_n, fLen_lst, fLen_tup, fTuple_lst, fTuple_tup, U.isNon, truth, fMod_i, fDiv_i, fMul_i, Int.reduceLT, Int.reduceNeg, Int.reducePow, Int.reduceLE, or_true, true_or, and_self, and_true, true_and, eCall, List.append_nil, List.length_cons, List.length_nil, Nat.reduceAdd, Nat.zero_add, sTry, h]
theorem pword_some {mk : ME} {a b c d : U} {w : Str} {S S1 : Sto} (h : mk [some a, some b, some c, some d, none] S = Out.exc (bad w) S1) :
    (sSeq (sTry (sDrop mk) [false, true] 4 fun x => (sRet (eIf (tTru (eIsE [true, true] x)) (eExf 1 0 x) (eC (.str "class")))))
    (sRet (eC .non))) [some a, some b, some c, some d, none] S = SO.ret (U.str w) S1 := by
  simp (maxDischargeDepth := 8) -implicitDefEqProofs only [sSeq, sIf, sAsg, sRet, sDrop, sSetIx, sNext, sCont, NK.tAnd, NK.tOr, NK.tNot, NK.tTru, NK.tB, eOp, eUn, eCB, eIf, eAnd, eOr, eNot, eVar, eC, aCons, aNil, gN, ob, xb, NK.os, NK.xs, nb, rb, kb, eb, List.getElem?_cons_zero, List.getElem?_cons_succ, List.set_cons_zero, List.set_cons_succ, ↓reduceIte, Bool.false_eq_true, Bool.not_true, Bool.not_false, fAdd_i, fSub_i, fNeg_i, fInt_i, fAbs_i, fLt_i, fLe_i, fGt_i, fMin_i, fIsN_n, fNotN_n, fLen_lst, fLen_tup, fTuple_lst, fTuple_tup, U.isNon, truth, fMod_i, fDiv_i, fMul_i, Int.reduceLT, Int.reduceNeg, Int.reducePow, Int.reduceLE, or_true, true_or, and_self, and_true, true_and, eCall, List.append_nil, List.length_cons, List.length_nil, Nat.reduceAdd, Nat.zero_add, sTry, h, bad, eIsE, eExf, SO.unI, Nat.reduceLT]
theorem cword_none {mk : ME} {a b c d e f v : U} {S : Sto} (h : mk [some a, some b, some c, some d, some e, some f, none] S = Out.ok v S) :
    (sSeq (sTry (sDrop mk) [false, true] 6 fun x => (sRet (eIf (tTru (eIsE [true, true] x)) (eExf 1 0 x) (eC (.str "class")))))
    (sRet (eC .non))) [some a, some b, some c, some d, some e, some f, none] S = SO.ret U.non S := by
  simp (maxDischargeDepth := 8) -implicitDefEqProofs only [sSeq, sIf, sAsg, sRet, sDrop, sSetIx, sNext, sCont, NK.tAnd, NK.tOr, NK.tNot, NK.tTru, NK.tB, eOp, eUn, eCB, eIf, eAnd, eOr, eNot, eVar, eC, aCons, aNil, gN, ob, xb, NK.os, NK.xs, nb, rb, kb, eb, List.getElem?_cons_zero, List.getElem?_cons_succ, List.set_cons_zero, List.set_cons_succ, ↓reduceIte, Bool.false_eq_true, Bool.not_true, Bool.not_false, fAdd_i, fSub_i, fNeg_i, fInt_i, fAbs_i, fLt_i, fLe_i, fGt_i, fMin_i, fIsN_n, fNotN_n, fLen_lst, fLen_tup, fTuple_lst, fTuple_tup, U.isNon, truth, fMod_i, fDiv_i, fMul_i, Int.reduceLT, Int.reduceNeg, Int.reducePow, Int.reduceLE, or_true, true_or, and_self, and_true, true_and, eCall, List.append_nil, List.length_cons, List.length_nil, Nat.reduceAdd, Nat.zero_add, sTry, h]
theorem cword_some {mk : ME} {a b c d e f : U} {w : Str} {S S1 : Sto} (h : mk [some a, some b, some c, some d, some e, some f, none] S = Out.exc (bad w) S1) :
    (sSeq (sTry (sDrop mk) [false, true] 6 fun x => (sRet (eIf (tTru (eIsE [true, true] x)) (eExf 1 0 x) (eC (.str "class")))))
    (sRet (eC .non))) [some a, some b, some c, some d, some e, some f, none] S = SO.ret (U.str w) S1 := by
  simp (maxDischargeDepth := 8) -implicitDefEqProofs only [sSeq, sIf, sAsg, sRet, sDrop, sSetIx, sNext, sCont, NK.tAnd, NK.tOr, NK.tNot, NK.tTru, NK.tB, eOp, eUn, eCB, eIf, eAnd, eOr, eNot, eVar, eC, aCons, aNil, gN, ob, xb, NK.os, NK.xs, nb, rb, kb, eb, List.getElem?_cons_zero, List.getElem?_cons_succ, List.set_cons_zero, List.set_cons_succ, ↓reduceIte, Bool.false_eq_true, Bool.not_true, Bool.not_false, fAdd_i, fSub_i, fNeg_i, fInt_i, fAbs_i, fLt_i, fLe_i, fGt_i, fMin_i, fIsN_n, fNotN_n, fLen_lst, fLen_tup, fTuple_lst, fTuple_tup, U.isNon, truth, fMod_i, fDiv_i, fMul_i, Int.reduceLT, Int.reduceNeg, Int.reducePow, Int.reduceLE, or_true, true_or, and_self, and_true, true_and, eCall, List.append_nil, List.length_cons, List.length_nil, Nat.reduceAdd, Nat.zero_add, sTry, h, bad, eIsE, eExf, SO.unI, Nat.reduceLT]
theorem person_word {kind names lives mark : U} {ns ls : List U} {b1 b2 b3 b4 : Bool} {st : Sto} (h : PArg kind names lives mark ns ls b1 b2 b3 b4 st) :
    m_u_law_person_word [kind, names, lives, mark] st = Out.ok (match persW b1 b2 b3 b4 with | none => U.non | some w => U.str w) st := by
  have e := pers_scope (env := [some kind, some names, some lives, some mark, none]) (ma := aCons (eVar 0) (aCons (eVar 1) (aCons (eVar 2) (aCons (eVar 3) aNil)))) h rfl
  cases q : persW b1 b2 b3 b4 with
  | none =>
    rw [q] at e
    exact fs_same (n := 5) (mb := b_u_law_person_word) (env := [some kind, some names, some lives, some mark, none]) rfl (pword_none e) rfl
  | some w =>
    rw [q] at e
    exact fs_val (n := 5) (mb := b_u_law_person_word) (env := [some kind, some names, some lives, some mark, none]) (ext := [Ob.ins 2 []]) (st2 := st) rfl (pword_some e) (Old.refl st) rfl
/-- what the six arguments of a couple are, and their words -/
structure CArg (names lives sons daus borne marks : U) (ns ls : List U) (s d : Int) (pl : List (Int × Int)) (m1 m2 : Int) (b1 b2 b3 b4 b5 b6 : Bool) (st : Sto) : Prop where
  h1 : ∀ ext, m_check_entries [names] (st ++ ext) = if b1 = true then .ok .non (st ++ ext) else .exc (bad "names") (st ++ ext)
  h2 : ∀ ext, m_check_life_row [lives] (st ++ ext) = if b2 = true then .ok .non (st ++ ext) else .exc (bad "lives") (st ++ ext)
  h3 : ∀ ext, m_is_whole [sons, .int 0, .int 3] (st ++ ext) = .ok (.bl b3) (st ++ ext)
  h4 : ∀ ext, m_is_whole [daus, .int 0, .int 3] (st ++ ext) = .ok (.bl b4) (st ++ ext)
  h5 : b1 = true → ∀ ext, m_check_borne [borne, .int (ncls ns : Nat)] (st ++ ext) = if b5 = true then .ok .non (st ++ ext) else .exc (bad "borne") (st ++ ext)
  h6 : ∀ ext, m_check_marks [marks] (st ++ ext) = if b6 = true then .ok .non (st ++ ext) else .exc (bad "marks") (st ++ ext)
  sq : b1 = true → Sq names ns st ∧ (∀ u ∈ ns, entU u) ∧ ns.length ≤ 100
  gd : b1 = true → b2 = true → b3 = true → b4 = true → b5 = true → b6 = true → Sq lives ls st ∧ sons = .int s ∧ daus = .int d ∧ Sq marks [.int m1, .int m2] st ∧ CGood ns ls s d pl m1 m2 ∧ ∃ vs, Sq borne vs st ∧ PrL st pl vs
def coupW (b1 b2 b3 b4 b5 b6 : Bool) : Option Str := if b1 = false then some "names" else if b2 = false then some "lives" else if b3 = false then some "numbers" else if b4 = false then some "numbers" else if b5 = false then some "borne" else if b6 = false then some "marks" else none
section
variable {names lives sons daus borne marks : U} {ns ls : List U} {s d : Int} {pl : List (Int × Int)} {m1 m2 : Int} {b1 b2 b3 b4 b5 b6 : Bool} {st : Sto}
theorem coup_bad {w : Str} (h : CArg names lives sons daus borne marks ns ls s d pl m1 m2 b1 b2 b3 b4 b5 b6 st) (q : coupW b1 b2 b3 b4 b5 b6 = some w) :
    ∃ ext, m_CoupleState___init [U.loc st.length, names, lives, sons, daus, borne, marks] (st ++ [Ob.ins 3 []]) = Out.exc (bad w) (st ++ ext) := by
  have h1 := h.h1 [.ins 3 []]
  have h2 := h.h2 [.ins 3 []]
  have h3 := h.h3 [.ins 3 []]
  have h4 := h.h4 [.ins 3 []]
  have h5 := fun e => h.h5 e [.ins 3 [.int (ncls ns : Nat)]]
  have h6 := h.h6 [.ins 3 [.int (ncls ns : Nat)]]
  cases b1 with
  | false =>
    cases q
    exact ⟨_, fs_exc (n := 9) (mb := b_CoupleState___init) (env := [some (U.loc st.length), some names, some lives, some sons, some daus, some borne, some marks, none, none]) rfl (coup_f1 h1)⟩
  | true =>
    cases b2 with
    | false =>
      cases q
      exact ⟨_, fs_exc (n := 9) (mb := b_CoupleState___init) (env := [some (U.loc st.length), some names, some lives, some sons, some daus, some borne, some marks, none, none]) rfl (coup_f2 h1 h2)⟩
    | true =>
      cases b3 with
      | false =>
        cases q
        exact ⟨_, fs_exc (n := 9) (mb := b_CoupleState___init) (env := [some (U.loc st.length), some names, some lives, some sons, some daus, some borne, some marks, none, none]) rfl (coup_f3 h1 h2 h3)⟩
      | true =>
        cases b4 with
        | false =>
          cases q
          exact ⟨_, fs_exc (n := 9) (mb := b_CoupleState___init) (env := [some (U.loc st.length), some names, some lives, some sons, some daus, some borne, some marks, none, none]) rfl (coup_f4 h1 h2 h3 h4)⟩
        | true =>
          obtain ⟨s1, s2, s3⟩ := h.sq rfl
          have hc := cls_ok (env := [some (U.loc st.length), some names, some lives, some sons, some daus, some borne, some marks, none, none]) rfl (s1.app [Ob.ins 3 []]) s2 s3 (by simp)
          cases b5 with
          | false =>
            cases q
            exact ⟨_, fs_exc (n := 9) (mb := b_CoupleState___init) (env := [some (U.loc st.length), some names, some lives, some sons, some daus, some borne, some marks, none, none]) rfl (coup_f5 h1 h2 h3 h4 hc (h5 rfl))⟩
          | true =>
            cases b6 with
            | false =>
              cases q
              exact ⟨_, fs_exc (n := 9) (mb := b_CoupleState___init) (env := [some (U.loc st.length), some names, some lives, some sons, some daus, some borne, some marks, none, none]) rfl (coup_f6 h1 h2 h3 h4 hc (h5 rfl) h6)⟩
            | true => cases q
theorem couple_word (h : CArg names lives sons daus borne marks ns ls s d pl m1 m2 b1 b2 b3 b4 b5 b6 st) :
    m_u_law_couple_word [names, lives, sons, daus, borne, marks] st = Out.ok (match coupW b1 b2 b3 b4 b5 b6 with | none => U.non | some w => U.str w) st := by
  cases q : coupW b1 b2 b3 b4 b5 b6 with
  | none =>
    have : b1 = true ∧ b2 = true ∧ b3 = true ∧ b4 = true ∧ b5 = true ∧ b6 = true := by
      cases b1 <;> cases b2 <;> cases b3 <;> cases b4 <;> cases b5 <;> cases b6 <;> first | exact ⟨rfl, rfl, rfl, rfl, rfl, rfl⟩ | cases q
    obtain ⟨rfl, rfl, rfl, rfl, rfl, rfl⟩ := this
    obtain ⟨a1, rfl, rfl, a2, G, vs, a3, a4⟩ := h.gd rfl rfl rfl rfl rfl rfl
    have e := G.made (env := [some names, some lives, some (U.int s), some (U.int d), some borne, some marks, none]) (ma := aCons (eVar 0) (aCons (eVar 1) (aCons (eVar 2) (aCons (eVar 3) (aCons (eVar 4) (aCons (eVar 5) aNil)))))) (dus := []) (h.sq rfl).1 a1 a3 a4 a2 rfl rfl
    exact fs_same (n := 7) (mb := b_u_law_couple_word) (env := [some names, some lives, some (U.int s), some (U.int d), some borne, some marks, none]) rfl (cword_none e) rfl
  | some w =>
    obtain ⟨ext, e⟩ := coup_bad h q
    have e2 : eScope (eMake 3 7 m_CoupleState___init [] (aCons (eVar 0) (aCons (eVar 1) (aCons (eVar 2) (aCons (eVar 3) (aCons (eVar 4) (aCons (eVar 5) aNil))))))) [some names, some lives, some sons, some daus, some borne, some marks, none] st = Out.exc (bad w) (st ++ ext) := by
      generalize m_CoupleState___init = mf at e ⊢
      show scopeOut st (eMake 3 7 mf [] _ _ st) = _
      have hma : aCons (eVar 0) (aCons (eVar 1) (aCons (eVar 2) (aCons (eVar 3) (aCons (eVar 4) (aCons (eVar 5) aNil))))) [some names, some lives, some sons, some daus, some borne, some marks, none] st = Out.ok [names, lives, sons, daus, borne, marks] st := rfl
      simp only [eMake, hma, ob, List.append_nil, List.length_cons, List.length_nil, Nat.reduceAdd, ↓reduceIte, e]
      rfl
    exact fs_val (n := 7) (mb := b_u_law_couple_word) (env := [some names, some lives, some sons, some daus, some borne, some marks, none]) (ext := ext) (st2 := st) rfl (cword_some e2) (Old.refl st) rfl
end
end G

set_option Elab.async false
set_option linter.all false
set_option maxRecDepth 100000
set_option maxHeartbeats 4000000
/-! Q35s: good and bad parts judged. -/
namespace G
open PySem L2 NK
def badKind : List U := [U.str "x", U.non, U.str "", U.int 1, U.str "f"]
def badNames : List U := [U.lst [U.int 1], U.lst [U.int 0, U.int 2], U.lst [U.bl true], U.lst [U.int (-1)], U.str "01", U.non, U.lst [U.int 0, U.str "a"], U.lst [U.int 0, U.int 1, U.int 3], U.int 0]
def badLives : List U := [U.lst [U.str "living"], U.non, U.str "alive", U.lst [U.int 0], U.lst [U.bl true], U.lst [U.str "dead", U.str ""]]
def badWorth : List U := [U.int (-1), U.int 1001, U.bl true, U.non, U.str "0"]
def badNum (b : Bool) : List U := [U.int 4, U.int (-1), U.bl b, U.str "1", U.non]
def badPairs : List U := [U.lst [U.tup [U.int 9, U.int 0]], U.lst [U.tup [U.int 0, U.int 3]], U.lst [U.tup [U.int 0, U.int 0], U.tup [U.int 0, U.int 1]], U.lst [U.tup [U.int 1, U.int 0], U.tup [U.int 0, U.int 0]], U.lst [U.tup [U.int 0]], U.lst [U.int 0], U.non, U.lst [U.tup [U.int 0, U.bl true]], U.str "a", U.lst [U.tup [U.int (-1), U.int 0]], U.lst [U.tup [U.int 0, U.int 0, U.int 0]]]
def badMarks : List U := [U.tup [U.int 0], U.tup [U.int 0, U.int 1001], U.non, U.tup [U.int 0, U.bl true], U.lst [U.int 0, U.int 0, U.int 0], U.int 0]
section
variable {v : U} {b : Bool} {S : Sto}
theorem kindF (hg : b = true → v = U.str "s" ∨ v = U.str "d") (hb : b = false → v ∈ badKind) : m_is_kind [v] S = Out.ok (U.bl b) S := by
  cases b with
  | true =>
    rcases hg rfl with rfl | rfl
    · exact kind_ok rfl
    · exact kind_ok rfl
  | false =>
    have h := hb rfl
    simp only [badKind, List.mem_cons, List.not_mem_nil, or_false] at h
    rcases h with rfl | rfl | rfl | rfl | rfl <;> exact kind_ok rfl
theorem namesF {es : List U} (E : Ents es) (hg : b = true → v = U.lst es) (hb : b = false → v ∈ badNames) : m_check_entries [v] S = if b = true then Out.ok U.non S else Out.exc (bad "names") S := by
  cases b with
  | true =>
    have := E.len
    rw [hg rfl]
    exact entries_ok (.inl rfl) (by omega) (List.all_eq_true.mpr fun u hu => (E.ent u hu).plain) (by rw [E.good]; rfl)
  | false =>
    have h := hb rfl
    simp only [badNames, List.mem_cons, List.not_mem_nil, or_false] at h
    rcases h with rfl | rfl | rfl | rfl | rfl | rfl | rfl | rfl | rfl
    · exact entries_bad (.inl rfl) (by decide) rfl rfl
    · exact entries_bad (.inl rfl) (by decide) rfl rfl
    · exact entries_bad (.inl rfl) (by decide) rfl rfl
    · exact entries_bad (.inl rfl) (by decide) rfl rfl
    · exact entries_not rfl
    · exact entries_not rfl
    · exact entries_bad (.inl rfl) (by decide) rfl rfl
    · exact entries_bad (.inl rfl) (by decide) rfl rfl
    · exact entries_not rfl
theorem livesF {ls : List U} (hl : ∀ u ∈ ls, lifD u) (hg : b = true → v = U.lst ls) (hb : b = false → v ∈ badLives) : m_check_life_row [v] S = if b = true then Out.ok U.non S else Out.exc (bad "lives") S := by
  cases b with
  | true =>
    rw [hg rfl]
    have q := lives_seq (v := U.lst ls) (us := ls) (st := S) (.inl rfl) (List.all_eq_true.mpr fun u hu => (hl u hu).flat)
    rw [if_pos (List.all_eq_true.mpr fun u hu => (hl u hu).life)] at q
    exact q
  | false =>
    have h := hb rfl
    have one : ∀ us : List U, us.all flatU = true → us.all lifeU = false → m_check_life_row [U.lst us] S = Out.exc (bad "lives") S := fun us h1 h2 => by
      have q := lives_seq (v := U.lst us) (us := us) (st := S) (.inl rfl) h1
      rw [if_neg (by rw [h2]; exact Bool.false_ne_true)] at q
      exact q
    simp only [badLives, List.mem_cons, List.not_mem_nil, or_false] at h
    rcases h with rfl | rfl | rfl | rfl | rfl | rfl
    · exact one _ rfl rfl
    · exact lives_not rfl
    · exact lives_not rfl
    · exact one _ rfl rfl
    · exact one _ rfl rfl
    · exact one _ rfl rfl
theorem marks2 {us : List U} {w : U} {c : Bool} (hs : Sq w us S) (hp : us.all plain = true) (hc : (decide (us.length = 2) && us.all (isWh · 0 1000)) = c) : m_check_marks [w] S = if c = true then Out.ok U.non S else Out.exc (bad "marks") S := by
  rw [marks_seq hs hp, ← hc]
  by_cases h : us.length = 2 ∧ us.all (isWh · 0 1000) = true
  · rw [if_pos h, if_pos (by rw [Bool.and_eq_true, decide_eq_true_iff]; exact h)]
  · rw [if_neg h, if_neg (by rw [Bool.and_eq_true, decide_eq_true_iff]; exact h)]
theorem worthF (hg : b = true → v = U.int 0 ∨ v = U.int 1 ∨ v = U.int 1000) (hb : b = false → v ∈ badWorth) : m_check_marks [U.tup [v, U.int 0]] S = if b = true then Out.ok U.non S else Out.exc (bad "marks") S := by
  cases b with
  | true => rcases hg rfl with rfl | rfl | rfl <;> exact marks2 (us := [_, U.int 0]) (.inr (.inl rfl)) rfl rfl
  | false =>
    have h := hb rfl
    simp only [badWorth, List.mem_cons, List.not_mem_nil, or_false] at h
    rcases h with rfl | rfl | rfl | rfl | rfl <;> exact marks2 (us := [_, U.int 0]) (.inr (.inl rfl)) rfl rfl
theorem sixF (hg : b = true → v = U.lst [U.int 0, U.int 1000]) (hb : b = false → v ∈ badMarks) : m_check_marks [v] S = if b = true then Out.ok U.non S else Out.exc (bad "marks") S := by
  cases b with
  | true =>
    rw [hg rfl]
    exact marks2 (us := [U.int 0, U.int 1000]) (.inl rfl) rfl rfl
  | false =>
    have h := hb rfl
    simp only [badMarks, List.mem_cons, List.not_mem_nil, or_false] at h
    rcases h with rfl | rfl | rfl | rfl | rfl | rfl
    · exact marks2 (us := [U.int 0]) (.inr (.inl rfl)) rfl rfl
    · exact marks2 (us := [U.int 0, U.int 1001]) (.inr (.inl rfl)) rfl rfl
    · exact marks_not rfl
    · exact marks2 (us := [U.int 0, U.bl true]) (.inr (.inl rfl)) rfl rfl
    · exact marks2 (us := [U.int 0, U.int 0, U.int 0]) (.inl rfl) rfl rfl
    · exact marks_not rfl
theorem numF {s : Int} {q : Bool} (hs : 0 ≤ s ∧ s ≤ 3) (hg : b = true → v = U.int s) (hb : b = false → v ∈ badNum q) : m_is_whole [v, U.int 0, U.int 3] S = Out.ok (U.bl b) S := by
  cases b with
  | true =>
    rw [hg rfl, whole_ok rfl, show isWh (U.int s) 0 3 = true from by simp [isWh, hs.1, hs.2]]
  | false =>
    have h := hb rfl
    simp only [badNum, List.mem_cons, List.not_mem_nil, or_false] at h
    rcases h with rfl | rfl | rfl | rfl | rfl <;> exact whole_ok rfl
theorem borne2 {us : List U} {w : U} {c : Int} {q : Bool} (hs : Sq w us S) (he : ∀ u ∈ us, elemOk u S) (hq : borneB S c 0 us = q) : m_check_borne [w, U.int c] S = if q = true then Out.ok U.non S else Out.exc (bad "borne") S := by
  rw [borne_seq hs he, hq]
theorem tupE {ts : List U} (h : ts.all plain = true) : elemOk (U.tup ts) S := .inl ⟨ts, .inr (.inl rfl), h⟩
theorem notE {u : U} (h : notSq u = true) : elemOk u S := .inr h
theorem borneF {n : Nat} {pl : List (Int × Int)} (hn : n ≤ 6) (hp : asc (n : Int) 0 pl) (hg : b = true → v = U.lst (pl.map pL)) (hb : b = false → v ∈ badPairs) : m_check_borne [v, U.int (n : Int)] S = if b = true then Out.ok U.non S else Out.exc (bad "borne") S := by
  cases b with
  | true =>
    rw [hg rfl]
    refine borne2 (us := pl.map pL) (.inl rfl) (fun u hu => ?_) (prL_lst.borne hp)
    obtain ⟨p, q⟩ := (prL_lst (S := S) (pl := pl)).elem u hu
    exact .inl ⟨_, q, rfl⟩
  | false =>
    have h := hb rfl
    simp only [badPairs, List.mem_cons, List.not_mem_nil, or_false] at h
    rcases h with rfl | rfl | rfl | rfl | rfl | rfl | rfl | rfl | rfl | rfl | rfl
    · refine borne2 (us := [U.tup [U.int 9, U.int 0]]) (.inl rfl) (fun u hu => ?_) ?_
      · rw [List.mem_singleton.mp hu]; exact tupE rfl
      · have : decide ((9 : Int) ≤ (n : Int)) = false := decide_eq_false (by omega)
        simp [borneB, NK.items, isWh, this]
    · refine borne2 (us := [U.tup [U.int 0, U.int 3]]) (.inl rfl) (fun u hu => ?_) ?_
      · rw [List.mem_singleton.mp hu]; exact tupE rfl
      · simp [borneB, NK.items, isWh]
    · refine borne2 (us := [U.tup [U.int 0, U.int 0], U.tup [U.int 0, U.int 1]]) (.inl rfl) (fun u hu => ?_) ?_
      · simp only [List.mem_cons, List.not_mem_nil, or_false] at hu
        rcases hu with rfl | rfl <;> exact tupE rfl
      · simp [borneB, NK.items, isWh]
    · refine borne2 (us := [U.tup [U.int 1, U.int 0], U.tup [U.int 0, U.int 0]]) (.inl rfl) (fun u hu => ?_) ?_
      · simp only [List.mem_cons, List.not_mem_nil, or_false] at hu
        rcases hu with rfl | rfl <;> exact tupE rfl
      · simp [borneB, NK.items, isWh]
    · refine borne2 (us := [U.tup [U.int 0]]) (.inl rfl) (fun u hu => ?_) ?_
      · rw [List.mem_singleton.mp hu]; exact tupE rfl
      · simp [borneB, NK.items]
    · refine borne2 (us := [U.int 0]) (.inl rfl) (fun u hu => ?_) ?_
      · rw [List.mem_singleton.mp hu]; exact notE rfl
      · simp [borneB, NK.items]
    · exact borne_not rfl
    · refine borne2 (us := [U.tup [U.int 0, U.bl true]]) (.inl rfl) (fun u hu => ?_) ?_
      · rw [List.mem_singleton.mp hu]; exact tupE rfl
      · simp [borneB, NK.items, isWh]
    · exact borne_not rfl
    · refine borne2 (us := [U.tup [U.int (-1), U.int 0]]) (.inl rfl) (fun u hu => ?_) ?_
      · rw [List.mem_singleton.mp hu]; exact tupE rfl
      · simp [borneB, NK.items, isWh]
    · refine borne2 (us := [U.tup [U.int 0, U.int 0, U.int 0]]) (.inl rfl) (fun u hu => ?_) ?_
      · rw [List.mem_singleton.mp hu]; exact tupE rfl
      · simp [borneB, NK.items]
end
/-- the word of a part -/
def wd (b : Bool) (w : String) : U := if b = true then U.non else U.str (Str.ofString w)
theorem wd_word (b : Bool) (w : String) : wordU (wd b w) := by
  cases b
  · exact .inr ⟨w, rfl⟩
  · exact .inl rfl
theorem pers_first (b1 b2 b3 b4 : Bool) : firstU [wd b1 "kind", wd b2 "names", wd b3 "lives", wd b4 "marks"] = match persW b1 b2 b3 b4 with | none => U.non | some w => U.str w := by
  cases b1 <;> cases b2 <;> cases b3 <;> cases b4 <;> rfl
theorem coup_firstU (b1 b2 b3 b4 b5 b6 : Bool) : firstU [wd b1 "names", wd b2 "lives", wd b3 "numbers", wd b4 "numbers", wd b5 "borne", wd b6 "marks"] = match coupW b1 b2 b3 b4 b5 b6 with | none => U.non | some w => U.str w := by
  cases b1 <;> cases b2 <;> cases b3 <;> cases b4 <;> cases b5 <;> cases b6 <;> rfl
end G

set_option Elab.async false
set_option linter.all false
set_option maxRecDepth 100000
set_option maxHeartbeats 4000000
/-! Q35t: refusals. -/
namespace G
open PySem L2 NK
section
variable {env : NK.Env} {S : Sto}
theorem lit_lk : (eScope (eLst (aCons (eC (.str "s")) (aCons (eC (.str "d")) aNil)))) env S = Out.ok (U.lst [U.str "s", U.str "d"]) S := by
  simp (maxDischargeDepth := 8) -implicitDefEqProofs only [sSeq, sIf, sAsg, sRet, sDrop, sSetIx, sNext, sCont, NK.tAnd, NK.tOr, NK.tNot, NK.tTru, NK.tB, eOp, eUn, eCB, eIf, eAnd, eOr, eNot, eVar, eC, aCons, aNil, gN, ob, xb, NK.os, NK.xs, nb, rb, kb, eb, List.getElem?_cons_zero, List.getElem?_cons_succ, List.set_cons_zero, List.set_cons_succ, ↓reduceIte, Bool.false_eq_true, Bool.not_true, Bool.not_false, fAdd_i, fSub_i, fNeg_i, fInt_i, fAbs_i, fLt_i, fLe_i, fGt_i, fMin_i, fIsN_n, fNotN_n, fLen_lst, fLen_tup, fTuple_lst, fTuple_tup, U.isNon, truth, fMod_i, fDiv_i, fMul_i, Int.reduceLT, Int.reduceNeg, Int.reducePow, Int.reduceLE, or_true, true_or, and_self, and_true, true_and, eCall, List.append_nil, List.length_cons, List.length_nil, Nat.reduceAdd, Nat.zero_add, esl, lstK_ok, Nat.reduceLeDiff, sc_lit, U.underL, U.under, Bool.and_self]
theorem lit_bk : (eScope (eLst (aCons (eC (.str "x")) (aCons (eC .non) (aCons (eC (.str "")) (aCons (eC (.int 1)) (aCons (eC (.str "f")) aNil))))))) env S = Out.ok (U.lst badKind) S := by
  unfold badKind
  simp (maxDischargeDepth := 8) -implicitDefEqProofs only [sSeq, sIf, sAsg, sRet, sDrop, sSetIx, sNext, sCont, NK.tAnd, NK.tOr, NK.tNot, NK.tTru, NK.tB, eOp, eUn, eCB, eIf, eAnd, eOr, eNot, eVar, eC, aCons, aNil, gN, ob, xb, NK.os, NK.xs, nb, rb, kb, eb, List.getElem?_cons_zero, List.getElem?_cons_succ, List.set_cons_zero, List.set_cons_succ, ↓reduceIte, Bool.false_eq_true, Bool.not_true, Bool.not_false, fAdd_i, fSub_i, fNeg_i, fInt_i, fAbs_i, fLt_i, fLe_i, fGt_i, fMin_i, fIsN_n, fNotN_n, fLen_lst, fLen_tup, fTuple_lst, fTuple_tup, U.isNon, truth, fMod_i, fDiv_i, fMul_i, Int.reduceLT, Int.reduceNeg, Int.reducePow, Int.reduceLE, or_true, true_or, and_self, and_true, true_and, eCall, List.append_nil, List.length_cons, List.length_nil, Nat.reduceAdd, Nat.zero_add, esl, lstK_ok, Nat.reduceLeDiff, sc_lit, U.underL, U.under, Bool.and_self]
theorem lit_bn : (eScope (eLst (aCons (eScope (eLst (aCons (eC (.int 1)) aNil))) (aCons (eScope (eLst (aCons (eC (.int 0)) (aCons (eC (.int 2)) aNil)))) (aCons (eScope (eLst (aCons (eC (.bl true)) aNil))) (aCons (eScope (eLst (aCons (eUn fNeg (eC (.int 1))) aNil))) (aCons (eC (.str "01")) (aCons (eC .non) (aCons (eScope (eLst (aCons (eC (.int 0)) (aCons (eC (.str "a")) aNil)))) (aCons (eScope (eLst (aCons (eC (.int 0)) (aCons (eC (.int 1)) (aCons (eC (.int 3)) aNil))))) (aCons (eC (.int 0)) aNil))))))))))) env S = Out.ok (U.lst badNames) S := by
  unfold badNames
  simp (maxDischargeDepth := 8) -implicitDefEqProofs only [sSeq, sIf, sAsg, sRet, sDrop, sSetIx, sNext, sCont, NK.tAnd, NK.tOr, NK.tNot, NK.tTru, NK.tB, eOp, eUn, eCB, eIf, eAnd, eOr, eNot, eVar, eC, aCons, aNil, gN, ob, xb, NK.os, NK.xs, nb, rb, kb, eb, List.getElem?_cons_zero, List.getElem?_cons_succ, List.set_cons_zero, List.set_cons_succ, ↓reduceIte, Bool.false_eq_true, Bool.not_true, Bool.not_false, fAdd_i, fSub_i, fNeg_i, fInt_i, fAbs_i, fLt_i, fLe_i, fGt_i, fMin_i, fIsN_n, fNotN_n, fLen_lst, fLen_tup, fTuple_lst, fTuple_tup, U.isNon, truth, fMod_i, fDiv_i, fMul_i, Int.reduceLT, Int.reduceNeg, Int.reducePow, Int.reduceLE, or_true, true_or, and_self, and_true, true_and, eCall, List.append_nil, List.length_cons, List.length_nil, Nat.reduceAdd, Nat.zero_add, esl, lstK_ok, Nat.reduceLeDiff, sc_lit, U.underL, U.under, Bool.and_self]
theorem lit_bl : (eScope (eLst (aCons (eScope (eLst (aCons (eC (.str "living")) aNil))) (aCons (eC .non) (aCons (eC (.str "alive")) (aCons (eScope (eLst (aCons (eC (.int 0)) aNil))) (aCons (eScope (eLst (aCons (eC (.bl true)) aNil))) (aCons (eScope (eLst (aCons (eC (.str "dead")) (aCons (eC (.str "")) aNil)))) aNil)))))))) env S = Out.ok (U.lst badLives) S := by
  unfold badLives
  simp (maxDischargeDepth := 8) -implicitDefEqProofs only [sSeq, sIf, sAsg, sRet, sDrop, sSetIx, sNext, sCont, NK.tAnd, NK.tOr, NK.tNot, NK.tTru, NK.tB, eOp, eUn, eCB, eIf, eAnd, eOr, eNot, eVar, eC, aCons, aNil, gN, ob, xb, NK.os, NK.xs, nb, rb, kb, eb, List.getElem?_cons_zero, List.getElem?_cons_succ, List.set_cons_zero, List.set_cons_succ, ↓reduceIte, Bool.false_eq_true, Bool.not_true, Bool.not_false, fAdd_i, fSub_i, fNeg_i, fInt_i, fAbs_i, fLt_i, fLe_i, fGt_i, fMin_i, fIsN_n, fNotN_n, fLen_lst, fLen_tup, fTuple_lst, fTuple_tup, U.isNon, truth, fMod_i, fDiv_i, fMul_i, Int.reduceLT, Int.reduceNeg, Int.reducePow, Int.reduceLE, or_true, true_or, and_self, and_true, true_and, eCall, List.append_nil, List.length_cons, List.length_nil, Nat.reduceAdd, Nat.zero_add, esl, lstK_ok, Nat.reduceLeDiff, sc_lit, U.underL, U.under, Bool.and_self]
theorem lit_bp : (eScope (eLst (aCons (eScope (eLst (aCons (eTup (aCons (eC (.int 9)) (aCons (eC (.int 0)) aNil))) aNil))) (aCons (eScope (eLst (aCons (eTup (aCons (eC (.int 0)) (aCons (eC (.int 3)) aNil))) aNil))) (aCons (eScope (eLst (aCons (eTup (aCons (eC (.int 0)) (aCons (eC (.int 0)) aNil))) (aCons (eTup (aCons (eC (.int 0)) (aCons (eC (.int 1)) aNil))) aNil)))) (aCons (eScope (eLst (aCons (eTup (aCons (eC (.int 1)) (aCons (eC (.int 0)) aNil))) (aCons (eTup (aCons (eC (.int 0)) (aCons (eC (.int 0)) aNil))) aNil)))) (aCons (eScope (eLst (aCons (eTup (aCons (eC (.int 0)) aNil)) aNil))) (aCons (eScope (eLst (aCons (eC (.int 0)) aNil))) (aCons (eC .non) (aCons (eScope (eLst (aCons (eTup (aCons (eC (.int 0)) (aCons (eC (.bl true)) aNil))) aNil))) (aCons (eC (.str "a")) (aCons (eScope (eLst (aCons (eTup (aCons (eUn fNeg (eC (.int 1))) (aCons (eC (.int 0)) aNil))) aNil))) (aCons (eScope (eLst (aCons (eTup (aCons (eC (.int 0)) (aCons (eC (.int 0)) (aCons (eC (.int 0)) aNil)))) aNil))) aNil))))))))))))) env S = Out.ok (U.lst badPairs) S := by
  unfold badPairs
  simp (maxDischargeDepth := 8) -implicitDefEqProofs only [sSeq, sIf, sAsg, sRet, sDrop, sSetIx, sNext, sCont, NK.tAnd, NK.tOr, NK.tNot, NK.tTru, NK.tB, eOp, eUn, eCB, eIf, eAnd, eOr, eNot, eVar, eC, aCons, aNil, gN, ob, xb, NK.os, NK.xs, nb, rb, kb, eb, List.getElem?_cons_zero, List.getElem?_cons_succ, List.set_cons_zero, List.set_cons_succ, ↓reduceIte, Bool.false_eq_true, Bool.not_true, Bool.not_false, fAdd_i, fSub_i, fNeg_i, fInt_i, fAbs_i, fLt_i, fLe_i, fGt_i, fMin_i, fIsN_n, fNotN_n, fLen_lst, fLen_tup, fTuple_lst, fTuple_tup, U.isNon, truth, fMod_i, fDiv_i, fMul_i, Int.reduceLT, Int.reduceNeg, Int.reducePow, Int.reduceLE, or_true, true_or, and_self, and_true, true_and, eCall, List.append_nil, List.length_cons, List.length_nil, Nat.reduceAdd, Nat.zero_add, esl, lstK_ok, Nat.reduceLeDiff, sc_lit, U.underL, U.under, Bool.and_self, eTup]
theorem lit_l3 : (eScope (eLst (aCons (eC (.int 0)) (aCons (eC (.int 1)) (aCons (eC (.int 1000)) aNil))))) env S = Out.ok (U.lst [U.int 0, U.int 1, U.int 1000]) S := by
  simp (maxDischargeDepth := 8) -implicitDefEqProofs only [sSeq, sIf, sAsg, sRet, sDrop, sSetIx, sNext, sCont, NK.tAnd, NK.tOr, NK.tNot, NK.tTru, NK.tB, eOp, eUn, eCB, eIf, eAnd, eOr, eNot, eVar, eC, aCons, aNil, gN, ob, xb, NK.os, NK.xs, nb, rb, kb, eb, List.getElem?_cons_zero, List.getElem?_cons_succ, List.set_cons_zero, List.set_cons_succ, ↓reduceIte, Bool.false_eq_true, Bool.not_true, Bool.not_false, fAdd_i, fSub_i, fNeg_i, fInt_i, fAbs_i, fLt_i, fLe_i, fGt_i, fMin_i, fIsN_n, fNotN_n, fLen_lst, fLen_tup, fTuple_lst, fTuple_tup, U.isNon, truth, fMod_i, fDiv_i, fMul_i, Int.reduceLT, Int.reduceNeg, Int.reducePow, Int.reduceLE, or_true, true_or, and_self, and_true, true_and, eCall, List.append_nil, List.length_cons, List.length_nil, Nat.reduceAdd, Nat.zero_add, esl, lstK_ok, Nat.reduceLeDiff, sc_lit, U.underL, U.under, Bool.and_self]
theorem lit_bm : (eScope (eLst (aCons (eUn fNeg (eC (.int 1))) (aCons (eC (.int 1001)) (aCons (eC (.bl true)) (aCons (eC .non) (aCons (eC (.str "0")) aNil))))))) env S = Out.ok (U.lst badWorth) S := by
  unfold badWorth
  simp (maxDischargeDepth := 8) -implicitDefEqProofs only [sSeq, sIf, sAsg, sRet, sDrop, sSetIx, sNext, sCont, NK.tAnd, NK.tOr, NK.tNot, NK.tTru, NK.tB, eOp, eUn, eCB, eIf, eAnd, eOr, eNot, eVar, eC, aCons, aNil, gN, ob, xb, NK.os, NK.xs, nb, rb, kb, eb, List.getElem?_cons_zero, List.getElem?_cons_succ, List.set_cons_zero, List.set_cons_succ, ↓reduceIte, Bool.false_eq_true, Bool.not_true, Bool.not_false, fAdd_i, fSub_i, fNeg_i, fInt_i, fAbs_i, fLt_i, fLe_i, fGt_i, fMin_i, fIsN_n, fNotN_n, fLen_lst, fLen_tup, fTuple_lst, fTuple_tup, U.isNon, truth, fMod_i, fDiv_i, fMul_i, Int.reduceLT, Int.reduceNeg, Int.reducePow, Int.reduceLE, or_true, true_or, and_self, and_true, true_and, eCall, List.append_nil, List.length_cons, List.length_nil, Nat.reduceAdd, Nat.zero_add, esl, lstK_ok, Nat.reduceLeDiff, sc_lit, U.underL, U.under, Bool.and_self]
theorem lit_bs : (eScope (eLst (aCons (eC (.int 4)) (aCons (eUn fNeg (eC (.int 1))) (aCons (eC (.bl true)) (aCons (eC (.str "1")) (aCons (eC .non) aNil))))))) env S = Out.ok (U.lst (badNum true)) S := by
  unfold badNum
  simp (maxDischargeDepth := 8) -implicitDefEqProofs only [sSeq, sIf, sAsg, sRet, sDrop, sSetIx, sNext, sCont, NK.tAnd, NK.tOr, NK.tNot, NK.tTru, NK.tB, eOp, eUn, eCB, eIf, eAnd, eOr, eNot, eVar, eC, aCons, aNil, gN, ob, xb, NK.os, NK.xs, nb, rb, kb, eb, List.getElem?_cons_zero, List.getElem?_cons_succ, List.set_cons_zero, List.set_cons_succ, ↓reduceIte, Bool.false_eq_true, Bool.not_true, Bool.not_false, fAdd_i, fSub_i, fNeg_i, fInt_i, fAbs_i, fLt_i, fLe_i, fGt_i, fMin_i, fIsN_n, fNotN_n, fLen_lst, fLen_tup, fTuple_lst, fTuple_tup, U.isNon, truth, fMod_i, fDiv_i, fMul_i, Int.reduceLT, Int.reduceNeg, Int.reducePow, Int.reduceLE, or_true, true_or, and_self, and_true, true_and, eCall, List.append_nil, List.length_cons, List.length_nil, Nat.reduceAdd, Nat.zero_add, esl, lstK_ok, Nat.reduceLeDiff, sc_lit, U.underL, U.under, Bool.and_self]
theorem lit_bd : (eScope (eLst (aCons (eC (.int 4)) (aCons (eUn fNeg (eC (.int 1))) (aCons (eC (.bl false)) (aCons (eC (.str "1")) (aCons (eC .non) aNil))))))) env S = Out.ok (U.lst (badNum false)) S := by
  unfold badNum
  simp (maxDischargeDepth := 8) -implicitDefEqProofs only [sSeq, sIf, sAsg, sRet, sDrop, sSetIx, sNext, sCont, NK.tAnd, NK.tOr, NK.tNot, NK.tTru, NK.tB, eOp, eUn, eCB, eIf, eAnd, eOr, eNot, eVar, eC, aCons, aNil, gN, ob, xb, NK.os, NK.xs, nb, rb, kb, eb, List.getElem?_cons_zero, List.getElem?_cons_succ, List.set_cons_zero, List.set_cons_succ, ↓reduceIte, Bool.false_eq_true, Bool.not_true, Bool.not_false, fAdd_i, fSub_i, fNeg_i, fInt_i, fAbs_i, fLt_i, fLe_i, fGt_i, fMin_i, fIsN_n, fNotN_n, fLen_lst, fLen_tup, fTuple_lst, fTuple_tup, U.isNon, truth, fMod_i, fDiv_i, fMul_i, Int.reduceLT, Int.reduceNeg, Int.reducePow, Int.reduceLE, or_true, true_or, and_self, and_true, true_and, eCall, List.append_nil, List.length_cons, List.length_nil, Nat.reduceAdd, Nat.zero_add, esl, lstK_ok, Nat.reduceLeDiff, sc_lit, U.underL, U.under, Bool.and_self]
theorem lit_gm : (eScope (eLst (aCons (eC (.int 0)) (aCons (eC (.int 1000)) aNil)))) env S = Out.ok (U.lst [U.int 0, U.int 1000]) S := by
  simp (maxDischargeDepth := 8) -implicitDefEqProofs only [sSeq, sIf, sAsg, sRet, sDrop, sSetIx, sNext, sCont, NK.tAnd, NK.tOr, NK.tNot, NK.tTru, NK.tB, eOp, eUn, eCB, eIf, eAnd, eOr, eNot, eVar, eC, aCons, aNil, gN, ob, xb, NK.os, NK.xs, nb, rb, kb, eb, List.getElem?_cons_zero, List.getElem?_cons_succ, List.set_cons_zero, List.set_cons_succ, ↓reduceIte, Bool.false_eq_true, Bool.not_true, Bool.not_false, fAdd_i, fSub_i, fNeg_i, fInt_i, fAbs_i, fLt_i, fLe_i, fGt_i, fMin_i, fIsN_n, fNotN_n, fLen_lst, fLen_tup, fTuple_lst, fTuple_tup, U.isNon, truth, fMod_i, fDiv_i, fMul_i, Int.reduceLT, Int.reduceNeg, Int.reducePow, Int.reduceLE, or_true, true_or, and_self, and_true, true_and, eCall, List.append_nil, List.length_cons, List.length_nil, Nat.reduceAdd, Nat.zero_add, esl, lstK_ok, Nat.reduceLeDiff, sc_lit, U.underL, U.under, Bool.and_self]
theorem lit_b6 : (eScope (eLst (aCons (eTup (aCons (eC (.int 0)) aNil)) (aCons (eTup (aCons (eC (.int 0)) (aCons (eC (.int 1001)) aNil))) (aCons (eC .non) (aCons (eTup (aCons (eC (.int 0)) (aCons (eC (.bl true)) aNil))) (aCons (eScope (eLst (aCons (eC (.int 0)) (aCons (eC (.int 0)) (aCons (eC (.int 0)) aNil))))) (aCons (eC (.int 0)) aNil)))))))) env S = Out.ok (U.lst badMarks) S := by
  unfold badMarks
  simp (maxDischargeDepth := 8) -implicitDefEqProofs only [sSeq, sIf, sAsg, sRet, sDrop, sSetIx, sNext, sCont, NK.tAnd, NK.tOr, NK.tNot, NK.tTru, NK.tB, eOp, eUn, eCB, eIf, eAnd, eOr, eNot, eVar, eC, aCons, aNil, gN, ob, xb, NK.os, NK.xs, nb, rb, kb, eb, List.getElem?_cons_zero, List.getElem?_cons_succ, List.set_cons_zero, List.set_cons_succ, ↓reduceIte, Bool.false_eq_true, Bool.not_true, Bool.not_false, fAdd_i, fSub_i, fNeg_i, fInt_i, fAbs_i, fLt_i, fLe_i, fGt_i, fMin_i, fIsN_n, fNotN_n, fLen_lst, fLen_tup, fTuple_lst, fTuple_tup, U.isNon, truth, fMod_i, fDiv_i, fMul_i, Int.reduceLT, Int.reduceNeg, Int.reducePow, Int.reduceLE, or_true, true_or, and_self, and_true, true_and, eCall, List.append_nil, List.length_cons, List.length_nil, Nat.reduceAdd, Nat.zero_add, esl, lstK_ok, Nat.reduceLeDiff, sc_lit, U.underL, U.under, Bool.and_self, eTup]
def fiveU (w p : U) : U := match w with
  | .non => p
  | _ => U.lst []
theorem lit_five {v w p : U} (h3 : env[3]? = some (some p)) (h8 : env[8]? = some (some (U.tup [v, w]))) : (eIf (NK.tB (eOp fIsN (eOp fIx (eVar 8) (eC (.int 1))) (eC .non))) (eVar 3) (eScope (eLst aNil))) env S = Out.ok (fiveU w p) S := by
  have hx : fIx (U.tup [v, w]) (U.int 1) S = Out.ok w S := rfl
  cases w <;> simp (maxDischargeDepth := 8) -implicitDefEqProofs only [sSeq, sIf, sAsg, sRet, sDrop, sSetIx, sNext, sCont, NK.tAnd, NK.tOr, NK.tNot, NK.tTru, NK.tB, eOp, eUn, eCB, eIf, eAnd, eOr, eNot, eVar, eC, aCons, aNil, gN, ob, xb, NK.os, NK.xs, nb, rb, kb, eb, List.getElem?_cons_zero, List.getElem?_cons_succ, List.set_cons_zero, List.set_cons_succ, ↓reduceIte, Bool.false_eq_true, Bool.not_true, Bool.not_false, fAdd_i, fSub_i, fNeg_i, fInt_i, fAbs_i, fLt_i, fLe_i, fGt_i, fMin_i, fIsN_n, fNotN_n, fLen_lst, fLen_tup, fTuple_lst, fTuple_tup, U.isNon, truth, fMod_i, fDiv_i, fMul_i, Int.reduceLT, Int.reduceNeg, Int.reducePow, Int.reduceLE, or_true, true_or, and_self, and_true, true_and, eCall, List.append_nil, List.length_cons, List.length_nil, Nat.reduceAdd, Nat.zero_add, esl, lstK_ok, Nat.reduceLeDiff, sc_lit, U.underL, U.under, Bool.and_self, sc_nil, h3, h8, hx, fiveU]
end
theorem refuse_body {pk sp dr pw cw fs : MF} {lk bk bn bl bp l3 bm bs bd gm b6 five : ME} {names lives pairs k m p5 r q v1 w1 v2 w2 v3 w3 v4 w4 v5 w5 v6 w6 v7 w7 v8 w8 : U} {Lk Bk Bn Bl Bp L3 Bm Bs Bd Gm B6 : List U} {s d : Int} {h0 h1 h2 h3 h4 h5 h6 h7 h8 h9 h10 h11 h12 : Ob} {st : Sto}
    (elk : ∀ env S, lk env S = Out.ok (U.lst Lk) S) (ebk : ∀ env S, bk env S = Out.ok (U.lst Bk) S) (ebn : ∀ env S, bn env S = Out.ok (U.lst Bn) S) (ebl : ∀ env S, bl env S = Out.ok (U.lst Bl) S) (ebp : ∀ env S, bp env S = Out.ok (U.lst Bp) S) (el3 : ∀ env S, l3 env S = Out.ok (U.lst L3) S) (ebm : ∀ env S, bm env S = Out.ok (U.lst Bm) S) (ebs : ∀ env S, bs env S = Out.ok (U.lst Bs) S) (ebd : ∀ env S, bd env S = Out.ok (U.lst Bd) S) (egm : ∀ env S, gm env S = Out.ok (U.lst Gm) S) (eb6 : ∀ env S, b6 env S = Out.ok (U.lst B6) S)
    (e5 : ∀ env S, env[3]? = some (some pairs) → env[8]? = some (some (U.tup [v2, w2])) → five env S = Out.ok p5 S)
    (c1 : pk [U.loc 0, U.lst Lk] (h0 :: st) = Out.ok k (h1 :: st)) (c2 : sp [U.loc 0, k, U.lst Bk, U.str "kind"] (h1 :: st) = Out.ok (U.tup [v1, w1]) (h2 :: st))
    (c3 : sp [U.loc 0, names, U.lst Bn, U.str "names"] (h2 :: st) = Out.ok (U.tup [v2, w2]) (h3 :: st)) (c4 : sp [U.loc 0, lives, U.lst Bl, U.str "lives"] (h3 :: st) = Out.ok (U.tup [v3, w3]) (h4 :: st))
    (c5 : pk [U.loc 0, U.lst L3] (h4 :: st) = Out.ok m (h5 :: st)) (c6 : sp [U.loc 0, m, U.lst Bm, U.str "marks"] (h5 :: st) = Out.ok (U.tup [v4, w4]) (h6 :: st))
    (c7 : pw [v1, v2, v3, v4] (h6 :: st) = Out.ok r (h6 :: st)) (c8 : fs [U.lst [w1, w2, w3, w4]] (h6 :: st) = Out.ok r (h6 :: st)) (n1 : fNe r r (h6 :: st) = Out.ok (U.bl false) (h6 :: st))
    (c9 : dr [U.loc 0, U.int 4] (h6 :: st) = Out.ok (U.int s) (h7 :: st)) (c10 : sp [U.loc 0, U.int s, U.lst Bs, U.str "numbers"] (h7 :: st) = Out.ok (U.tup [v5, w5]) (h8 :: st))
    (c11 : dr [U.loc 0, U.int 4] (h8 :: st) = Out.ok (U.int d) (h9 :: st)) (c12 : sp [U.loc 0, U.int d, U.lst Bd, U.str "numbers"] (h9 :: st) = Out.ok (U.tup [v6, w6]) (h10 :: st))
    (c13 : sp [U.loc 0, p5, U.lst Bp, U.str "borne"] (h10 :: st) = Out.ok (U.tup [v7, w7]) (h11 :: st)) (c14 : sp [U.loc 0, U.lst Gm, U.lst B6, U.str "marks"] (h11 :: st) = Out.ok (U.tup [v8, w8]) (h12 :: st))
    (c15 : cw [v2, v3, v5, v6, v7, v8] (h12 :: st) = Out.ok q (h12 :: st)) (c16 : fs [U.lst [w2, w3, w5, w6, w7, w8]] (h12 :: st) = Out.ok q (h12 :: st)) (n2 : fEq q q (h12 :: st) = Out.ok (U.bl true) (h12 :: st))
    (u1 : w1.under 0 = true) (u2 : w2.under 0 = true) (u3 : w3.under 0 = true) (u4 : w4.under 0 = true) (u5 : w5.under 0 = true) (u6 : w6.under 0 = true) (u7 : w7.under 0 = true) (u8 : w8.under 0 = true) :
    (sSeq (sAsg bn (gN 4))
    (sSeq (sAsg bl (gN 5))
    (sSeq (sAsg bp (gN 6))
    (sSeq (sAsg (eCall 4 sp [] (aCons (eVar 0) (aCons (eCall 2 pk [] (aCons (eVar 0) (aCons lk aNil))) (aCons bk (aCons (eC (.str "kind")) aNil))))) (gN 7))
    (sSeq (sAsg (eCall 4 sp [] (aCons (eVar 0) (aCons (eVar 1) (aCons (eVar 4) (aCons (eC (.str "names")) aNil))))) (gN 8))
    (sSeq (sAsg (eCall 4 sp [] (aCons (eVar 0) (aCons (eVar 2) (aCons (eVar 5) (aCons (eC (.str "lives")) aNil))))) (gN 9))
    (sSeq (sAsg (eCall 4 sp [] (aCons (eVar 0) (aCons (eCall 2 pk [] (aCons (eVar 0) (aCons l3 aNil))) (aCons bm (aCons (eC (.str "marks")) aNil))))) (gN 10))
    (sSeq (sIf (NK.tB (eOp fNe (eCall 4 pw [] (aCons (eOp fIx (eVar 7) (eC (.int 0))) (aCons (eOp fIx (eVar 8) (eC (.int 0))) (aCons (eOp fIx (eVar 9) (eC (.int 0))) (aCons (eOp fIx (eVar 10) (eC (.int 0))) aNil))))) (eCall 1 fs [] (aCons (eScope (eLst (aCons (eOp fIx (eVar 7) (eC (.int 1))) (aCons (eOp fIx (eVar 8) (eC (.int 1))) (aCons (eOp fIx (eVar 9) (eC (.int 1))) (aCons (eOp fIx (eVar 10) (eC (.int 1))) aNil)))))) aNil)))) (sRet (eC (.bl false))) sNext)
    (sSeq (sAsg (eCall 4 sp [] (aCons (eVar 0) (aCons (eCall 2 dr [] (aCons (eVar 0) (aCons (eC (.int 4)) aNil))) (aCons bs (aCons (eC (.str "numbers")) aNil))))) (gN 11))
    (sSeq (sAsg (eCall 4 sp [] (aCons (eVar 0) (aCons (eCall 2 dr [] (aCons (eVar 0) (aCons (eC (.int 4)) aNil))) (aCons bd (aCons (eC (.str "numbers")) aNil))))) (gN 12))
    (sSeq (sAsg (eCall 4 sp [] (aCons (eVar 0) (aCons five (aCons (eVar 6) (aCons (eC (.str "borne")) aNil))))) (gN 13))
    (sSeq (sAsg (eCall 4 sp [] (aCons (eVar 0) (aCons gm (aCons b6 (aCons (eC (.str "marks")) aNil))))) (gN 14))
    (sSeq (sAsg (eCall 6 cw [] (aCons (eOp fIx (eVar 8) (eC (.int 0))) (aCons (eOp fIx (eVar 9) (eC (.int 0))) (aCons (eOp fIx (eVar 11) (eC (.int 0))) (aCons (eOp fIx (eVar 12) (eC (.int 0))) (aCons (eOp fIx (eVar 13) (eC (.int 0))) (aCons (eOp fIx (eVar 14) (eC (.int 0))) aNil))))))) (gN 15))
    (sRet (eOp fEq (eVar 15) (eCall 1 fs [] (aCons (eScope (eLst (aCons (eOp fIx (eVar 8) (eC (.int 1))) (aCons (eOp fIx (eVar 9) (eC (.int 1))) (aCons (eOp fIx (eVar 11) (eC (.int 1))) (aCons (eOp fIx (eVar 12) (eC (.int 1))) (aCons (eOp fIx (eVar 13) (eC (.int 1))) (aCons (eOp fIx (eVar 14) (eC (.int 1))) aNil)))))))) aNil))))))))))))))))) [some (U.loc 0), some names, some lives, some pairs, none, none, none, none, none, none, none, none, none, none, none, none] (h0 :: st) = SO.ret (U.bl true) (h12 :: st) := by
  have ix0 : ∀ (a b : U) S, fIx (U.tup [a, b]) (U.int 0) S = Out.ok a S := fun _ _ _ => rfl
  have ix1 : ∀ (a b : U) S, fIx (U.tup [a, b]) (U.int 1) S = Out.ok b S := fun _ _ _ => rfl
  simp (maxDischargeDepth := 8) -implicitDefEqProofs only [sSeq, sIf, sAsg, sRet, sDrop, sSetIx, sNext, sCont, NK.tAnd, NK.tOr, NK.tNot, NK.tTru, NK.tB, eOp, eUn, eCB, eIf, eAnd, eOr, eNot, eVar, eC, aCons, aNil, gN, ob, xb, NK.os, NK.xs, nb, rb, kb, eb, List.getElem?_cons_zero, List.getElem?_cons_succ, List.set_cons_zero, List.set_cons_succ, ↓reduceIte, Bool.false_eq_true, Bool.not_true, Bool.not_false, fAdd_i, fSub_i, fNeg_i, fInt_i, fAbs_i, fLt_i, fLe_i, fGt_i, fMin_i, fIsN_n, fNotN_n, fLen_lst, fLen_tup, fTuple_lst, fTuple_tup, U.isNon, truth, fMod_i, fDiv_i, fMul_i, Int.reduceLT, Int.reduceNeg, Int.reducePow, Int.reduceLE, or_true, true_or, and_self, and_true, true_and, eCall, List.append_nil, List.length_cons, List.length_nil, Nat.reduceAdd, Nat.zero_add, esl, lstK_ok, Nat.reduceLeDiff, sc_lit, U.underL, U.under, Bool.and_self, elk, ebk, ebn, ebl, ebp, el3, ebm, ebs, ebd, egm, eb6, e5, c1, c2, c3, c4, c5, c6, c7, c8, n1, c9, c10, c11, c12, c13, c14, c15, c16, n2, u1, u2, u3, u4, u5, u6, u7, u8, ix0, ix1]
end G

set_option Elab.async false
set_option linter.all false
set_option maxRecDepth 100000
set_option maxHeartbeats 4000000
/-! Q35u: refusals joined; the law. -/
namespace G
open PySem L2 NK
theorem firstU_word {ws : List U} (h : ∀ u ∈ ws, wordU u) : wordU (firstU ws) := by
  have hf : ∀ u ∈ ws.filter fun u => !u.isNon, wordU u := fun u hu => h u (List.mem_filter.mp hu).1
  unfold firstU
  generalize (ws.filter fun u => !u.isNon) = fs at hf
  cases fs with
  | nil => exact .inl rfl
  | cons u us => exact hf u List.mem_cons_self
theorem list_under {us : List U} (h : U.underL 0 us = true) : (U.lst us).under 0 = true := by unfold U.under; exact h
theorem ne_word {u : U} {S : Sto} (h : wordU u) : fNe u u S = Out.ok (U.bl false) S := by
  rw [fNe_ok (h.ok 11) (h.ok 11), eqvU_same (h.ok 11)]
  rfl
theorem eq_word {u : U} {S : Sto} (h : wordU u) : fEq u u S = Out.ok (U.bl true) S := by
  rw [fEq_ok (h.ok 11) (h.ok 11), eqvU_same (h.ok 11)]
theorem refusals_ok {h0 : Ob} {st : Sto} {es ls : List U} {pl : List (Int × Int)} (H : HOb h0) (E : Ents es) (hl : ∀ u ∈ ls, lifD u) (hp : asc (ncls es : Nat) 0 pl) :
    ∃ h', HOb h' ∧ m_u_law_refusals [U.loc 0, U.lst es, U.lst ls, U.lst (pl.map pL)] (h0 :: st) = Out.ok (U.bl true) (h' :: st) := by
  have le := E.len
  have nle := ncls_le es
  have pu : U.underL 0 (pl.map pL) = true := underL_all fun u hu => by
    rw [List.mem_map] at hu
    obtain ⟨p, _, rfl⟩ := hu
    rfl
  have lu : U.underL 0 ls = true := underL_all fun u hu => okU_under 1 u ((hl u hu).ok 0)
  obtain ⟨k, h1, hk, H1, c1⟩ := pick_ok (st := st) (us := [U.str "s", U.str "d"]) H (by simp) (by simp) rfl
  obtain ⟨h2, v1, b1, H2, c2, g1, f1⟩ := spoilt_ok (st := st) (w := "kind") (good := k) (bads := badKind) H1 (underL_mem (n := 0) (us := [U.str "s", U.str "d"]) rfl hk) rfl (by simp [badKind]) (by simp [badKind])
  obtain ⟨h3, v2, b2, H3, c3, g2, f2⟩ := spoilt_ok (st := st) (w := "names") (good := U.lst es) (bads := badNames) H2 (list_under (ent_under E.ent)) rfl (by simp [badNames]) (by simp [badNames])
  obtain ⟨h4, v3, b3, H4, c4, g3, f3⟩ := spoilt_ok (st := st) (w := "lives") (good := U.lst ls) (bads := badLives) H3 (list_under lu) rfl (by simp [badLives]) (by simp [badLives])
  obtain ⟨m, h5, hm, H5, c5⟩ := pick_ok (st := st) (us := [U.int 0, U.int 1, U.int 1000]) H4 (by simp) (by simp) rfl
  obtain ⟨h6, v4, b4, H6, c6, g4, f4⟩ := spoilt_ok (st := st) (w := "marks") (good := m) (bads := badWorth) H5 (underL_mem (n := 0) (us := [U.int 0, U.int 1, U.int 1000]) rfl hm) rfl (by simp [badWorth]) (by simp [badWorth])
  obtain ⟨s, h7, H7, s0, s1, c9⟩ := draw_ok (st := st) (m := 4) H6 (by decide) (by decide)
  obtain ⟨h8, v5, b5, H8, c10, g5, f5⟩ := spoilt_ok (st := st) (w := "numbers") (good := U.int s) (bads := badNum true) H7 rfl rfl (by simp [badNum]) (by simp [badNum])
  obtain ⟨d, h9, H9, d0, d1, c11⟩ := draw_ok (st := st) (m := 4) H8 (by decide) (by decide)
  obtain ⟨h10, v6, b6, H10, c12, g6, f6⟩ := spoilt_ok (st := st) (w := "numbers") (good := U.int d) (bads := badNum false) H9 rfl rfl (by simp [badNum]) (by simp [badNum])
  obtain ⟨h11, v7, b7, H11, c13, g7, f7⟩ := spoilt_ok (st := st) (w := "borne") (good := fiveU (wd b2 "names") (U.lst (pl.map pL))) (bads := badPairs) H10 (by cases b2 <;> first | rfl | exact list_under pu) rfl (by simp [badPairs]) (by simp [badPairs])
  obtain ⟨h12, v8, b8, H12, c14, g8, f8⟩ := spoilt_ok (st := st) (w := "marks") (good := U.lst [U.int 0, U.int 1000]) (bads := badMarks) H11 rfl rfl (by simp [badMarks]) (by simp [badMarks])
  have hk' : k = U.str "s" ∨ k = U.str "d" := by simpa using hk
  have hm' : m = U.int 0 ∨ m = U.int 1 ∨ m = U.int 1000 := by simpa using hm
  have K1 : ∀ S, m_is_kind [v1] S = Out.ok (U.bl b1) S := fun S => kindF (fun e => by rw [g1 e]; exact hk') f1
  have K2 : ∀ S, m_check_entries [v2] S = if b2 = true then Out.ok U.non S else Out.exc (bad "names") S := fun S => namesF E g2 f2
  have K3 : ∀ S, m_check_life_row [v3] S = if b3 = true then Out.ok U.non S else Out.exc (bad "lives") S := fun S => livesF hl g3 f3
  have K4 : ∀ S, m_check_marks [U.tup [v4, U.int 0]] S = if b4 = true then Out.ok U.non S else Out.exc (bad "marks") S := fun S => worthF (fun e => by rw [g4 e]; exact hm') f4
  have K5 : ∀ S, m_is_whole [v5, U.int 0, U.int 3] S = Out.ok (U.bl b5) S := fun S => numF (s := s) (by omega) g5 f5
  have K6 : ∀ S, m_is_whole [v6, U.int 0, U.int 3] S = Out.ok (U.bl b6) S := fun S => numF (s := d) (by omega) g6 f6
  have K7 : b2 = true → ∀ S, m_check_borne [v7, U.int (ncls es : Nat)] S = if b7 = true then Out.ok U.non S else Out.exc (bad "borne") S := fun e S => by
    subst e
    exact borneF (by omega) hp g7 f7
  have K8 : ∀ S, m_check_marks [v8] S = if b8 = true then Out.ok U.non S else Out.exc (bad "marks") S := fun S => sixF g8 f8
  have PA : ∀ S, PArg v1 v2 v3 v4 es ls b1 b2 b3 b4 S := fun S => ⟨fun ext => K1 _, fun ext => K2 _, fun ext => K3 _, fun ext => K4 _, fun e ext => by rw [g2 e]; rfl, fun e ext => by rw [g3 e]; rfl, fun e => by rw [g1 e]; rcases hk' with rfl | rfl <;> rfl, fun _ => ent_under E.ent, fun _ => lu, fun e => by rw [g4 e]; rcases hm' with rfl | rfl | rfl <;> rfl⟩
  have CA : ∀ S, CArg v2 v3 v5 v6 v7 v8 es ls s d pl 0 1000 b2 b3 b5 b6 b7 b8 S := fun S => ⟨fun ext => K2 _, fun ext => K3 _, fun ext => K5 _, fun ext => K6 _, fun e ext => K7 e _, fun ext => K8 _, fun e => ⟨.inl (g2 e), E.ent, by omega⟩, fun e2 e3 e5 e6 e7 e8 => by
    subst e2
    exact ⟨.inl (g3 e3), g5 e5, g6 e6, .inl (g8 e8), ⟨E.ent, by omega, E.good, hl, by omega, by omega, hp, by omega⟩, pl.map pL, .inl (g7 e7), prL_lst⟩⟩
  have W4 : ∀ u ∈ [wd b1 "kind", wd b2 "names", wd b3 "lives", wd b4 "marks"], wordU u := fun u hu => by
    simp only [List.mem_cons, List.not_mem_nil, or_false] at hu
    rcases hu with rfl | rfl | rfl | rfl <;> exact wd_word _ _
  have W6 : ∀ u ∈ [wd b2 "names", wd b3 "lives", wd b5 "numbers", wd b6 "numbers", wd b7 "borne", wd b8 "marks"], wordU u := fun u hu => by
    simp only [List.mem_cons, List.not_mem_nil, or_false] at hu
    rcases hu with rfl | rfl | rfl | rfl | rfl | rfl <;> exact wd_word _ _
  have c7 := (person_word (PA (h6 :: st))).trans (congrArg (fun x => Out.ok x (h6 :: st)) (pers_first b1 b2 b3 b4).symm)
  have c15 := (couple_word (CA (h12 :: st))).trans (congrArg (fun x => Out.ok x (h12 :: st)) (coup_firstU b2 b3 b5 b6 b7 b8).symm)
  have body := refuse_body (pk := m_u_law_pick) (sp := m_u_law_spoilt) (dr := m_u_law_draw) (pw := m_u_law_person_word) (cw := m_u_law_couple_word) (fs := m_u_law_first) (w1 := wd b1 "kind") (w2 := wd b2 "names") (w3 := wd b3 "lives") (w4 := wd b4 "marks") (w5 := wd b5 "numbers") (w6 := wd b6 "numbers") (w7 := wd b7 "borne") (w8 := wd b8 "marks")
    (lk := (eScope (eLst (aCons (eC (.str "s")) (aCons (eC (.str "d")) aNil))))) (bk := (eScope (eLst (aCons (eC (.str "x")) (aCons (eC .non) (aCons (eC (.str "")) (aCons (eC (.int 1)) (aCons (eC (.str "f")) aNil)))))))) (bn := (eScope (eLst (aCons (eScope (eLst (aCons (eC (.int 1)) aNil))) (aCons (eScope (eLst (aCons (eC (.int 0)) (aCons (eC (.int 2)) aNil)))) (aCons (eScope (eLst (aCons (eC (.bl true)) aNil))) (aCons (eScope (eLst (aCons (eUn fNeg (eC (.int 1))) aNil))) (aCons (eC (.str "01")) (aCons (eC .non) (aCons (eScope (eLst (aCons (eC (.int 0)) (aCons (eC (.str "a")) aNil)))) (aCons (eScope (eLst (aCons (eC (.int 0)) (aCons (eC (.int 1)) (aCons (eC (.int 3)) aNil))))) (aCons (eC (.int 0)) aNil)))))))))))) (bl := (eScope (eLst (aCons (eScope (eLst (aCons (eC (.str "living")) aNil))) (aCons (eC .non) (aCons (eC (.str "alive")) (aCons (eScope (eLst (aCons (eC (.int 0)) aNil))) (aCons (eScope (eLst (aCons (eC (.bl true)) aNil))) (aCons (eScope (eLst (aCons (eC (.str "dead")) (aCons (eC (.str "")) aNil)))) aNil))))))))) (bp := (eScope (eLst (aCons (eScope (eLst (aCons (eTup (aCons (eC (.int 9)) (aCons (eC (.int 0)) aNil))) aNil))) (aCons (eScope (eLst (aCons (eTup (aCons (eC (.int 0)) (aCons (eC (.int 3)) aNil))) aNil))) (aCons (eScope (eLst (aCons (eTup (aCons (eC (.int 0)) (aCons (eC (.int 0)) aNil))) (aCons (eTup (aCons (eC (.int 0)) (aCons (eC (.int 1)) aNil))) aNil)))) (aCons (eScope (eLst (aCons (eTup (aCons (eC (.int 1)) (aCons (eC (.int 0)) aNil))) (aCons (eTup (aCons (eC (.int 0)) (aCons (eC (.int 0)) aNil))) aNil)))) (aCons (eScope (eLst (aCons (eTup (aCons (eC (.int 0)) aNil)) aNil))) (aCons (eScope (eLst (aCons (eC (.int 0)) aNil))) (aCons (eC .non) (aCons (eScope (eLst (aCons (eTup (aCons (eC (.int 0)) (aCons (eC (.bl true)) aNil))) aNil))) (aCons (eC (.str "a")) (aCons (eScope (eLst (aCons (eTup (aCons (eUn fNeg (eC (.int 1))) (aCons (eC (.int 0)) aNil))) aNil))) (aCons (eScope (eLst (aCons (eTup (aCons (eC (.int 0)) (aCons (eC (.int 0)) (aCons (eC (.int 0)) aNil)))) aNil))) aNil)))))))))))))) (l3 := (eScope (eLst (aCons (eC (.int 0)) (aCons (eC (.int 1)) (aCons (eC (.int 1000)) aNil)))))) (bm := (eScope (eLst (aCons (eUn fNeg (eC (.int 1))) (aCons (eC (.int 1001)) (aCons (eC (.bl true)) (aCons (eC .non) (aCons (eC (.str "0")) aNil)))))))) (bs := (eScope (eLst (aCons (eC (.int 4)) (aCons (eUn fNeg (eC (.int 1))) (aCons (eC (.bl true)) (aCons (eC (.str "1")) (aCons (eC .non) aNil)))))))) (bd := (eScope (eLst (aCons (eC (.int 4)) (aCons (eUn fNeg (eC (.int 1))) (aCons (eC (.bl false)) (aCons (eC (.str "1")) (aCons (eC .non) aNil)))))))) (gm := (eScope (eLst (aCons (eC (.int 0)) (aCons (eC (.int 1000)) aNil))))) (b6 := (eScope (eLst (aCons (eTup (aCons (eC (.int 0)) aNil)) (aCons (eTup (aCons (eC (.int 0)) (aCons (eC (.int 1001)) aNil))) (aCons (eC .non) (aCons (eTup (aCons (eC (.int 0)) (aCons (eC (.bl true)) aNil))) (aCons (eScope (eLst (aCons (eC (.int 0)) (aCons (eC (.int 0)) (aCons (eC (.int 0)) aNil))))) (aCons (eC (.int 0)) aNil))))))))) (five := (eIf (NK.tB (eOp fIsN (eOp fIx (eVar 8) (eC (.int 1))) (eC .non))) (eVar 3) (eScope (eLst aNil)))) (pairs := U.lst (pl.map pL)) (p5 := fiveU (wd b2 "names") (U.lst (pl.map pL)))
    (fun env S => lit_lk) (fun env S => lit_bk) (fun env S => lit_bn) (fun env S => lit_bl) (fun env S => lit_bp) (fun env S => lit_l3) (fun env S => lit_bm) (fun env S => lit_bs) (fun env S => lit_bd) (fun env S => lit_gm) (fun env S => lit_b6) (fun env S => lit_five)
    c1 c2 c3 c4 c5 c6 c7 (first_ok W4 (by simp)) (ne_word (firstU_word W4)) c9 c10 c11 c12 c13 c14 c15 (first_ok W6 (by simp)) (eq_word (firstU_word W6))
    (wd_word _ _).under (wd_word _ _).under (wd_word _ _).under (wd_word _ _).under (wd_word _ _).under (wd_word _ _).under (wd_word _ _).under (wd_word _ _).under
  have body2 : b_u_law_refusals [some (U.loc 0), some (U.lst es), some (U.lst ls), some (U.lst (pl.map pL)), none, none, none, none, none, none, none, none, none, none, none, none] (h0 :: st) = SO.ret (U.bl true) (h12 :: st) := body
  exact ⟨h12, H12, fs_old (n := 16) (mb := b_u_law_refusals) rfl body2 (Old.hand H12.under) rfl⟩
/-! the law -/
theorem prs_asc {c : Int} : ∀ {us : List U} {l : Int}, prs c l us → ∃ pl, us = pl.map pL ∧ asc c l pl
  | [], _, _ => ⟨[], rfl, True.intro⟩
  | u :: us, l, ⟨k, m, e, a1, a2, a3, a4, h⟩ => by
    obtain ⟨pl, rfl, hp⟩ := prs_asc h
    exact ⟨(k, m) :: pl, by rw [e]; rfl, a1, a2, a3, a4, hp⟩
theorem turn_body {me ml mm mn mp mc md mr : MF} {x0 x2 e3 e4 e5 : Option U} {es ls : List U} {ps : U} {n s d : Int} {h h1 h2 h3 h4 h5 h6 h7 : Ob} {st : Sto}
    (c1 : me [U.loc 0] (h :: st) = Out.ok (U.lst es) (h1 :: st)) (c2 : ml [U.loc 0] (h1 :: st) = Out.ok (U.lst ls) (h2 :: st)) (c3 : mn [U.lst es] (h2 :: st) = Out.ok (U.int n) (h2 :: st)) (c4 : mm [U.loc 0, U.int n] (h2 :: st) = Out.ok ps (h3 :: st))
    (c5 : mp [U.loc 0, U.lst es, U.lst ls] (h3 :: st) = Out.ok (U.bl true) (h4 :: st)) (c6 : md [U.loc 0, U.int 4] (h4 :: st) = Out.ok (U.int s) (h5 :: st)) (c7 : md [U.loc 0, U.int 4] (h5 :: st) = Out.ok (U.int d) (h6 :: st))
    (c8 : mc [U.lst es, U.lst ls, U.int s, U.int d, ps] (h6 :: st) = Out.ok (U.bl true) (h6 :: st)) (c9 : mr [U.loc 0, U.lst es, U.lst ls, ps] (h6 :: st) = Out.ok (U.bl true) (h7 :: st)) :
    (sSeq (sAsg (eCall 1 me [] (aCons (eVar 1) aNil)) (gN 3))
    (sSeq (sAsg (eCall 1 ml [] (aCons (eVar 1) aNil)) (gN 4))
    (sSeq (sAsg (eCall 2 mm [] (aCons (eVar 1) (aCons (eCall 1 mn [] (aCons (eVar 3) aNil)) aNil))) (gN 5))
    (sSeq (sIf (tNot (tTru (eCall 3 mp [] (aCons (eVar 1) (aCons (eVar 3) (aCons (eVar 4) aNil)))))) (sRet (eC (.bl false))) sNext)
    (sSeq (sIf (tNot (tTru (eCall 5 mc [] (aCons (eVar 3) (aCons (eVar 4) (aCons (eCall 2 md [] (aCons (eVar 1) (aCons (eC (.int 4)) aNil))) (aCons (eCall 2 md [] (aCons (eVar 1) (aCons (eC (.int 4)) aNil))) (aCons (eVar 5) aNil)))))))) (sRet (eC (.bl false))) sNext)
    (sIf (tNot (tTru (eCall 4 mr [] (aCons (eVar 1) (aCons (eVar 3) (aCons (eVar 4) (aCons (eVar 5) aNil))))))) (sRet (eC (.bl false))) sNext)))))) [x0, some (U.loc 0), x2, e3, e4, e5] (h :: st) = SO.next [x0, some (U.loc 0), x2, some (U.lst es), some (U.lst ls), some ps] (h7 :: st) := by
  simp (maxDischargeDepth := 8) -implicitDefEqProofs only [sSeq, sIf, sAsg, sRet, sDrop, sSetIx, sNext, sCont, NK.tAnd, NK.tOr, NK.tNot, NK.tTru, NK.tB, eOp, eUn, eCB, eIf, eAnd, eOr, eNot, eVar, eC, aCons, aNil, gN, ob, xb, NK.os, NK.xs, nb, rb, kb, eb, List.getElem?_cons_zero, List.getElem?_cons_succ, List.set_cons_zero, List.set_cons_succ, ↓reduceIte, Bool.false_eq_true, Bool.not_true, Bool.not_false, fAdd_i, fSub_i, fNeg_i, fInt_i, fAbs_i, fLt_i, fLe_i, fGt_i, fMin_i, fIsN_n, fNotN_n, fLen_lst, fLen_tup, fTuple_lst, fTuple_tup, U.isNon, truth, fMod_i, fDiv_i, fMul_i, Int.reduceLT, Int.reduceNeg, Int.reducePow, Int.reduceLE, or_true, true_or, and_self, and_true, true_and, eCall, List.append_nil, List.length_cons, List.length_nil, Nat.reduceAdd, Nat.zero_add, c1, c2, c3, c4, c5, c6, c7, c8, c9]
theorem turn_ok {x0 x2 e3 e4 e5 : Option U} {h : Ob} {st : Sto} (H : HOb h) : ∃ h' f3 f4 f5, HOb h' ∧ l_law_1 [x0, some (U.loc 0), x2, e3, e4, e5] (h :: st) = SO.next [x0, some (U.loc 0), x2, f3, f4, f5] (h' :: st) := by
  obtain ⟨es, h1, H1, E, c1⟩ := entries_drawn (st := st) H
  obtain ⟨ls, h2, H2, hl, ll, c2⟩ := lives_drawn (st := st) H1
  have le := E.len
  have nle := ncls_le es
  obtain ⟨ps, h3, H3, hp, c4⟩ := marks_drawn (st := st) (c := ncls es) (by omega) H2
  obtain ⟨pl, rfl, ha⟩ := prs_asc hp
  obtain ⟨h4, H4, c5⟩ := person_right (st := st) H3 E hl (by omega)
  obtain ⟨s, h5, H5, s0, s1, c6⟩ := draw_ok (st := st) (m := 4) H4 (by decide) (by decide)
  obtain ⟨d, h6, H6, d0, d1, c7⟩ := draw_ok (st := st) (m := 4) H5 (by decide) (by decide)
  obtain ⟨h7, H7, c9⟩ := refusals_ok (st := st) H6 E hl ha
  exact ⟨h7, _, _, _, H7, turn_body c1 c2 (many_ok E.ent (by omega)) c4 c5 c6 c7 (couple_right E hl (by omega) (by omega) (by omega) ha) c9⟩
theorem law_body {hd pr cr : MF} {lo : MS} {x : U} {h h1 h2 : Ob} {e2 e3 e4 e5 : Option U} (c1 : hd [x] [] = Out.ok (U.loc 0) [h]) (c2 : lo [some x, some (U.loc 0), none, none, none, none] [h] = SO.next [some x, some (U.loc 0), e2, e3, e4, e5] [h1])
    (c3 : pr [U.loc 0, U.lst [], U.lst []] [h1] = Out.ok (U.bl true) [h2]) (c4 : cr [U.lst [U.non], U.lst [], U.int 0, U.int 0, U.lst []] [h2] = Out.ok (U.bl true) [h2]) :
    (sSeq (sAsg (eCall 1 hd [] (aCons (eVar 0) aNil)) (gN 1))
    (sSeq lo
    (sRet (eAnd (eCall 3 pr [] (aCons (eVar 1) (aCons (eScope (eLst aNil)) (aCons (eScope (eLst aNil)) aNil)))) (eCall 5 cr [] (aCons (eScope (eLst (aCons (eC .non) aNil))) (aCons (eScope (eLst aNil)) (aCons (eC (.int 0)) (aCons (eC (.int 0)) (aCons (eScope (eLst aNil)) aNil)))))))))) [some x, none, none, none, none, none] [] = SO.ret (U.bl true) [h2] := by
  simp (maxDischargeDepth := 8) -implicitDefEqProofs only [sSeq, sIf, sAsg, sRet, sDrop, sSetIx, sNext, sCont, NK.tAnd, NK.tOr, NK.tNot, NK.tTru, NK.tB, eOp, eUn, eCB, eIf, eAnd, eOr, eNot, eVar, eC, aCons, aNil, gN, ob, xb, NK.os, NK.xs, nb, rb, kb, eb, List.getElem?_cons_zero, List.getElem?_cons_succ, List.set_cons_zero, List.set_cons_succ, ↓reduceIte, Bool.false_eq_true, Bool.not_true, Bool.not_false, fAdd_i, fSub_i, fNeg_i, fInt_i, fAbs_i, fLt_i, fLe_i, fGt_i, fMin_i, fIsN_n, fNotN_n, fLen_lst, fLen_tup, fTuple_lst, fTuple_tup, U.isNon, truth, fMod_i, fDiv_i, fMul_i, Int.reduceLT, Int.reduceNeg, Int.reducePow, Int.reduceLE, or_true, true_or, and_self, and_true, true_and, eCall, List.append_nil, List.length_cons, List.length_nil, Nat.reduceAdd, Nat.zero_add, esl, lstK_ok, Nat.reduceLeDiff, sc_lit, U.underL, U.under, Bool.and_self, sc_nil, c1, c2, c3, c4]
theorem law_true (ns : List Int) (hn : ns.length ≤ 63) : m_law [U.scr (ns.map U.int)] [] = Out.ok (U.bl true) [] := by
  obtain ⟨h, H, c1⟩ := hand_ok ns hn
  obtain ⟨h1, f3, f4, f5, H1, t1⟩ := turn_ok (x0 := some (U.scr (ns.map U.int))) (x2 := some (U.int (0 + ((0 : Nat) : Int)))) (e3 := none) (e4 := none) (e5 := none) (st := []) H
  obtain ⟨h2, k3, k4, k5, H2, t2⟩ := turn_ok (x0 := some (U.scr (ns.map U.int))) (x2 := some (U.int (0 + ((1 : Nat) : Int)))) (e3 := f3) (e4 := f4) (e5 := f5) (st := []) H1
  have lo : (sFor (iRng1 (aCons (eC (.int 2)) aNil)) (gN 2) l_law_1) [some (U.scr (ns.map U.int)), some (U.loc 0), none, none, none, none] [h] = SO.next [some (U.scr (ns.map U.int)), some (U.loc 0), some (U.int (0 + ((1 : Nat) : Int))), k3, k4, k5] [h2] :=
    sFor_ok (rng_ok (n := 2) rfl (by decide)) (by
      show forM _ _ _ [U.int (0 + ((0 : Nat) : Int)), U.int (0 + ((1 : Nat) : Int))] _ _ = _
      rw [forM_n (env1 := [some (U.scr (ns.map U.int)), some (U.loc 0), some (U.int (0 + ((0 : Nat) : Int))), none, none, none]) True.intro rfl t1, forM_n (env1 := [some (U.scr (ns.map U.int)), some (U.loc 0), some (U.int (0 + ((1 : Nat) : Int))), f3, f4, f5]) True.intro rfl t2]
      exact forM_nil True.intro)
  have E0 : Ents [] := ⟨(fun _ h => nomatch h), Nat.zero_le _, rfl⟩
  have E1 : Ents [U.non] := ⟨(fun u hu => by rw [List.mem_singleton.mp hu]; exact .inl rfl), by decide, rfl⟩
  obtain ⟨h3, H3, c3⟩ := person_right (st := []) (ls := []) H2 E0 (fun u hu => by cases hu) (by decide)
  have c4 := couple_right (S := [h3]) (s := 0) (d := 0) (pl := []) (ls := []) E1 (fun u hu => by cases hu) (by decide) (by decide) (by decide) True.intro
  have body : b_law [some (U.scr (ns.map U.int)), none, none, none, none, none] [] = SO.ret (U.bl true) [h3] := law_body c1 lo c3 c4
  exact fs_val (n := 6) (mb := b_law) (st2 := []) (ext := [h3]) rfl body (Old.refl []) rfl
end G

set_option Elab.async false
set_option linter.all false
set_option maxRecDepth 100000
set_option maxHeartbeats 4000000
/-! The end: what the top has written, and the law. -/
namespace G
open PySem L2 NK
theorem kit_ref {K : PySem.W.Frag} {C : Addr} {t : Value} {b : Bool} (hne : (t == .ref C) = true → b = true) (hc : PySem.W.isClsIn K C = true) (ht : PySem.W.typeIn K (.ref C) = some (.type "type")) (hs : PySem.W.subIn K t (.ref C) = some b) : PySem.W.kitOne K t (.ref C) = some b := by
  unfold PySem.W.kitOne
  split
  · rename_i h
    rw [hne h]
  · have hc' : (PySem.W.clsIn K C).isSome = true := hc
    have e2 : ((PySem.W.clsIn K C).isSome && PySem.W.typeIn K (.ref C) == some (.type "type")) = true := by
      rw [hc', ht]
      rfl
    show (if ((PySem.W.clsIn K C).isSome && PySem.W.typeIn K (.ref C) == some (.type "type")) = true then PySem.W.subIn K t (.ref C) else none) = some b
    rw [if_pos e2]
    exact hs
theorem lookup_mem {l : List (Str × NameKind)} {y : Str} {v : NameKind} (h : l.lookup y = some v) : (y, v) ∈ l := by
  induction l with
  | nil => cases h
  | cons p l ih =>
    obtain ⟨x, u⟩ := p
    rw [List.lookup] at h
    split at h
    · rename_i e
      cases h
      rw [beq_iff_eq.mp e]
      exact List.mem_cons_self
    · exact List.mem_cons_of_mem _ (ih h)
theorem binds_full {K : PySem.W.Frag} {x qual : Str} {params : Arguments} {body : List Stmt} {scope : Scope} {dvs : List V} {kws : List (Str × V)} {f : Addr} {fd : FuncData} {ps : List Str} (F : FunD K x qual params body scope dvs kws f fd) (hd : dvs ≠ [])
    (h : ∀ (T : Addr) (kV doc pm : Value) (an : Option Addr) (cdv ct : Value) (us its : List Value), us.length = ps.length → its.length = dvs.length →
      ∃ k, bindArgs (PySem.W.fnOf x qual params body scope (.ref T) kV doc pm an cdv ct) ⟨us, []⟩ = seqItems? (.ref T) >>= k ∧ k (some its.toArray) = pure (ps.zip (us ++ its.drop dvs.length))) : Binds K fd ps [] := by
  obtain ⟨ds, e, b⟩ := F.binds1 ps.length dvs.length hd (by omega) h
  rw [List.drop_length] at e
  cases e
  exact b
def spLaw (K : PySem.W.Frag) : Sp := fun vs H Q _ => ∃ (a : Addr) (ns : List Int), vs = [V.ref a] ∧ SqL K H a (ns.map V.int) ∧ ns.length ≤ 63 ∧ ∀ H', Q (V.bl true) H'
theorem law_spec {w : World} {K : PySem.W.Frag} {a : Ad} (vs : List V) (H : Hp) (Q : VK) (E : XK) (h : spLaw K vs H Q E) : spOf (tb w K a) 1 m_law vs H Q E := by
  obtain ⟨b, ns, rfl, hS, hl, k⟩ := h
  refine ⟨rfl, ⟨fun _ => 0, 0, H⟩, _, [], ⟨rfl, fun b o q => q, fun i o q => by simp at q, fun i j x y q => by simp at q⟩, .one (.scr hS (rpl_ints ns)), ?_⟩
  rw [law_true ns hl]
  intro c' v H' _ _ r
  cases r.inv_bl
  exact k H'

theorem all_mk {w : World} {K : PySem.W.Frag} {h : Heap} {mg : Str → Option Value} {fa : Addr} (X : K.In h) (G : h.Ns mainGlobals mg) (hfa : mg "law" = some (.ref fa))
    {tk_MOST_MARK : _}
    {tk_MOST_PLACES : _}
    {C_CustomError C_BadState C_PersonState C_CoupleState : Addr}
    {f_u_law_hand f_u_law_mix f_u_law_draw f_u_law_classes f_u_law_pick f_u_law_entries f_u_law_drawn_lives f_u_law_drawn_marks f_entries_fault f_BadState___init f_check_entries f_check_life_row f_is_whole f_check_marks f_is_kind f_PersonState___init f_PersonState___eq f_u_law_person_right f_check_borne f_CoupleState___init f_CoupleState___eq f_u_law_many f_CoupleState_mark_of f_u_law_couple_right f_u_law_spoilt f_u_law_couple_word f_u_law_person_word f_u_law_first f_u_law_refusals f_law : Addr}
    {od_u_law_hand an_u_law_hand : Option Addr} {sl_u_law_hand : Array (Option Value)} {oc_u_law_hand kV_u_law_hand dc_u_law_hand pm_u_law_hand ct_u_law_hand : Value}
    {cd_u_law_hand : Value}
    {od_u_law_mix an_u_law_mix : Option Addr} {sl_u_law_mix : Array (Option Value)} {oc_u_law_mix kV_u_law_mix dc_u_law_mix pm_u_law_mix ct_u_law_mix : Value}
    {cd_u_law_mix : Value}
    {od_u_law_draw an_u_law_draw : Option Addr} {sl_u_law_draw : Array (Option Value)} {oc_u_law_draw kV_u_law_draw dc_u_law_draw pm_u_law_draw ct_u_law_draw : Value}
    {cd_u_law_draw : Value}
    {od_u_law_classes an_u_law_classes : Option Addr} {sl_u_law_classes : Array (Option Value)} {oc_u_law_classes kV_u_law_classes dc_u_law_classes pm_u_law_classes ct_u_law_classes : Value}
    {cd_u_law_classes : Value}
    {od_u_law_pick an_u_law_pick : Option Addr} {sl_u_law_pick : Array (Option Value)} {oc_u_law_pick kV_u_law_pick dc_u_law_pick pm_u_law_pick ct_u_law_pick : Value}
    {cd_u_law_pick : Value}
    {od_u_law_entries an_u_law_entries : Option Addr} {sl_u_law_entries : Array (Option Value)} {oc_u_law_entries kV_u_law_entries dc_u_law_entries pm_u_law_entries ct_u_law_entries : Value}
    {cd_u_law_entries : Value}
    {od_u_law_drawn_lives an_u_law_drawn_lives : Option Addr} {sl_u_law_drawn_lives : Array (Option Value)} {oc_u_law_drawn_lives kV_u_law_drawn_lives dc_u_law_drawn_lives pm_u_law_drawn_lives ct_u_law_drawn_lives : Value}
    {cd_u_law_drawn_lives : Value}
    {od_u_law_drawn_marks an_u_law_drawn_marks : Option Addr} {sl_u_law_drawn_marks : Array (Option Value)} {oc_u_law_drawn_marks kV_u_law_drawn_marks dc_u_law_drawn_marks pm_u_law_drawn_marks ct_u_law_drawn_marks : Value}
    {cd_u_law_drawn_marks : Value}
    {od_entries_fault an_entries_fault : Option Addr} {sl_entries_fault : Array (Option Value)} {oc_entries_fault kV_entries_fault dc_entries_fault pm_entries_fault ct_entries_fault : Value}
    {cd_entries_fault : Value}
    {od_BadState___init an_BadState___init : Option Addr} {sl_BadState___init : Array (Option Value)} {oc_BadState___init kV_BadState___init dc_BadState___init pm_BadState___init ct_BadState___init : Value}
    {cda_BadState cc_BadState : Addr}
    {ccl_BadState : Value} {cdd_BadState : Option Addr} {vs_BadState : Array Value} {ccs_BadState : Array (Option Value)} {file_BadState : Str} {tf_BadState : _} {cl_BadState : Value} {cld_BadState : Option Addr} {csl_BadState : Array (Option Value)}
    {nm_BadState q_BadState : Str} {N_BadState : Addr} {bs_BadState sub_BadState : List Value} {sn_BadState : List Str} {ab_BadState : Bool} {col_BadState : Option Bool} {dd_BadState : Option Addr} {m0_BadState m1_BadState m2_BadState m3_BadState m5_BadState : Option Value}
    {od_check_entries an_check_entries : Option Addr} {sl_check_entries : Array (Option Value)} {oc_check_entries kV_check_entries dc_check_entries pm_check_entries ct_check_entries : Value}
    {cd_check_entries : Value}
    {od_check_life_row an_check_life_row : Option Addr} {sl_check_life_row : Array (Option Value)} {oc_check_life_row kV_check_life_row dc_check_life_row pm_check_life_row ct_check_life_row : Value}
    {cd_check_life_row : Value}
    {od_is_whole an_is_whole : Option Addr} {sl_is_whole : Array (Option Value)} {oc_is_whole kV_is_whole dc_is_whole pm_is_whole ct_is_whole : Value}
    {cd_is_whole : Value}
    {od_check_marks an_check_marks : Option Addr} {sl_check_marks : Array (Option Value)} {oc_check_marks kV_check_marks dc_check_marks pm_check_marks ct_check_marks : Value}
    {cd_check_marks : Value}
    {od_is_kind an_is_kind : Option Addr} {sl_is_kind : Array (Option Value)} {oc_is_kind kV_is_kind dc_is_kind pm_is_kind ct_is_kind : Value}
    {cd_is_kind : Value}
    {od_PersonState___init an_PersonState___init : Option Addr} {sl_PersonState___init : Array (Option Value)} {oc_PersonState___init kV_PersonState___init dc_PersonState___init pm_PersonState___init ct_PersonState___init : Value}
    {cd_PersonState___init : Value}
    {T_PersonState___init : Addr} {tc_PersonState___init : Value} {td_PersonState___init : Option Addr} {tn_PersonState___init : Nat} {tsl_PersonState___init : Array (Option Value)} {tt_PersonState___init : _}
    {od_PersonState___eq an_PersonState___eq : Option Addr} {sl_PersonState___eq : Array (Option Value)} {oc_PersonState___eq kV_PersonState___eq dc_PersonState___eq pm_PersonState___eq ct_PersonState___eq : Value}
    {cd_PersonState___eq : Value}
    {od_u_law_person_right an_u_law_person_right : Option Addr} {sl_u_law_person_right : Array (Option Value)} {oc_u_law_person_right kV_u_law_person_right dc_u_law_person_right pm_u_law_person_right ct_u_law_person_right : Value}
    {cd_u_law_person_right : Value}
    {od_check_borne an_check_borne : Option Addr} {sl_check_borne : Array (Option Value)} {oc_check_borne kV_check_borne dc_check_borne pm_check_borne ct_check_borne : Value}
    {cd_check_borne : Value}
    {od_CoupleState___init an_CoupleState___init : Option Addr} {sl_CoupleState___init : Array (Option Value)} {oc_CoupleState___init kV_CoupleState___init dc_CoupleState___init pm_CoupleState___init ct_CoupleState___init : Value}
    {cd_CoupleState___init : Value}
    {T_CoupleState___init : Addr} {tc_CoupleState___init : Value} {td_CoupleState___init : Option Addr} {tn_CoupleState___init : Nat} {tsl_CoupleState___init : Array (Option Value)} {tt_CoupleState___init : _}
    {U_CoupleState___init : Addr} {ud_CoupleState___init : Option Addr} {un_CoupleState___init : Nat} {usl_CoupleState___init : Array (Option Value)} {ut_CoupleState___init : _}
    {od_CoupleState___eq an_CoupleState___eq : Option Addr} {sl_CoupleState___eq : Array (Option Value)} {oc_CoupleState___eq kV_CoupleState___eq dc_CoupleState___eq pm_CoupleState___eq ct_CoupleState___eq : Value}
    {cd_CoupleState___eq : Value}
    {od_u_law_many an_u_law_many : Option Addr} {sl_u_law_many : Array (Option Value)} {oc_u_law_many kV_u_law_many dc_u_law_many pm_u_law_many ct_u_law_many : Value}
    {cd_u_law_many : Value}
    {od_CoupleState_mark_of an_CoupleState_mark_of : Option Addr} {sl_CoupleState_mark_of : Array (Option Value)} {oc_CoupleState_mark_of kV_CoupleState_mark_of dc_CoupleState_mark_of pm_CoupleState_mark_of ct_CoupleState_mark_of : Value}
    {cd_CoupleState_mark_of : Value}
    {od_u_law_couple_right an_u_law_couple_right : Option Addr} {sl_u_law_couple_right : Array (Option Value)} {oc_u_law_couple_right kV_u_law_couple_right dc_u_law_couple_right pm_u_law_couple_right ct_u_law_couple_right : Value}
    {cd_u_law_couple_right : Value}
    {od_u_law_spoilt an_u_law_spoilt : Option Addr} {sl_u_law_spoilt : Array (Option Value)} {oc_u_law_spoilt kV_u_law_spoilt dc_u_law_spoilt pm_u_law_spoilt ct_u_law_spoilt : Value}
    {cd_u_law_spoilt : Value}
    {od_u_law_couple_word an_u_law_couple_word : Option Addr} {sl_u_law_couple_word : Array (Option Value)} {oc_u_law_couple_word kV_u_law_couple_word dc_u_law_couple_word pm_u_law_couple_word ct_u_law_couple_word : Value}
    {cd_u_law_couple_word : Value}
    {od_u_law_person_word an_u_law_person_word : Option Addr} {sl_u_law_person_word : Array (Option Value)} {oc_u_law_person_word kV_u_law_person_word dc_u_law_person_word pm_u_law_person_word ct_u_law_person_word : Value}
    {cd_u_law_person_word : Value}
    {od_u_law_first an_u_law_first : Option Addr} {sl_u_law_first : Array (Option Value)} {oc_u_law_first kV_u_law_first dc_u_law_first pm_u_law_first ct_u_law_first : Value}
    {cd_u_law_first : Value}
    {od_u_law_refusals an_u_law_refusals : Option Addr} {sl_u_law_refusals : Array (Option Value)} {oc_u_law_refusals kV_u_law_refusals dc_u_law_refusals pm_u_law_refusals ct_u_law_refusals : Value}
    {cd_u_law_refusals : Value}
    {od_law an_law : Option Addr} {sl_law : Array (Option Value)} {oc_law kV_law dc_law pm_law ct_law : Value}
    {cd_law : Value}
    (z_abs : PySem.W.nsIn K mainGlobals "abs" = some none)
    (z_bool : PySem.W.nsIn K mainGlobals "bool" = some none)
    (z_enumerate : PySem.W.nsIn K mainGlobals "enumerate" = some none)
    (z_int : PySem.W.nsIn K mainGlobals "int" = some none)
    (z_isinstance : PySem.W.nsIn K mainGlobals "isinstance" = some none)
    (z_len : PySem.W.nsIn K mainGlobals "len" = some none)
    (z_list : PySem.W.nsIn K mainGlobals "list" = some none)
    (z_min : PySem.W.nsIn K mainGlobals "min" = some none)
    (z_range : PySem.W.nsIn K mainGlobals "range" = some none)
    (z_str : PySem.W.nsIn K mainGlobals "str" = some none)
    (z_sum : PySem.W.nsIn K mainGlobals "sum" = some none)
    (z_super : PySem.W.nsIn K mainGlobals "super" = some none)
    (z_tuple : PySem.W.nsIn K mainGlobals "tuple" = some none)
    (g_MOST_MARK : PySem.W.nsIn K mainGlobals "MOST_MARK" = some (some (.int 1000 tk_MOST_MARK)))
    (g_MOST_PLACES : PySem.W.nsIn K mainGlobals "MOST_PLACES" = some (some (.int 40 tk_MOST_PLACES)))
    (a_CustomError : PySem.W.nsIn K mainGlobals "CustomError" = some (some (.ref C_CustomError)))
    (a_BadState : PySem.W.nsIn K mainGlobals "BadState" = some (some (.ref C_BadState)))
    (a_PersonState : PySem.W.nsIn K mainGlobals "PersonState" = some (some (.ref C_PersonState)))
    (a_CoupleState : PySem.W.nsIn K mainGlobals "CoupleState" = some (some (.ref C_CoupleState)))
    (a_u_law_hand : PySem.W.nsIn K mainGlobals "_law_hand" = some (some (.ref f_u_law_hand)))
    (l_u_law_hand : K.lookup f_u_law_hand = some ⟨oc_u_law_hand, od_u_law_hand, .func (PySem.W.fnOf "_law_hand" "_law_hand" (defArgs s_u_law_hand) (defBody s_u_law_hand) (defScope s_u_law_hand) .none kV_u_law_hand dc_u_law_hand pm_u_law_hand an_u_law_hand cd_u_law_hand ct_u_law_hand), sl_u_law_hand⟩)
    (c_u_law_hand : PySem.W.codeIn K cd_u_law_hand "_law_hand" = true)
    (k_u_law_hand : PySem.W.keepIn K (.ref f_u_law_hand) = true)
    (a_u_law_mix : PySem.W.nsIn K mainGlobals "_law_mix" = some (some (.ref f_u_law_mix)))
    (l_u_law_mix : K.lookup f_u_law_mix = some ⟨oc_u_law_mix, od_u_law_mix, .func (PySem.W.fnOf "_law_mix" "_law_mix" (defArgs s_u_law_mix) (defBody s_u_law_mix) (defScope s_u_law_mix) .none kV_u_law_mix dc_u_law_mix pm_u_law_mix an_u_law_mix cd_u_law_mix ct_u_law_mix), sl_u_law_mix⟩)
    (c_u_law_mix : PySem.W.codeIn K cd_u_law_mix "_law_mix" = true)
    (k_u_law_mix : PySem.W.keepIn K (.ref f_u_law_mix) = true)
    (a_u_law_draw : PySem.W.nsIn K mainGlobals "_law_draw" = some (some (.ref f_u_law_draw)))
    (l_u_law_draw : K.lookup f_u_law_draw = some ⟨oc_u_law_draw, od_u_law_draw, .func (PySem.W.fnOf "_law_draw" "_law_draw" (defArgs s_u_law_draw) (defBody s_u_law_draw) (defScope s_u_law_draw) .none kV_u_law_draw dc_u_law_draw pm_u_law_draw an_u_law_draw cd_u_law_draw ct_u_law_draw), sl_u_law_draw⟩)
    (c_u_law_draw : PySem.W.codeIn K cd_u_law_draw "_law_draw" = true)
    (k_u_law_draw : PySem.W.keepIn K (.ref f_u_law_draw) = true)
    (a_u_law_classes : PySem.W.nsIn K mainGlobals "_law_classes" = some (some (.ref f_u_law_classes)))
    (l_u_law_classes : K.lookup f_u_law_classes = some ⟨oc_u_law_classes, od_u_law_classes, .func (PySem.W.fnOf "_law_classes" "_law_classes" (defArgs s_u_law_classes) (defBody s_u_law_classes) (defScope s_u_law_classes) .none kV_u_law_classes dc_u_law_classes pm_u_law_classes an_u_law_classes cd_u_law_classes ct_u_law_classes), sl_u_law_classes⟩)
    (c_u_law_classes : PySem.W.codeIn K cd_u_law_classes "_law_classes" = true)
    (k_u_law_classes : PySem.W.keepIn K (.ref f_u_law_classes) = true)
    (a_u_law_pick : PySem.W.nsIn K mainGlobals "_law_pick" = some (some (.ref f_u_law_pick)))
    (l_u_law_pick : K.lookup f_u_law_pick = some ⟨oc_u_law_pick, od_u_law_pick, .func (PySem.W.fnOf "_law_pick" "_law_pick" (defArgs s_u_law_pick) (defBody s_u_law_pick) (defScope s_u_law_pick) .none kV_u_law_pick dc_u_law_pick pm_u_law_pick an_u_law_pick cd_u_law_pick ct_u_law_pick), sl_u_law_pick⟩)
    (c_u_law_pick : PySem.W.codeIn K cd_u_law_pick "_law_pick" = true)
    (k_u_law_pick : PySem.W.keepIn K (.ref f_u_law_pick) = true)
    (a_u_law_entries : PySem.W.nsIn K mainGlobals "_law_entries" = some (some (.ref f_u_law_entries)))
    (l_u_law_entries : K.lookup f_u_law_entries = some ⟨oc_u_law_entries, od_u_law_entries, .func (PySem.W.fnOf "_law_entries" "_law_entries" (defArgs s_u_law_entries) (defBody s_u_law_entries) (defScope s_u_law_entries) .none kV_u_law_entries dc_u_law_entries pm_u_law_entries an_u_law_entries cd_u_law_entries ct_u_law_entries), sl_u_law_entries⟩)
    (c_u_law_entries : PySem.W.codeIn K cd_u_law_entries "_law_entries" = true)
    (k_u_law_entries : PySem.W.keepIn K (.ref f_u_law_entries) = true)
    (a_u_law_drawn_lives : PySem.W.nsIn K mainGlobals "_law_drawn_lives" = some (some (.ref f_u_law_drawn_lives)))
    (l_u_law_drawn_lives : K.lookup f_u_law_drawn_lives = some ⟨oc_u_law_drawn_lives, od_u_law_drawn_lives, .func (PySem.W.fnOf "_law_drawn_lives" "_law_drawn_lives" (defArgs s_u_law_drawn_lives) (defBody s_u_law_drawn_lives) (defScope s_u_law_drawn_lives) .none kV_u_law_drawn_lives dc_u_law_drawn_lives pm_u_law_drawn_lives an_u_law_drawn_lives cd_u_law_drawn_lives ct_u_law_drawn_lives), sl_u_law_drawn_lives⟩)
    (c_u_law_drawn_lives : PySem.W.codeIn K cd_u_law_drawn_lives "_law_drawn_lives" = true)
    (k_u_law_drawn_lives : PySem.W.keepIn K (.ref f_u_law_drawn_lives) = true)
    (a_u_law_drawn_marks : PySem.W.nsIn K mainGlobals "_law_drawn_marks" = some (some (.ref f_u_law_drawn_marks)))
    (l_u_law_drawn_marks : K.lookup f_u_law_drawn_marks = some ⟨oc_u_law_drawn_marks, od_u_law_drawn_marks, .func (PySem.W.fnOf "_law_drawn_marks" "_law_drawn_marks" (defArgs s_u_law_drawn_marks) (defBody s_u_law_drawn_marks) (defScope s_u_law_drawn_marks) .none kV_u_law_drawn_marks dc_u_law_drawn_marks pm_u_law_drawn_marks an_u_law_drawn_marks cd_u_law_drawn_marks ct_u_law_drawn_marks), sl_u_law_drawn_marks⟩)
    (c_u_law_drawn_marks : PySem.W.codeIn K cd_u_law_drawn_marks "_law_drawn_marks" = true)
    (k_u_law_drawn_marks : PySem.W.keepIn K (.ref f_u_law_drawn_marks) = true)
    (a_entries_fault : PySem.W.nsIn K mainGlobals "entries_fault" = some (some (.ref f_entries_fault)))
    (l_entries_fault : K.lookup f_entries_fault = some ⟨oc_entries_fault, od_entries_fault, .func (PySem.W.fnOf "entries_fault" "entries_fault" (defArgs s_entries_fault) (defBody s_entries_fault) (defScope s_entries_fault) .none kV_entries_fault dc_entries_fault pm_entries_fault an_entries_fault cd_entries_fault ct_entries_fault), sl_entries_fault⟩)
    (c_entries_fault : PySem.W.codeIn K cd_entries_fault "entries_fault" = true)
    (k_entries_fault : PySem.W.keepIn K (.ref f_entries_fault) = true)
    (a_BadState___init : PySem.W.findIn K (.ref C_BadState) "__init__" = some (some (.ref f_BadState___init)))
    (t_BadState___init : PySem.W.typeIn K (.ref f_BadState___init) = some (.type "function"))
    (l_BadState___init : K.lookup f_BadState___init = some ⟨oc_BadState___init, od_BadState___init, .func (PySem.W.ksFn "__init__" "BadState.__init__" (defArgs s_BadState___init) (defBody s_BadState___init) (defScope s_BadState___init) .none kV_BadState___init dc_BadState___init pm_BadState___init an_BadState___init (.ref cda_BadState) ct_BadState___init cc_BadState), sl_BadState___init⟩)
    (c_BadState___init : PySem.W.codeIn K (.ref cda_BadState) "BadState.__init__" = true)
    (k1_BadState : K.lookup cda_BadState = some ⟨ccl_BadState, cdd_BadState, .fields vs_BadState, ccs_BadState⟩)
    (k2_BadState : vs_BadState[2]? = some (.str file_BadState tf_BadState))
    (k3_BadState : ((PW.main.file : Str) == file_BadState) = true)
    (k4_BadState : K.lookup cc_BadState = some ⟨cl_BadState, cld_BadState, .cell (some (.ref C_BadState)), csl_BadState⟩)
    (x_BadState : K.lookup C_BadState = some (excClassObj nm_BadState q_BadState C_BadState N_BadState bs_BadState [.ref C_CustomError, .type "ValueError", .type "Exception", .type "BaseException", .type "object"] true sn_BadState sub_BadState ab_BadState col_BadState dd_BadState m0_BadState m1_BadState m2_BadState m3_BadState m5_BadState "ValueError.__new__"))
    (sa_BadState : PySem.W.findIn K (.ref C_BadState) "__setattr__" = some (some (.builtin "object.__setattr__")))
    (ex_BadState : PySem.W.subIn K (.ref C_BadState) (.type "BaseException") = some true)
    (ty_BadState : PySem.W.typeIn K (.ref C_BadState) = some (.type "type"))
    (kc_BadState : PySem.W.keepIn K (.ref C_BadState) = true)
    (ga_BadState : PySem.W.findIn K (.ref C_BadState) "__getattribute__" = some (some (.builtin "BaseException.__getattribute__")))
    (gg_BadState : PySem.W.findIn K (.ref C_BadState) "__getattr__" = some none)
    (hd_BadState : PySem.W.hasDictIn K C_BadState = true)
    (su_BadState : PySem.W.ks_superIn K C_BadState C_BadState "__init__" = some (some (.builtin "ValueError.__init__")))
    (iv_BadState : PySem.W.subIn K (.ref C_BadState) (.type "ValueError") = some true)
    (se_BadState : PySem.W.mroIn K C_BadState (.ref C_BadState) = some true)
    (opq : PySem.W.nsIn K cStatics "thirdparty.any" = some none)
    (u_BadState : (PW.main.scope.names.lookup ("super" : Str)).isSome = false)
    (n_BadState_what : PySem.W.findIn K (.ref C_BadState) "what" = some none)
    (a_check_entries : PySem.W.nsIn K mainGlobals "check_entries" = some (some (.ref f_check_entries)))
    (l_check_entries : K.lookup f_check_entries = some ⟨oc_check_entries, od_check_entries, .func (PySem.W.fnOf "check_entries" "check_entries" (defArgs s_check_entries) (defBody s_check_entries) (defScope s_check_entries) .none kV_check_entries dc_check_entries pm_check_entries an_check_entries cd_check_entries ct_check_entries), sl_check_entries⟩)
    (c_check_entries : PySem.W.codeIn K cd_check_entries "check_entries" = true)
    (k_check_entries : PySem.W.keepIn K (.ref f_check_entries) = true)
    (a_check_life_row : PySem.W.nsIn K mainGlobals "check_life_row" = some (some (.ref f_check_life_row)))
    (l_check_life_row : K.lookup f_check_life_row = some ⟨oc_check_life_row, od_check_life_row, .func (PySem.W.fnOf "check_life_row" "check_life_row" (defArgs s_check_life_row) (defBody s_check_life_row) (defScope s_check_life_row) .none kV_check_life_row dc_check_life_row pm_check_life_row an_check_life_row cd_check_life_row ct_check_life_row), sl_check_life_row⟩)
    (c_check_life_row : PySem.W.codeIn K cd_check_life_row "check_life_row" = true)
    (k_check_life_row : PySem.W.keepIn K (.ref f_check_life_row) = true)
    (a_is_whole : PySem.W.nsIn K mainGlobals "is_whole" = some (some (.ref f_is_whole)))
    (l_is_whole : K.lookup f_is_whole = some ⟨oc_is_whole, od_is_whole, .func (PySem.W.fnOf "is_whole" "is_whole" (defArgs s_is_whole) (defBody s_is_whole) (defScope s_is_whole) .none kV_is_whole dc_is_whole pm_is_whole an_is_whole cd_is_whole ct_is_whole), sl_is_whole⟩)
    (c_is_whole : PySem.W.codeIn K cd_is_whole "is_whole" = true)
    (k_is_whole : PySem.W.keepIn K (.ref f_is_whole) = true)
    (a_check_marks : PySem.W.nsIn K mainGlobals "check_marks" = some (some (.ref f_check_marks)))
    (l_check_marks : K.lookup f_check_marks = some ⟨oc_check_marks, od_check_marks, .func (PySem.W.fnOf "check_marks" "check_marks" (defArgs s_check_marks) (defBody s_check_marks) (defScope s_check_marks) .none kV_check_marks dc_check_marks pm_check_marks an_check_marks cd_check_marks ct_check_marks), sl_check_marks⟩)
    (c_check_marks : PySem.W.codeIn K cd_check_marks "check_marks" = true)
    (k_check_marks : PySem.W.keepIn K (.ref f_check_marks) = true)
    (a_is_kind : PySem.W.nsIn K mainGlobals "is_kind" = some (some (.ref f_is_kind)))
    (l_is_kind : K.lookup f_is_kind = some ⟨oc_is_kind, od_is_kind, .func (PySem.W.fnOf "is_kind" "is_kind" (defArgs s_is_kind) (defBody s_is_kind) (defScope s_is_kind) .none kV_is_kind dc_is_kind pm_is_kind an_is_kind cd_is_kind ct_is_kind), sl_is_kind⟩)
    (c_is_kind : PySem.W.codeIn K cd_is_kind "is_kind" = true)
    (k_is_kind : PySem.W.keepIn K (.ref f_is_kind) = true)
    (a_PersonState___init : PySem.W.findIn K (.ref C_PersonState) "__init__" = some (some (.ref f_PersonState___init)))
    (l_PersonState___init : K.lookup f_PersonState___init = some ⟨oc_PersonState___init, od_PersonState___init, .func (PySem.W.fnOf "__init__" "PersonState.__init__" (defArgs s_PersonState___init) (defBody s_PersonState___init) (defScope s_PersonState___init) (.ref T_PersonState___init) kV_PersonState___init dc_PersonState___init pm_PersonState___init an_PersonState___init cd_PersonState___init ct_PersonState___init), sl_PersonState___init⟩)
    (c_PersonState___init : PySem.W.codeIn K cd_PersonState___init "PersonState.__init__" = true)
    (k_PersonState___init : PySem.W.keepIn K (.ref f_PersonState___init) = true)
    (i_PersonState___init : PySem.W.isFn K (.ref f_PersonState___init) = true)
    (dt_PersonState___init : K.lookup T_PersonState___init = some ⟨tc_PersonState___init, td_PersonState___init, .seq #[.int 0 tt_PersonState___init] tn_PersonState___init, tsl_PersonState___init⟩)
    (a_PersonState___eq : PySem.W.findIn K (.ref C_PersonState) "__eq__" = some (some (.ref f_PersonState___eq)))
    (l_PersonState___eq : K.lookup f_PersonState___eq = some ⟨oc_PersonState___eq, od_PersonState___eq, .func (PySem.W.fnOf "__eq__" "PersonState.__eq__" (defArgs s_PersonState___eq) (defBody s_PersonState___eq) (defScope s_PersonState___eq) .none kV_PersonState___eq dc_PersonState___eq pm_PersonState___eq an_PersonState___eq cd_PersonState___eq ct_PersonState___eq), sl_PersonState___eq⟩)
    (c_PersonState___eq : PySem.W.codeIn K cd_PersonState___eq "PersonState.__eq__" = true)
    (k_PersonState___eq : PySem.W.keepIn K (.ref f_PersonState___eq) = true)
    (i_PersonState___eq : PySem.W.isFn K (.ref f_PersonState___eq) = true)
    (a_u_law_person_right : PySem.W.nsIn K mainGlobals "_law_person_right" = some (some (.ref f_u_law_person_right)))
    (l_u_law_person_right : K.lookup f_u_law_person_right = some ⟨oc_u_law_person_right, od_u_law_person_right, .func (PySem.W.fnOf "_law_person_right" "_law_person_right" (defArgs s_u_law_person_right) (defBody s_u_law_person_right) (defScope s_u_law_person_right) .none kV_u_law_person_right dc_u_law_person_right pm_u_law_person_right an_u_law_person_right cd_u_law_person_right ct_u_law_person_right), sl_u_law_person_right⟩)
    (c_u_law_person_right : PySem.W.codeIn K cd_u_law_person_right "_law_person_right" = true)
    (k_u_law_person_right : PySem.W.keepIn K (.ref f_u_law_person_right) = true)
    (a_check_borne : PySem.W.nsIn K mainGlobals "check_borne" = some (some (.ref f_check_borne)))
    (l_check_borne : K.lookup f_check_borne = some ⟨oc_check_borne, od_check_borne, .func (PySem.W.fnOf "check_borne" "check_borne" (defArgs s_check_borne) (defBody s_check_borne) (defScope s_check_borne) .none kV_check_borne dc_check_borne pm_check_borne an_check_borne cd_check_borne ct_check_borne), sl_check_borne⟩)
    (c_check_borne : PySem.W.codeIn K cd_check_borne "check_borne" = true)
    (k_check_borne : PySem.W.keepIn K (.ref f_check_borne) = true)
    (a_CoupleState___init : PySem.W.findIn K (.ref C_CoupleState) "__init__" = some (some (.ref f_CoupleState___init)))
    (l_CoupleState___init : K.lookup f_CoupleState___init = some ⟨oc_CoupleState___init, od_CoupleState___init, .func (PySem.W.fnOf "__init__" "CoupleState.__init__" (defArgs s_CoupleState___init) (defBody s_CoupleState___init) (defScope s_CoupleState___init) (.ref T_CoupleState___init) kV_CoupleState___init dc_CoupleState___init pm_CoupleState___init an_CoupleState___init cd_CoupleState___init ct_CoupleState___init), sl_CoupleState___init⟩)
    (c_CoupleState___init : PySem.W.codeIn K cd_CoupleState___init "CoupleState.__init__" = true)
    (k_CoupleState___init : PySem.W.keepIn K (.ref f_CoupleState___init) = true)
    (i_CoupleState___init : PySem.W.isFn K (.ref f_CoupleState___init) = true)
    (dt_CoupleState___init : K.lookup T_CoupleState___init = some ⟨tc_CoupleState___init, td_CoupleState___init, .seq #[.ref U_CoupleState___init] tn_CoupleState___init, tsl_CoupleState___init⟩)
    (du_CoupleState___init : K.lookup U_CoupleState___init = some ⟨.type "tuple", ud_CoupleState___init, .seq #[.int 0 tt_CoupleState___init, .int 0 ut_CoupleState___init] un_CoupleState___init, usl_CoupleState___init⟩)
    (a_CoupleState___eq : PySem.W.findIn K (.ref C_CoupleState) "__eq__" = some (some (.ref f_CoupleState___eq)))
    (l_CoupleState___eq : K.lookup f_CoupleState___eq = some ⟨oc_CoupleState___eq, od_CoupleState___eq, .func (PySem.W.fnOf "__eq__" "CoupleState.__eq__" (defArgs s_CoupleState___eq) (defBody s_CoupleState___eq) (defScope s_CoupleState___eq) .none kV_CoupleState___eq dc_CoupleState___eq pm_CoupleState___eq an_CoupleState___eq cd_CoupleState___eq ct_CoupleState___eq), sl_CoupleState___eq⟩)
    (c_CoupleState___eq : PySem.W.codeIn K cd_CoupleState___eq "CoupleState.__eq__" = true)
    (k_CoupleState___eq : PySem.W.keepIn K (.ref f_CoupleState___eq) = true)
    (i_CoupleState___eq : PySem.W.isFn K (.ref f_CoupleState___eq) = true)
    (a_u_law_many : PySem.W.nsIn K mainGlobals "_law_many" = some (some (.ref f_u_law_many)))
    (l_u_law_many : K.lookup f_u_law_many = some ⟨oc_u_law_many, od_u_law_many, .func (PySem.W.fnOf "_law_many" "_law_many" (defArgs s_u_law_many) (defBody s_u_law_many) (defScope s_u_law_many) .none kV_u_law_many dc_u_law_many pm_u_law_many an_u_law_many cd_u_law_many ct_u_law_many), sl_u_law_many⟩)
    (c_u_law_many : PySem.W.codeIn K cd_u_law_many "_law_many" = true)
    (k_u_law_many : PySem.W.keepIn K (.ref f_u_law_many) = true)
    (a_CoupleState_mark_of : PySem.W.findIn K (.ref C_CoupleState) "mark_of" = some (some (.ref f_CoupleState_mark_of)))
    (l_CoupleState_mark_of : K.lookup f_CoupleState_mark_of = some ⟨oc_CoupleState_mark_of, od_CoupleState_mark_of, .func (PySem.W.fnOf "mark_of" "CoupleState.mark_of" (defArgs s_CoupleState_mark_of) (defBody s_CoupleState_mark_of) (defScope s_CoupleState_mark_of) .none kV_CoupleState_mark_of dc_CoupleState_mark_of pm_CoupleState_mark_of an_CoupleState_mark_of cd_CoupleState_mark_of ct_CoupleState_mark_of), sl_CoupleState_mark_of⟩)
    (c_CoupleState_mark_of : PySem.W.codeIn K cd_CoupleState_mark_of "CoupleState.mark_of" = true)
    (k_CoupleState_mark_of : PySem.W.keepIn K (.ref f_CoupleState_mark_of) = true)
    (i_CoupleState_mark_of : PySem.W.isFn K (.ref f_CoupleState_mark_of) = true)
    (a_u_law_couple_right : PySem.W.nsIn K mainGlobals "_law_couple_right" = some (some (.ref f_u_law_couple_right)))
    (l_u_law_couple_right : K.lookup f_u_law_couple_right = some ⟨oc_u_law_couple_right, od_u_law_couple_right, .func (PySem.W.fnOf "_law_couple_right" "_law_couple_right" (defArgs s_u_law_couple_right) (defBody s_u_law_couple_right) (defScope s_u_law_couple_right) .none kV_u_law_couple_right dc_u_law_couple_right pm_u_law_couple_right an_u_law_couple_right cd_u_law_couple_right ct_u_law_couple_right), sl_u_law_couple_right⟩)
    (c_u_law_couple_right : PySem.W.codeIn K cd_u_law_couple_right "_law_couple_right" = true)
    (k_u_law_couple_right : PySem.W.keepIn K (.ref f_u_law_couple_right) = true)
    (a_u_law_spoilt : PySem.W.nsIn K mainGlobals "_law_spoilt" = some (some (.ref f_u_law_spoilt)))
    (l_u_law_spoilt : K.lookup f_u_law_spoilt = some ⟨oc_u_law_spoilt, od_u_law_spoilt, .func (PySem.W.fnOf "_law_spoilt" "_law_spoilt" (defArgs s_u_law_spoilt) (defBody s_u_law_spoilt) (defScope s_u_law_spoilt) .none kV_u_law_spoilt dc_u_law_spoilt pm_u_law_spoilt an_u_law_spoilt cd_u_law_spoilt ct_u_law_spoilt), sl_u_law_spoilt⟩)
    (c_u_law_spoilt : PySem.W.codeIn K cd_u_law_spoilt "_law_spoilt" = true)
    (k_u_law_spoilt : PySem.W.keepIn K (.ref f_u_law_spoilt) = true)
    (a_u_law_couple_word : PySem.W.nsIn K mainGlobals "_law_couple_word" = some (some (.ref f_u_law_couple_word)))
    (l_u_law_couple_word : K.lookup f_u_law_couple_word = some ⟨oc_u_law_couple_word, od_u_law_couple_word, .func (PySem.W.fnOf "_law_couple_word" "_law_couple_word" (defArgs s_u_law_couple_word) (defBody s_u_law_couple_word) (defScope s_u_law_couple_word) .none kV_u_law_couple_word dc_u_law_couple_word pm_u_law_couple_word an_u_law_couple_word cd_u_law_couple_word ct_u_law_couple_word), sl_u_law_couple_word⟩)
    (c_u_law_couple_word : PySem.W.codeIn K cd_u_law_couple_word "_law_couple_word" = true)
    (k_u_law_couple_word : PySem.W.keepIn K (.ref f_u_law_couple_word) = true)
    (a_u_law_person_word : PySem.W.nsIn K mainGlobals "_law_person_word" = some (some (.ref f_u_law_person_word)))
    (l_u_law_person_word : K.lookup f_u_law_person_word = some ⟨oc_u_law_person_word, od_u_law_person_word, .func (PySem.W.fnOf "_law_person_word" "_law_person_word" (defArgs s_u_law_person_word) (defBody s_u_law_person_word) (defScope s_u_law_person_word) .none kV_u_law_person_word dc_u_law_person_word pm_u_law_person_word an_u_law_person_word cd_u_law_person_word ct_u_law_person_word), sl_u_law_person_word⟩)
    (c_u_law_person_word : PySem.W.codeIn K cd_u_law_person_word "_law_person_word" = true)
    (k_u_law_person_word : PySem.W.keepIn K (.ref f_u_law_person_word) = true)
    (a_u_law_first : PySem.W.nsIn K mainGlobals "_law_first" = some (some (.ref f_u_law_first)))
    (l_u_law_first : K.lookup f_u_law_first = some ⟨oc_u_law_first, od_u_law_first, .func (PySem.W.fnOf "_law_first" "_law_first" (defArgs s_u_law_first) (defBody s_u_law_first) (defScope s_u_law_first) .none kV_u_law_first dc_u_law_first pm_u_law_first an_u_law_first cd_u_law_first ct_u_law_first), sl_u_law_first⟩)
    (c_u_law_first : PySem.W.codeIn K cd_u_law_first "_law_first" = true)
    (k_u_law_first : PySem.W.keepIn K (.ref f_u_law_first) = true)
    (a_u_law_refusals : PySem.W.nsIn K mainGlobals "_law_refusals" = some (some (.ref f_u_law_refusals)))
    (l_u_law_refusals : K.lookup f_u_law_refusals = some ⟨oc_u_law_refusals, od_u_law_refusals, .func (PySem.W.fnOf "_law_refusals" "_law_refusals" (defArgs s_u_law_refusals) (defBody s_u_law_refusals) (defScope s_u_law_refusals) .none kV_u_law_refusals dc_u_law_refusals pm_u_law_refusals an_u_law_refusals cd_u_law_refusals ct_u_law_refusals), sl_u_law_refusals⟩)
    (c_u_law_refusals : PySem.W.codeIn K cd_u_law_refusals "_law_refusals" = true)
    (k_u_law_refusals : PySem.W.keepIn K (.ref f_u_law_refusals) = true)
    (a_law : PySem.W.nsIn K mainGlobals "law" = some (some (.ref f_law)))
    (l_law : K.lookup f_law = some ⟨oc_law, od_law, .func (PySem.W.fnOf "law" "law" (defArgs s_law) (defBody s_law) (defScope s_law) .none kV_law dc_law pm_law an_law cd_law ct_law), sl_law⟩)
    (c_law : PySem.W.codeIn K cd_law "law" = true)
    (k_law : PySem.W.keepIn K (.ref f_law) = true)
    (hn : PySem.W.specialIn K (.builtin "object.__class__") "__get__" = some (some (.builtin "getset_descriptor.__get__")))
    (ht : PySem.W.takesIn K (.builtin "object.__class__") = some true)
    (pg_PersonState : PySem.W.plainGet K C_PersonState Str.empty = true)
    (hd_PersonState : PySem.W.hasDictIn K C_PersonState = true)
    (po_PersonState : PySem.W.plainOver K C_PersonState = true)
    (sa_PersonState : PySem.W.findIn K (.ref C_PersonState) "__setattr__" = some (some (.builtin "object.__setattr__")))
    (ha_PersonState : PySem.W.findIn K (.ref C_PersonState) "__class__" = some (some (.builtin "object.__class__")))
    (hm_PersonState : PySem.W.mroIn K C_PersonState (.type "object") = some true)
    (na_PersonState_kind : PySem.W.findIn K (.ref C_PersonState) "kind" = some none)
    (na_PersonState_names : PySem.W.findIn K (.ref C_PersonState) "names" = some none)
    (na_PersonState_lives : PySem.W.findIn K (.ref C_PersonState) "lives" = some none)
    (na_PersonState_mark : PySem.W.findIn K (.ref C_PersonState) "mark" = some none)
    (na_PersonState_key : PySem.W.findIn K (.ref C_PersonState) "key" = some none)
    (mk_PersonState : PySem.W.makesIn K C_PersonState = true)
    (kc_PersonState : PySem.W.keepIn K (.ref C_PersonState) = true)
    (nf_PersonState_PersonState : PySem.W.notFirst K C_PersonState (.ref C_PersonState) = true)
    (nf_PersonState_tuple : PySem.W.notFirst K C_PersonState (.type "tuple") = true)
    (pg_CoupleState : PySem.W.plainGet K C_CoupleState Str.empty = true)
    (hd_CoupleState : PySem.W.hasDictIn K C_CoupleState = true)
    (po_CoupleState : PySem.W.plainOver K C_CoupleState = true)
    (sa_CoupleState : PySem.W.findIn K (.ref C_CoupleState) "__setattr__" = some (some (.builtin "object.__setattr__")))
    (ha_CoupleState : PySem.W.findIn K (.ref C_CoupleState) "__class__" = some (some (.builtin "object.__class__")))
    (hm_CoupleState : PySem.W.mroIn K C_CoupleState (.type "object") = some true)
    (na_CoupleState_classes : PySem.W.findIn K (.ref C_CoupleState) "classes" = some none)
    (na_CoupleState_names : PySem.W.findIn K (.ref C_CoupleState) "names" = some none)
    (na_CoupleState_lives : PySem.W.findIn K (.ref C_CoupleState) "lives" = some none)
    (na_CoupleState_sons : PySem.W.findIn K (.ref C_CoupleState) "sons" = some none)
    (na_CoupleState_daughters : PySem.W.findIn K (.ref C_CoupleState) "daughters" = some none)
    (na_CoupleState_borne : PySem.W.findIn K (.ref C_CoupleState) "borne" = some none)
    (na_CoupleState_marks : PySem.W.findIn K (.ref C_CoupleState) "marks" = some none)
    (na_CoupleState_key : PySem.W.findIn K (.ref C_CoupleState) "key" = some none)
    (na_CoupleState_is_new : PySem.W.findIn K (.ref C_CoupleState) "is_new" = some none)
    (mk_CoupleState : PySem.W.makesIn K C_CoupleState = true)
    (kc_CoupleState : PySem.W.keepIn K (.ref C_CoupleState) = true)
    (nf_CoupleState_CoupleState : PySem.W.notFirst K C_CoupleState (.ref C_CoupleState) = true)
    (nf_CoupleState_tuple : PySem.W.notFirst K C_CoupleState (.type "tuple") = true)
    (ic_PersonState : PySem.W.isClsIn K C_PersonState = true)
    (ty_PersonState : PySem.W.typeIn K (.ref C_PersonState) = some (.type "type"))
    (sb_PersonState_PersonState : PySem.W.subIn K (.ref C_PersonState) (.ref C_PersonState) = some true)
    (sb_tuple_PersonState : PySem.W.subIn K (.type "tuple") (.ref C_PersonState) = some false)
    (ic_CoupleState : PySem.W.isClsIn K C_CoupleState = true)
    (ty_CoupleState : PySem.W.typeIn K (.ref C_CoupleState) = some (.type "type"))
    (sb_CoupleState_CoupleState : PySem.W.subIn K (.ref C_CoupleState) (.ref C_CoupleState) = some true)
    (sb_tuple_CoupleState : PySem.W.subIn K (.type "tuple") (.ref C_CoupleState) = some false)
    (sb_CustomError_BadState : PySem.W.subIn K (.ref C_CustomError) (.ref C_BadState) = some false)
    (sb_BadState_BadState : PySem.W.subIn K (.ref C_BadState) (.ref C_BadState) = some true)
    (ic_CustomError : PySem.W.isClsIn K C_CustomError = true)
    (ty_CustomError : PySem.W.typeIn K (.ref C_CustomError) = some (.type "type"))
    (sb_CustomError_CustomError : PySem.W.subIn K (.ref C_CustomError) (.ref C_CustomError) = some true)
    (sb_BadState_CustomError : PySem.W.subIn K (.ref C_BadState) (.ref C_CustomError) = some true)
    (ga_CustomError : PySem.W.findIn K (.ref C_CustomError) "__getattribute__" = some (some (.builtin "BaseException.__getattribute__")))
    (gg_CustomError : PySem.W.findIn K (.ref C_CustomError) "__getattr__" = some none)
    (ex_CustomError : PySem.W.subIn K (.ref C_CustomError) (.type "BaseException") = some true)
    (hd_CustomError : PySem.W.hasDictIn K C_CustomError = true)
    (ha_CustomError : PySem.W.findIn K (.ref C_CustomError) "__class__" = some (some (.builtin "object.__class__")))
    (hm_CustomError : PySem.W.mroIn K C_CustomError (.type "object") = some true)
    (ha_BadState : PySem.W.findIn K (.ref C_BadState) "__class__" = some (some (.builtin "object.__class__")))
    (hm_BadState : PySem.W.mroIn K C_BadState (.type "object") = some true) :
    ∃ fd : FuncData, (∀ (s : Shared) (u : Value), BindsTo s fd ⟨[u], []⟩ [("_law_script", u)]) ∧ ∀ base : Heap, K.In base → base.Ns mainGlobals mg → FnOk PW w K mg base (L2.CX PW w) 8 fa fd ["_law_script"] (spLaw K) := by
  have e := hfa.symm.trans (PySem.W.mg_of X G a_law)
  have e2 : fa = f_law := by
    cases e
    rfl
  rw [e2]
  have F_u_law_hand : FunD K "_law_hand" "_law_hand" (defArgs s_u_law_hand) (defBody s_u_law_hand) (defScope s_u_law_hand) [] [] f_u_law_hand (PySem.W.fnOf "_law_hand" "_law_hand" (defArgs s_u_law_hand) (defBody s_u_law_hand) (defScope s_u_law_hand) .none kV_u_law_hand dc_u_law_hand pm_u_law_hand an_u_law_hand cd_u_law_hand ct_u_law_hand) := ⟨⟨_, _, _, _, _, _, _, _, _, _, rfl, l_u_law_hand, c_u_law_hand, .inl ⟨rfl, rfl⟩, .inl rfl⟩, k_u_law_hand⟩
  have F_u_law_mix : FunD K "_law_mix" "_law_mix" (defArgs s_u_law_mix) (defBody s_u_law_mix) (defScope s_u_law_mix) [] [] f_u_law_mix (PySem.W.fnOf "_law_mix" "_law_mix" (defArgs s_u_law_mix) (defBody s_u_law_mix) (defScope s_u_law_mix) .none kV_u_law_mix dc_u_law_mix pm_u_law_mix an_u_law_mix cd_u_law_mix ct_u_law_mix) := ⟨⟨_, _, _, _, _, _, _, _, _, _, rfl, l_u_law_mix, c_u_law_mix, .inl ⟨rfl, rfl⟩, .inl rfl⟩, k_u_law_mix⟩
  have F_u_law_draw : FunD K "_law_draw" "_law_draw" (defArgs s_u_law_draw) (defBody s_u_law_draw) (defScope s_u_law_draw) [] [] f_u_law_draw (PySem.W.fnOf "_law_draw" "_law_draw" (defArgs s_u_law_draw) (defBody s_u_law_draw) (defScope s_u_law_draw) .none kV_u_law_draw dc_u_law_draw pm_u_law_draw an_u_law_draw cd_u_law_draw ct_u_law_draw) := ⟨⟨_, _, _, _, _, _, _, _, _, _, rfl, l_u_law_draw, c_u_law_draw, .inl ⟨rfl, rfl⟩, .inl rfl⟩, k_u_law_draw⟩
  have F_u_law_classes : FunD K "_law_classes" "_law_classes" (defArgs s_u_law_classes) (defBody s_u_law_classes) (defScope s_u_law_classes) [] [] f_u_law_classes (PySem.W.fnOf "_law_classes" "_law_classes" (defArgs s_u_law_classes) (defBody s_u_law_classes) (defScope s_u_law_classes) .none kV_u_law_classes dc_u_law_classes pm_u_law_classes an_u_law_classes cd_u_law_classes ct_u_law_classes) := ⟨⟨_, _, _, _, _, _, _, _, _, _, rfl, l_u_law_classes, c_u_law_classes, .inl ⟨rfl, rfl⟩, .inl rfl⟩, k_u_law_classes⟩
  have F_u_law_pick : FunD K "_law_pick" "_law_pick" (defArgs s_u_law_pick) (defBody s_u_law_pick) (defScope s_u_law_pick) [] [] f_u_law_pick (PySem.W.fnOf "_law_pick" "_law_pick" (defArgs s_u_law_pick) (defBody s_u_law_pick) (defScope s_u_law_pick) .none kV_u_law_pick dc_u_law_pick pm_u_law_pick an_u_law_pick cd_u_law_pick ct_u_law_pick) := ⟨⟨_, _, _, _, _, _, _, _, _, _, rfl, l_u_law_pick, c_u_law_pick, .inl ⟨rfl, rfl⟩, .inl rfl⟩, k_u_law_pick⟩
  have F_u_law_entries : FunD K "_law_entries" "_law_entries" (defArgs s_u_law_entries) (defBody s_u_law_entries) (defScope s_u_law_entries) [] [] f_u_law_entries (PySem.W.fnOf "_law_entries" "_law_entries" (defArgs s_u_law_entries) (defBody s_u_law_entries) (defScope s_u_law_entries) .none kV_u_law_entries dc_u_law_entries pm_u_law_entries an_u_law_entries cd_u_law_entries ct_u_law_entries) := ⟨⟨_, _, _, _, _, _, _, _, _, _, rfl, l_u_law_entries, c_u_law_entries, .inl ⟨rfl, rfl⟩, .inl rfl⟩, k_u_law_entries⟩
  have F_u_law_drawn_lives : FunD K "_law_drawn_lives" "_law_drawn_lives" (defArgs s_u_law_drawn_lives) (defBody s_u_law_drawn_lives) (defScope s_u_law_drawn_lives) [] [] f_u_law_drawn_lives (PySem.W.fnOf "_law_drawn_lives" "_law_drawn_lives" (defArgs s_u_law_drawn_lives) (defBody s_u_law_drawn_lives) (defScope s_u_law_drawn_lives) .none kV_u_law_drawn_lives dc_u_law_drawn_lives pm_u_law_drawn_lives an_u_law_drawn_lives cd_u_law_drawn_lives ct_u_law_drawn_lives) := ⟨⟨_, _, _, _, _, _, _, _, _, _, rfl, l_u_law_drawn_lives, c_u_law_drawn_lives, .inl ⟨rfl, rfl⟩, .inl rfl⟩, k_u_law_drawn_lives⟩
  have F_u_law_drawn_marks : FunD K "_law_drawn_marks" "_law_drawn_marks" (defArgs s_u_law_drawn_marks) (defBody s_u_law_drawn_marks) (defScope s_u_law_drawn_marks) [] [] f_u_law_drawn_marks (PySem.W.fnOf "_law_drawn_marks" "_law_drawn_marks" (defArgs s_u_law_drawn_marks) (defBody s_u_law_drawn_marks) (defScope s_u_law_drawn_marks) .none kV_u_law_drawn_marks dc_u_law_drawn_marks pm_u_law_drawn_marks an_u_law_drawn_marks cd_u_law_drawn_marks ct_u_law_drawn_marks) := ⟨⟨_, _, _, _, _, _, _, _, _, _, rfl, l_u_law_drawn_marks, c_u_law_drawn_marks, .inl ⟨rfl, rfl⟩, .inl rfl⟩, k_u_law_drawn_marks⟩
  have F_entries_fault : FunD K "entries_fault" "entries_fault" (defArgs s_entries_fault) (defBody s_entries_fault) (defScope s_entries_fault) [] [] f_entries_fault (PySem.W.fnOf "entries_fault" "entries_fault" (defArgs s_entries_fault) (defBody s_entries_fault) (defScope s_entries_fault) .none kV_entries_fault dc_entries_fault pm_entries_fault an_entries_fault cd_entries_fault ct_entries_fault) := ⟨⟨_, _, _, _, _, _, _, _, _, _, rfl, l_entries_fault, c_entries_fault, .inl ⟨rfl, rfl⟩, .inl rfl⟩, k_entries_fault⟩
  have F_check_entries : FunD K "check_entries" "check_entries" (defArgs s_check_entries) (defBody s_check_entries) (defScope s_check_entries) [] [] f_check_entries (PySem.W.fnOf "check_entries" "check_entries" (defArgs s_check_entries) (defBody s_check_entries) (defScope s_check_entries) .none kV_check_entries dc_check_entries pm_check_entries an_check_entries cd_check_entries ct_check_entries) := ⟨⟨_, _, _, _, _, _, _, _, _, _, rfl, l_check_entries, c_check_entries, .inl ⟨rfl, rfl⟩, .inl rfl⟩, k_check_entries⟩
  have F_check_life_row : FunD K "check_life_row" "check_life_row" (defArgs s_check_life_row) (defBody s_check_life_row) (defScope s_check_life_row) [] [] f_check_life_row (PySem.W.fnOf "check_life_row" "check_life_row" (defArgs s_check_life_row) (defBody s_check_life_row) (defScope s_check_life_row) .none kV_check_life_row dc_check_life_row pm_check_life_row an_check_life_row cd_check_life_row ct_check_life_row) := ⟨⟨_, _, _, _, _, _, _, _, _, _, rfl, l_check_life_row, c_check_life_row, .inl ⟨rfl, rfl⟩, .inl rfl⟩, k_check_life_row⟩
  have F_is_whole : FunD K "is_whole" "is_whole" (defArgs s_is_whole) (defBody s_is_whole) (defScope s_is_whole) [] [] f_is_whole (PySem.W.fnOf "is_whole" "is_whole" (defArgs s_is_whole) (defBody s_is_whole) (defScope s_is_whole) .none kV_is_whole dc_is_whole pm_is_whole an_is_whole cd_is_whole ct_is_whole) := ⟨⟨_, _, _, _, _, _, _, _, _, _, rfl, l_is_whole, c_is_whole, .inl ⟨rfl, rfl⟩, .inl rfl⟩, k_is_whole⟩
  have F_check_marks : FunD K "check_marks" "check_marks" (defArgs s_check_marks) (defBody s_check_marks) (defScope s_check_marks) [] [] f_check_marks (PySem.W.fnOf "check_marks" "check_marks" (defArgs s_check_marks) (defBody s_check_marks) (defScope s_check_marks) .none kV_check_marks dc_check_marks pm_check_marks an_check_marks cd_check_marks ct_check_marks) := ⟨⟨_, _, _, _, _, _, _, _, _, _, rfl, l_check_marks, c_check_marks, .inl ⟨rfl, rfl⟩, .inl rfl⟩, k_check_marks⟩
  have F_is_kind : FunD K "is_kind" "is_kind" (defArgs s_is_kind) (defBody s_is_kind) (defScope s_is_kind) [] [] f_is_kind (PySem.W.fnOf "is_kind" "is_kind" (defArgs s_is_kind) (defBody s_is_kind) (defScope s_is_kind) .none kV_is_kind dc_is_kind pm_is_kind an_is_kind cd_is_kind ct_is_kind) := ⟨⟨_, _, _, _, _, _, _, _, _, _, rfl, l_is_kind, c_is_kind, .inl ⟨rfl, rfl⟩, .inl rfl⟩, k_is_kind⟩
  have F_PersonState___init : FunD K "__init__" "PersonState.__init__" (defArgs s_PersonState___init) (defBody s_PersonState___init) (defScope s_PersonState___init) [V.int 0] [] f_PersonState___init (PySem.W.fnOf "__init__" "PersonState.__init__" (defArgs s_PersonState___init) (defBody s_PersonState___init) (defScope s_PersonState___init) (.ref T_PersonState___init) kV_PersonState___init dc_PersonState___init pm_PersonState___init an_PersonState___init cd_PersonState___init ct_PersonState___init) := ⟨⟨_, _, _, _, _, _, _, _, _, _, rfl, l_PersonState___init, c_PersonState___init, .inr ⟨by simp, T_PersonState___init, _, [.int 0 tt_PersonState___init], _, rfl, dt_PersonState___init, rfl, .cons ⟨_, rfl⟩ .nil⟩, .inl rfl⟩, k_PersonState___init⟩
  have b_PersonState___init : Binds K (PySem.W.fnOf "__init__" "PersonState.__init__" (defArgs s_PersonState___init) (defBody s_PersonState___init) (defScope s_PersonState___init) (.ref T_PersonState___init) kV_PersonState___init dc_PersonState___init pm_PersonState___init an_PersonState___init cd_PersonState___init ct_PersonState___init) (["self", "kind", "names", "lives", "mark"] : List Str) [] := binds_full F_PersonState___init (by simp) fun _ _ _ _ _ _ _ us its hl hi => match us, its, hl, hi with | [_, _, _, _, _], [_], _, _ => ⟨_, rfl, rfl⟩
  obtain ⟨ds_PersonState___init, e_PersonState___init, bd_PersonState___init⟩ := F_PersonState___init.binds1 (ps := (["self", "kind", "names", "lives", "mark"] : List Str)) 4 0 (by simp) rfl fun _ _ _ _ _ _ _ us its hl hi => match us, its, hl, hi with | [_, _, _, _], [_], _, _ => ⟨_, rfl, rfl⟩
  have F_PersonState___eq : FunD K "__eq__" "PersonState.__eq__" (defArgs s_PersonState___eq) (defBody s_PersonState___eq) (defScope s_PersonState___eq) [] [] f_PersonState___eq (PySem.W.fnOf "__eq__" "PersonState.__eq__" (defArgs s_PersonState___eq) (defBody s_PersonState___eq) (defScope s_PersonState___eq) .none kV_PersonState___eq dc_PersonState___eq pm_PersonState___eq an_PersonState___eq cd_PersonState___eq ct_PersonState___eq) := ⟨⟨_, _, _, _, _, _, _, _, _, _, rfl, l_PersonState___eq, c_PersonState___eq, .inl ⟨rfl, rfl⟩, .inl rfl⟩, k_PersonState___eq⟩
  have F_u_law_person_right : FunD K "_law_person_right" "_law_person_right" (defArgs s_u_law_person_right) (defBody s_u_law_person_right) (defScope s_u_law_person_right) [] [] f_u_law_person_right (PySem.W.fnOf "_law_person_right" "_law_person_right" (defArgs s_u_law_person_right) (defBody s_u_law_person_right) (defScope s_u_law_person_right) .none kV_u_law_person_right dc_u_law_person_right pm_u_law_person_right an_u_law_person_right cd_u_law_person_right ct_u_law_person_right) := ⟨⟨_, _, _, _, _, _, _, _, _, _, rfl, l_u_law_person_right, c_u_law_person_right, .inl ⟨rfl, rfl⟩, .inl rfl⟩, k_u_law_person_right⟩
  have F_check_borne : FunD K "check_borne" "check_borne" (defArgs s_check_borne) (defBody s_check_borne) (defScope s_check_borne) [] [] f_check_borne (PySem.W.fnOf "check_borne" "check_borne" (defArgs s_check_borne) (defBody s_check_borne) (defScope s_check_borne) .none kV_check_borne dc_check_borne pm_check_borne an_check_borne cd_check_borne ct_check_borne) := ⟨⟨_, _, _, _, _, _, _, _, _, _, rfl, l_check_borne, c_check_borne, .inl ⟨rfl, rfl⟩, .inl rfl⟩, k_check_borne⟩
  have F_CoupleState___init : FunD K "__init__" "CoupleState.__init__" (defArgs s_CoupleState___init) (defBody s_CoupleState___init) (defScope s_CoupleState___init) [V.ref U_CoupleState___init] [] f_CoupleState___init (PySem.W.fnOf "__init__" "CoupleState.__init__" (defArgs s_CoupleState___init) (defBody s_CoupleState___init) (defScope s_CoupleState___init) (.ref T_CoupleState___init) kV_CoupleState___init dc_CoupleState___init pm_CoupleState___init an_CoupleState___init cd_CoupleState___init ct_CoupleState___init) := ⟨⟨_, _, _, _, _, _, _, _, _, _, rfl, l_CoupleState___init, c_CoupleState___init, .inr ⟨by simp, T_CoupleState___init, _, [.ref U_CoupleState___init], _, rfl, dt_CoupleState___init, rfl, .cons rfl .nil⟩, .inl rfl⟩, k_CoupleState___init⟩
  have b_CoupleState___init : Binds K (PySem.W.fnOf "__init__" "CoupleState.__init__" (defArgs s_CoupleState___init) (defBody s_CoupleState___init) (defScope s_CoupleState___init) (.ref T_CoupleState___init) kV_CoupleState___init dc_CoupleState___init pm_CoupleState___init an_CoupleState___init cd_CoupleState___init ct_CoupleState___init) (["self", "names", "lives", "sons", "daughters", "borne", "marks"] : List Str) [] := binds_full F_CoupleState___init (by simp) fun _ _ _ _ _ _ _ us its hl hi => match us, its, hl, hi with | [_, _, _, _, _, _, _], [_], _, _ => ⟨_, rfl, rfl⟩
  obtain ⟨ds_CoupleState___init, e_CoupleState___init, bd_CoupleState___init⟩ := F_CoupleState___init.binds1 (ps := (["self", "names", "lives", "sons", "daughters", "borne", "marks"] : List Str)) 6 0 (by simp) rfl fun _ _ _ _ _ _ _ us its hl hi => match us, its, hl, hi with | [_, _, _, _, _, _], [_], _, _ => ⟨_, rfl, rfl⟩
  have F_CoupleState___eq : FunD K "__eq__" "CoupleState.__eq__" (defArgs s_CoupleState___eq) (defBody s_CoupleState___eq) (defScope s_CoupleState___eq) [] [] f_CoupleState___eq (PySem.W.fnOf "__eq__" "CoupleState.__eq__" (defArgs s_CoupleState___eq) (defBody s_CoupleState___eq) (defScope s_CoupleState___eq) .none kV_CoupleState___eq dc_CoupleState___eq pm_CoupleState___eq an_CoupleState___eq cd_CoupleState___eq ct_CoupleState___eq) := ⟨⟨_, _, _, _, _, _, _, _, _, _, rfl, l_CoupleState___eq, c_CoupleState___eq, .inl ⟨rfl, rfl⟩, .inl rfl⟩, k_CoupleState___eq⟩
  have F_u_law_many : FunD K "_law_many" "_law_many" (defArgs s_u_law_many) (defBody s_u_law_many) (defScope s_u_law_many) [] [] f_u_law_many (PySem.W.fnOf "_law_many" "_law_many" (defArgs s_u_law_many) (defBody s_u_law_many) (defScope s_u_law_many) .none kV_u_law_many dc_u_law_many pm_u_law_many an_u_law_many cd_u_law_many ct_u_law_many) := ⟨⟨_, _, _, _, _, _, _, _, _, _, rfl, l_u_law_many, c_u_law_many, .inl ⟨rfl, rfl⟩, .inl rfl⟩, k_u_law_many⟩
  have F_CoupleState_mark_of : FunD K "mark_of" "CoupleState.mark_of" (defArgs s_CoupleState_mark_of) (defBody s_CoupleState_mark_of) (defScope s_CoupleState_mark_of) [] [] f_CoupleState_mark_of (PySem.W.fnOf "mark_of" "CoupleState.mark_of" (defArgs s_CoupleState_mark_of) (defBody s_CoupleState_mark_of) (defScope s_CoupleState_mark_of) .none kV_CoupleState_mark_of dc_CoupleState_mark_of pm_CoupleState_mark_of an_CoupleState_mark_of cd_CoupleState_mark_of ct_CoupleState_mark_of) := ⟨⟨_, _, _, _, _, _, _, _, _, _, rfl, l_CoupleState_mark_of, c_CoupleState_mark_of, .inl ⟨rfl, rfl⟩, .inl rfl⟩, k_CoupleState_mark_of⟩
  have F_u_law_couple_right : FunD K "_law_couple_right" "_law_couple_right" (defArgs s_u_law_couple_right) (defBody s_u_law_couple_right) (defScope s_u_law_couple_right) [] [] f_u_law_couple_right (PySem.W.fnOf "_law_couple_right" "_law_couple_right" (defArgs s_u_law_couple_right) (defBody s_u_law_couple_right) (defScope s_u_law_couple_right) .none kV_u_law_couple_right dc_u_law_couple_right pm_u_law_couple_right an_u_law_couple_right cd_u_law_couple_right ct_u_law_couple_right) := ⟨⟨_, _, _, _, _, _, _, _, _, _, rfl, l_u_law_couple_right, c_u_law_couple_right, .inl ⟨rfl, rfl⟩, .inl rfl⟩, k_u_law_couple_right⟩
  have F_u_law_spoilt : FunD K "_law_spoilt" "_law_spoilt" (defArgs s_u_law_spoilt) (defBody s_u_law_spoilt) (defScope s_u_law_spoilt) [] [] f_u_law_spoilt (PySem.W.fnOf "_law_spoilt" "_law_spoilt" (defArgs s_u_law_spoilt) (defBody s_u_law_spoilt) (defScope s_u_law_spoilt) .none kV_u_law_spoilt dc_u_law_spoilt pm_u_law_spoilt an_u_law_spoilt cd_u_law_spoilt ct_u_law_spoilt) := ⟨⟨_, _, _, _, _, _, _, _, _, _, rfl, l_u_law_spoilt, c_u_law_spoilt, .inl ⟨rfl, rfl⟩, .inl rfl⟩, k_u_law_spoilt⟩
  have F_u_law_couple_word : FunD K "_law_couple_word" "_law_couple_word" (defArgs s_u_law_couple_word) (defBody s_u_law_couple_word) (defScope s_u_law_couple_word) [] [] f_u_law_couple_word (PySem.W.fnOf "_law_couple_word" "_law_couple_word" (defArgs s_u_law_couple_word) (defBody s_u_law_couple_word) (defScope s_u_law_couple_word) .none kV_u_law_couple_word dc_u_law_couple_word pm_u_law_couple_word an_u_law_couple_word cd_u_law_couple_word ct_u_law_couple_word) := ⟨⟨_, _, _, _, _, _, _, _, _, _, rfl, l_u_law_couple_word, c_u_law_couple_word, .inl ⟨rfl, rfl⟩, .inl rfl⟩, k_u_law_couple_word⟩
  have F_u_law_person_word : FunD K "_law_person_word" "_law_person_word" (defArgs s_u_law_person_word) (defBody s_u_law_person_word) (defScope s_u_law_person_word) [] [] f_u_law_person_word (PySem.W.fnOf "_law_person_word" "_law_person_word" (defArgs s_u_law_person_word) (defBody s_u_law_person_word) (defScope s_u_law_person_word) .none kV_u_law_person_word dc_u_law_person_word pm_u_law_person_word an_u_law_person_word cd_u_law_person_word ct_u_law_person_word) := ⟨⟨_, _, _, _, _, _, _, _, _, _, rfl, l_u_law_person_word, c_u_law_person_word, .inl ⟨rfl, rfl⟩, .inl rfl⟩, k_u_law_person_word⟩
  have F_u_law_first : FunD K "_law_first" "_law_first" (defArgs s_u_law_first) (defBody s_u_law_first) (defScope s_u_law_first) [] [] f_u_law_first (PySem.W.fnOf "_law_first" "_law_first" (defArgs s_u_law_first) (defBody s_u_law_first) (defScope s_u_law_first) .none kV_u_law_first dc_u_law_first pm_u_law_first an_u_law_first cd_u_law_first ct_u_law_first) := ⟨⟨_, _, _, _, _, _, _, _, _, _, rfl, l_u_law_first, c_u_law_first, .inl ⟨rfl, rfl⟩, .inl rfl⟩, k_u_law_first⟩
  have F_u_law_refusals : FunD K "_law_refusals" "_law_refusals" (defArgs s_u_law_refusals) (defBody s_u_law_refusals) (defScope s_u_law_refusals) [] [] f_u_law_refusals (PySem.W.fnOf "_law_refusals" "_law_refusals" (defArgs s_u_law_refusals) (defBody s_u_law_refusals) (defScope s_u_law_refusals) .none kV_u_law_refusals dc_u_law_refusals pm_u_law_refusals an_u_law_refusals cd_u_law_refusals ct_u_law_refusals) := ⟨⟨_, _, _, _, _, _, _, _, _, _, rfl, l_u_law_refusals, c_u_law_refusals, .inl ⟨rfl, rfl⟩, .inl rfl⟩, k_u_law_refusals⟩
  have F_law : FunD K "law" "law" (defArgs s_law) (defBody s_law) (defScope s_law) [] [] f_law (PySem.W.fnOf "law" "law" (defArgs s_law) (defBody s_law) (defScope s_law) .none kV_law dc_law pm_law an_law cd_law ct_law) := ⟨⟨_, _, _, _, _, _, _, _, _, _, rfl, l_law, c_law, .inl ⟨rfl, rfl⟩, .inl rfl⟩, k_law⟩
  have T : Txt K mg { c_CustomError := C_CustomError, c_BadState := C_BadState, c_PersonState := C_PersonState, c_CoupleState := C_CoupleState, f_u_law_hand := f_u_law_hand, d_u_law_hand := (PySem.W.fnOf "_law_hand" "_law_hand" (defArgs s_u_law_hand) (defBody s_u_law_hand) (defScope s_u_law_hand) .none kV_u_law_hand dc_u_law_hand pm_u_law_hand an_u_law_hand cd_u_law_hand ct_u_law_hand), f_u_law_mix := f_u_law_mix, d_u_law_mix := (PySem.W.fnOf "_law_mix" "_law_mix" (defArgs s_u_law_mix) (defBody s_u_law_mix) (defScope s_u_law_mix) .none kV_u_law_mix dc_u_law_mix pm_u_law_mix an_u_law_mix cd_u_law_mix ct_u_law_mix), f_u_law_draw := f_u_law_draw, d_u_law_draw := (PySem.W.fnOf "_law_draw" "_law_draw" (defArgs s_u_law_draw) (defBody s_u_law_draw) (defScope s_u_law_draw) .none kV_u_law_draw dc_u_law_draw pm_u_law_draw an_u_law_draw cd_u_law_draw ct_u_law_draw), f_u_law_classes := f_u_law_classes, d_u_law_classes := (PySem.W.fnOf "_law_classes" "_law_classes" (defArgs s_u_law_classes) (defBody s_u_law_classes) (defScope s_u_law_classes) .none kV_u_law_classes dc_u_law_classes pm_u_law_classes an_u_law_classes cd_u_law_classes ct_u_law_classes), f_u_law_pick := f_u_law_pick, d_u_law_pick := (PySem.W.fnOf "_law_pick" "_law_pick" (defArgs s_u_law_pick) (defBody s_u_law_pick) (defScope s_u_law_pick) .none kV_u_law_pick dc_u_law_pick pm_u_law_pick an_u_law_pick cd_u_law_pick ct_u_law_pick), f_u_law_entries := f_u_law_entries, d_u_law_entries := (PySem.W.fnOf "_law_entries" "_law_entries" (defArgs s_u_law_entries) (defBody s_u_law_entries) (defScope s_u_law_entries) .none kV_u_law_entries dc_u_law_entries pm_u_law_entries an_u_law_entries cd_u_law_entries ct_u_law_entries), f_u_law_drawn_lives := f_u_law_drawn_lives, d_u_law_drawn_lives := (PySem.W.fnOf "_law_drawn_lives" "_law_drawn_lives" (defArgs s_u_law_drawn_lives) (defBody s_u_law_drawn_lives) (defScope s_u_law_drawn_lives) .none kV_u_law_drawn_lives dc_u_law_drawn_lives pm_u_law_drawn_lives an_u_law_drawn_lives cd_u_law_drawn_lives ct_u_law_drawn_lives), f_u_law_drawn_marks := f_u_law_drawn_marks, d_u_law_drawn_marks := (PySem.W.fnOf "_law_drawn_marks" "_law_drawn_marks" (defArgs s_u_law_drawn_marks) (defBody s_u_law_drawn_marks) (defScope s_u_law_drawn_marks) .none kV_u_law_drawn_marks dc_u_law_drawn_marks pm_u_law_drawn_marks an_u_law_drawn_marks cd_u_law_drawn_marks ct_u_law_drawn_marks), f_entries_fault := f_entries_fault, d_entries_fault := (PySem.W.fnOf "entries_fault" "entries_fault" (defArgs s_entries_fault) (defBody s_entries_fault) (defScope s_entries_fault) .none kV_entries_fault dc_entries_fault pm_entries_fault an_entries_fault cd_entries_fault ct_entries_fault), f_BadState___init := f_BadState___init, d_BadState___init := (PySem.W.ksFn "__init__" "BadState.__init__" (defArgs s_BadState___init) (defBody s_BadState___init) (defScope s_BadState___init) .none kV_BadState___init dc_BadState___init pm_BadState___init an_BadState___init (.ref cda_BadState) ct_BadState___init cc_BadState), cda_BadState := cda_BadState, cc_BadState := cc_BadState, f_check_entries := f_check_entries, d_check_entries := (PySem.W.fnOf "check_entries" "check_entries" (defArgs s_check_entries) (defBody s_check_entries) (defScope s_check_entries) .none kV_check_entries dc_check_entries pm_check_entries an_check_entries cd_check_entries ct_check_entries), f_check_life_row := f_check_life_row, d_check_life_row := (PySem.W.fnOf "check_life_row" "check_life_row" (defArgs s_check_life_row) (defBody s_check_life_row) (defScope s_check_life_row) .none kV_check_life_row dc_check_life_row pm_check_life_row an_check_life_row cd_check_life_row ct_check_life_row), f_is_whole := f_is_whole, d_is_whole := (PySem.W.fnOf "is_whole" "is_whole" (defArgs s_is_whole) (defBody s_is_whole) (defScope s_is_whole) .none kV_is_whole dc_is_whole pm_is_whole an_is_whole cd_is_whole ct_is_whole), f_check_marks := f_check_marks, d_check_marks := (PySem.W.fnOf "check_marks" "check_marks" (defArgs s_check_marks) (defBody s_check_marks) (defScope s_check_marks) .none kV_check_marks dc_check_marks pm_check_marks an_check_marks cd_check_marks ct_check_marks), f_is_kind := f_is_kind, d_is_kind := (PySem.W.fnOf "is_kind" "is_kind" (defArgs s_is_kind) (defBody s_is_kind) (defScope s_is_kind) .none kV_is_kind dc_is_kind pm_is_kind an_is_kind cd_is_kind ct_is_kind), f_PersonState___init := f_PersonState___init, d_PersonState___init := (PySem.W.fnOf "__init__" "PersonState.__init__" (defArgs s_PersonState___init) (defBody s_PersonState___init) (defScope s_PersonState___init) (.ref T_PersonState___init) kV_PersonState___init dc_PersonState___init pm_PersonState___init an_PersonState___init cd_PersonState___init ct_PersonState___init), t_PersonState___init := 0, ds_PersonState___init := ds_PersonState___init, f_PersonState___eq := f_PersonState___eq, d_PersonState___eq := (PySem.W.fnOf "__eq__" "PersonState.__eq__" (defArgs s_PersonState___eq) (defBody s_PersonState___eq) (defScope s_PersonState___eq) .none kV_PersonState___eq dc_PersonState___eq pm_PersonState___eq an_PersonState___eq cd_PersonState___eq ct_PersonState___eq), f_u_law_person_right := f_u_law_person_right, d_u_law_person_right := (PySem.W.fnOf "_law_person_right" "_law_person_right" (defArgs s_u_law_person_right) (defBody s_u_law_person_right) (defScope s_u_law_person_right) .none kV_u_law_person_right dc_u_law_person_right pm_u_law_person_right an_u_law_person_right cd_u_law_person_right ct_u_law_person_right), f_check_borne := f_check_borne, d_check_borne := (PySem.W.fnOf "check_borne" "check_borne" (defArgs s_check_borne) (defBody s_check_borne) (defScope s_check_borne) .none kV_check_borne dc_check_borne pm_check_borne an_check_borne cd_check_borne ct_check_borne), f_CoupleState___init := f_CoupleState___init, d_CoupleState___init := (PySem.W.fnOf "__init__" "CoupleState.__init__" (defArgs s_CoupleState___init) (defBody s_CoupleState___init) (defScope s_CoupleState___init) (.ref T_CoupleState___init) kV_CoupleState___init dc_CoupleState___init pm_CoupleState___init an_CoupleState___init cd_CoupleState___init ct_CoupleState___init), t_CoupleState___init := U_CoupleState___init, ds_CoupleState___init := ds_CoupleState___init, f_CoupleState___eq := f_CoupleState___eq, d_CoupleState___eq := (PySem.W.fnOf "__eq__" "CoupleState.__eq__" (defArgs s_CoupleState___eq) (defBody s_CoupleState___eq) (defScope s_CoupleState___eq) .none kV_CoupleState___eq dc_CoupleState___eq pm_CoupleState___eq an_CoupleState___eq cd_CoupleState___eq ct_CoupleState___eq), f_u_law_many := f_u_law_many, d_u_law_many := (PySem.W.fnOf "_law_many" "_law_many" (defArgs s_u_law_many) (defBody s_u_law_many) (defScope s_u_law_many) .none kV_u_law_many dc_u_law_many pm_u_law_many an_u_law_many cd_u_law_many ct_u_law_many), f_CoupleState_mark_of := f_CoupleState_mark_of, d_CoupleState_mark_of := (PySem.W.fnOf "mark_of" "CoupleState.mark_of" (defArgs s_CoupleState_mark_of) (defBody s_CoupleState_mark_of) (defScope s_CoupleState_mark_of) .none kV_CoupleState_mark_of dc_CoupleState_mark_of pm_CoupleState_mark_of an_CoupleState_mark_of cd_CoupleState_mark_of ct_CoupleState_mark_of), f_u_law_couple_right := f_u_law_couple_right, d_u_law_couple_right := (PySem.W.fnOf "_law_couple_right" "_law_couple_right" (defArgs s_u_law_couple_right) (defBody s_u_law_couple_right) (defScope s_u_law_couple_right) .none kV_u_law_couple_right dc_u_law_couple_right pm_u_law_couple_right an_u_law_couple_right cd_u_law_couple_right ct_u_law_couple_right), f_u_law_spoilt := f_u_law_spoilt, d_u_law_spoilt := (PySem.W.fnOf "_law_spoilt" "_law_spoilt" (defArgs s_u_law_spoilt) (defBody s_u_law_spoilt) (defScope s_u_law_spoilt) .none kV_u_law_spoilt dc_u_law_spoilt pm_u_law_spoilt an_u_law_spoilt cd_u_law_spoilt ct_u_law_spoilt), f_u_law_couple_word := f_u_law_couple_word, d_u_law_couple_word := (PySem.W.fnOf "_law_couple_word" "_law_couple_word" (defArgs s_u_law_couple_word) (defBody s_u_law_couple_word) (defScope s_u_law_couple_word) .none kV_u_law_couple_word dc_u_law_couple_word pm_u_law_couple_word an_u_law_couple_word cd_u_law_couple_word ct_u_law_couple_word), f_u_law_person_word := f_u_law_person_word, d_u_law_person_word := (PySem.W.fnOf "_law_person_word" "_law_person_word" (defArgs s_u_law_person_word) (defBody s_u_law_person_word) (defScope s_u_law_person_word) .none kV_u_law_person_word dc_u_law_person_word pm_u_law_person_word an_u_law_person_word cd_u_law_person_word ct_u_law_person_word), f_u_law_first := f_u_law_first, d_u_law_first := (PySem.W.fnOf "_law_first" "_law_first" (defArgs s_u_law_first) (defBody s_u_law_first) (defScope s_u_law_first) .none kV_u_law_first dc_u_law_first pm_u_law_first an_u_law_first cd_u_law_first ct_u_law_first), f_u_law_refusals := f_u_law_refusals, d_u_law_refusals := (PySem.W.fnOf "_law_refusals" "_law_refusals" (defArgs s_u_law_refusals) (defBody s_u_law_refusals) (defScope s_u_law_refusals) .none kV_u_law_refusals dc_u_law_refusals pm_u_law_refusals an_u_law_refusals cd_u_law_refusals ct_u_law_refusals), f_law := f_law, d_law := (PySem.W.fnOf "law" "law" (defArgs s_law) (defBody s_law) (defScope s_law) .none kV_law dc_law pm_law an_law cd_law ct_law), v_MOST_MARK := .int 1000 tk_MOST_MARK, v_MOST_PLACES := .int 40 tk_MOST_PLACES } := {
    z_abs := PySem.W.mg_none_of X G z_abs
    z_bool := PySem.W.mg_none_of X G z_bool
    z_enumerate := PySem.W.mg_none_of X G z_enumerate
    z_int := PySem.W.mg_none_of X G z_int
    z_isinstance := PySem.W.mg_none_of X G z_isinstance
    z_len := PySem.W.mg_none_of X G z_len
    z_list := PySem.W.mg_none_of X G z_list
    z_min := PySem.W.mg_none_of X G z_min
    z_range := PySem.W.mg_none_of X G z_range
    z_str := PySem.W.mg_none_of X G z_str
    z_sum := PySem.W.mg_none_of X G z_sum
    z_super := PySem.W.mg_none_of X G z_super
    z_tuple := PySem.W.mg_none_of X G z_tuple
    g_MOST_MARK := ⟨⟨_, rfl⟩, PySem.W.mg_of X G g_MOST_MARK⟩
    g_MOST_PLACES := ⟨⟨_, rfl⟩, PySem.W.mg_of X G g_MOST_PLACES⟩
    c_CustomError := PySem.W.mg_of X G a_CustomError
    c_BadState := PySem.W.mg_of X G a_BadState
    c_PersonState := PySem.W.mg_of X G a_PersonState
    c_CoupleState := PySem.W.mg_of X G a_CoupleState
    F_u_law_hand := F_u_law_hand
    b_u_law_hand := F_u_law_hand.bindsN fun _ _ _ _ _ _ us hl => match us, hl with | [_], _ => rfl
    m_u_law_hand := PySem.W.mg_of X G a_u_law_hand
    k_u_law_hand := k_u_law_hand
    F_u_law_mix := F_u_law_mix
    b_u_law_mix := F_u_law_mix.bindsN fun _ _ _ _ _ _ us hl => match us, hl with | [_, _], _ => rfl
    m_u_law_mix := PySem.W.mg_of X G a_u_law_mix
    k_u_law_mix := k_u_law_mix
    F_u_law_draw := F_u_law_draw
    b_u_law_draw := F_u_law_draw.bindsN fun _ _ _ _ _ _ us hl => match us, hl with | [_, _], _ => rfl
    m_u_law_draw := PySem.W.mg_of X G a_u_law_draw
    k_u_law_draw := k_u_law_draw
    F_u_law_classes := F_u_law_classes
    b_u_law_classes := F_u_law_classes.bindsN fun _ _ _ _ _ _ us hl => match us, hl with | [_], _ => rfl
    m_u_law_classes := PySem.W.mg_of X G a_u_law_classes
    k_u_law_classes := k_u_law_classes
    F_u_law_pick := F_u_law_pick
    b_u_law_pick := F_u_law_pick.bindsN fun _ _ _ _ _ _ us hl => match us, hl with | [_, _], _ => rfl
    m_u_law_pick := PySem.W.mg_of X G a_u_law_pick
    k_u_law_pick := k_u_law_pick
    F_u_law_entries := F_u_law_entries
    b_u_law_entries := F_u_law_entries.bindsN fun _ _ _ _ _ _ us hl => match us, hl with | [_], _ => rfl
    m_u_law_entries := PySem.W.mg_of X G a_u_law_entries
    k_u_law_entries := k_u_law_entries
    F_u_law_drawn_lives := F_u_law_drawn_lives
    b_u_law_drawn_lives := F_u_law_drawn_lives.bindsN fun _ _ _ _ _ _ us hl => match us, hl with | [_], _ => rfl
    m_u_law_drawn_lives := PySem.W.mg_of X G a_u_law_drawn_lives
    k_u_law_drawn_lives := k_u_law_drawn_lives
    F_u_law_drawn_marks := F_u_law_drawn_marks
    b_u_law_drawn_marks := F_u_law_drawn_marks.bindsN fun _ _ _ _ _ _ us hl => match us, hl with | [_, _], _ => rfl
    m_u_law_drawn_marks := PySem.W.mg_of X G a_u_law_drawn_marks
    k_u_law_drawn_marks := k_u_law_drawn_marks
    F_entries_fault := F_entries_fault
    b_entries_fault := F_entries_fault.bindsN fun _ _ _ _ _ _ us hl => match us, hl with | [_], _ => rfl
    m_entries_fault := PySem.W.mg_of X G a_entries_fault
    k_entries_fault := k_entries_fault
    l_BadState := ⟨_, _, _, _, _, _, _, _, _, rfl, l_BadState___init, c_BadState___init⟩
    b_BadState___init := .all fun us hl => match us, hl with | [_, _], _ => rfl
    S_BadState := ⟨rfl, rfl, rfl, by decide +kernel, rfl, by decide +kernel, by decide +kernel, fun y hy => (show ∀ p ∈ (defScope s_BadState___init).names, p.2 = .free → p.1 = ("__class__" : Str) by decide +kernel) _ (lookup_mem hy) rfl, rfl, rfl, ⟨_, _, _, _, _, _, k1_BadState, k2_BadState, k3_BadState⟩, ⟨_, _, _, k4_BadState⟩, ⟨⟨nm_BadState, q_BadState, N_BadState, bs_BadState, _, sn_BadState, sub_BadState, ab_BadState, col_BadState, dd_BadState, m0_BadState, m1_BadState, m2_BadState, m3_BadState, m5_BadState, x_BadState, rfl⟩, sa_BadState, ex_BadState, ty_BadState, kc_BadState⟩, su_BadState, iv_BadState, se_BadState, opq, PySem.W.mg_none_of X G z_super, u_BadState⟩
    e_BadState := ⟨⟨nm_BadState, q_BadState, N_BadState, bs_BadState, _, sn_BadState, sub_BadState, ab_BadState, col_BadState, dd_BadState, m0_BadState, m1_BadState, m2_BadState, m3_BadState, m5_BadState, x_BadState, rfl⟩, sa_BadState, ex_BadState, ty_BadState, kc_BadState⟩
    ei_BadState := a_BadState___init
    et_BadState := t_BadState___init
    x_BadState := ⟨ga_BadState, gg_BadState, ex_BadState, hd_BadState⟩
    n_BadState_what := n_BadState_what
    F_check_entries := F_check_entries
    b_check_entries := F_check_entries.bindsN fun _ _ _ _ _ _ us hl => match us, hl with | [_], _ => rfl
    m_check_entries := PySem.W.mg_of X G a_check_entries
    k_check_entries := k_check_entries
    F_check_life_row := F_check_life_row
    b_check_life_row := F_check_life_row.bindsN fun _ _ _ _ _ _ us hl => match us, hl with | [_], _ => rfl
    m_check_life_row := PySem.W.mg_of X G a_check_life_row
    k_check_life_row := k_check_life_row
    F_is_whole := F_is_whole
    b_is_whole := F_is_whole.bindsN fun _ _ _ _ _ _ us hl => match us, hl with | [_, _, _], _ => rfl
    m_is_whole := PySem.W.mg_of X G a_is_whole
    k_is_whole := k_is_whole
    F_check_marks := F_check_marks
    b_check_marks := F_check_marks.bindsN fun _ _ _ _ _ _ us hl => match us, hl with | [_], _ => rfl
    m_check_marks := PySem.W.mg_of X G a_check_marks
    k_check_marks := k_check_marks
    F_is_kind := F_is_kind
    b_is_kind := F_is_kind.bindsN fun _ _ _ _ _ _ us hl => match us, hl with | [_], _ => rfl
    m_is_kind := PySem.W.mg_of X G a_is_kind
    k_is_kind := k_is_kind
    F_PersonState___init := F_PersonState___init
    b_PersonState___init := b_PersonState___init
    bd_PersonState___init := ⟨bd_PersonState___init, e_PersonState___init⟩
    F_PersonState___eq := F_PersonState___eq
    b_PersonState___eq := F_PersonState___eq.bindsN fun _ _ _ _ _ _ us hl => match us, hl with | [_, _], _ => rfl
    F_u_law_person_right := F_u_law_person_right
    b_u_law_person_right := F_u_law_person_right.bindsN fun _ _ _ _ _ _ us hl => match us, hl with | [_, _, _], _ => rfl
    m_u_law_person_right := PySem.W.mg_of X G a_u_law_person_right
    k_u_law_person_right := k_u_law_person_right
    F_check_borne := F_check_borne
    b_check_borne := F_check_borne.bindsN fun _ _ _ _ _ _ us hl => match us, hl with | [_, _], _ => rfl
    m_check_borne := PySem.W.mg_of X G a_check_borne
    k_check_borne := k_check_borne
    F_CoupleState___init := F_CoupleState___init
    b_CoupleState___init := b_CoupleState___init
    bd_CoupleState___init := ⟨bd_CoupleState___init, e_CoupleState___init⟩
    td_CoupleState___init := .inr ⟨_, _, _, du_CoupleState___init, rfl, rfl, (by show 2 ≤ sizeLine; decide), .cons ⟨_, rfl⟩ (.cons ⟨_, rfl⟩ .nil)⟩
    F_CoupleState___eq := F_CoupleState___eq
    b_CoupleState___eq := F_CoupleState___eq.bindsN fun _ _ _ _ _ _ us hl => match us, hl with | [_, _], _ => rfl
    F_u_law_many := F_u_law_many
    b_u_law_many := F_u_law_many.bindsN fun _ _ _ _ _ _ us hl => match us, hl with | [_], _ => rfl
    m_u_law_many := PySem.W.mg_of X G a_u_law_many
    k_u_law_many := k_u_law_many
    F_CoupleState_mark_of := F_CoupleState_mark_of
    b_CoupleState_mark_of := F_CoupleState_mark_of.bindsN fun _ _ _ _ _ _ us hl => match us, hl with | [_, _], _ => rfl
    h_CoupleState_mark_of := ⟨a_CoupleState_mark_of, i_CoupleState_mark_of, k_CoupleState_mark_of⟩
    F_u_law_couple_right := F_u_law_couple_right
    b_u_law_couple_right := F_u_law_couple_right.bindsN fun _ _ _ _ _ _ us hl => match us, hl with | [_, _, _, _, _], _ => rfl
    m_u_law_couple_right := PySem.W.mg_of X G a_u_law_couple_right
    k_u_law_couple_right := k_u_law_couple_right
    F_u_law_spoilt := F_u_law_spoilt
    b_u_law_spoilt := F_u_law_spoilt.bindsN fun _ _ _ _ _ _ us hl => match us, hl with | [_, _, _, _], _ => rfl
    m_u_law_spoilt := PySem.W.mg_of X G a_u_law_spoilt
    k_u_law_spoilt := k_u_law_spoilt
    F_u_law_couple_word := F_u_law_couple_word
    b_u_law_couple_word := F_u_law_couple_word.bindsN fun _ _ _ _ _ _ us hl => match us, hl with | [_, _, _, _, _, _], _ => rfl
    m_u_law_couple_word := PySem.W.mg_of X G a_u_law_couple_word
    k_u_law_couple_word := k_u_law_couple_word
    F_u_law_person_word := F_u_law_person_word
    b_u_law_person_word := F_u_law_person_word.bindsN fun _ _ _ _ _ _ us hl => match us, hl with | [_, _, _, _], _ => rfl
    m_u_law_person_word := PySem.W.mg_of X G a_u_law_person_word
    k_u_law_person_word := k_u_law_person_word
    F_u_law_first := F_u_law_first
    b_u_law_first := F_u_law_first.bindsN fun _ _ _ _ _ _ us hl => match us, hl with | [_], _ => rfl
    m_u_law_first := PySem.W.mg_of X G a_u_law_first
    k_u_law_first := k_u_law_first
    F_u_law_refusals := F_u_law_refusals
    b_u_law_refusals := F_u_law_refusals.bindsN fun _ _ _ _ _ _ us hl => match us, hl with | [_, _, _, _], _ => rfl
    m_u_law_refusals := PySem.W.mg_of X G a_u_law_refusals
    k_u_law_refusals := k_u_law_refusals
    F_law := F_law
    b_law := F_law.bindsN fun _ _ _ _ _ _ us hl => match us, hl with | [_], _ => rfl
    m_law := PySem.W.mg_of X G a_law
    k_law := k_law
    hn := hn
    ht := ht
    cl_PersonState := ⟨pg_PersonState, hd_PersonState, po_PersonState, sa_PersonState⟩
    ha_PersonState := ha_PersonState
    hm_PersonState := hm_PersonState
    na_PersonState_kind := na_PersonState_kind
    na_PersonState_names := na_PersonState_names
    na_PersonState_lives := na_PersonState_lives
    na_PersonState_mark := na_PersonState_mark
    na_PersonState_key := na_PersonState_key
    mk_PersonState := ⟨mk_PersonState, a_PersonState___init, i_PersonState___init, kc_PersonState⟩
    q_PersonState := ⟨a_PersonState___eq, i_PersonState___eq⟩
    nf_PersonState_PersonState := nf_PersonState_PersonState
    nf_PersonState_tuple := nf_PersonState_tuple
    cl_CoupleState := ⟨pg_CoupleState, hd_CoupleState, po_CoupleState, sa_CoupleState⟩
    ha_CoupleState := ha_CoupleState
    hm_CoupleState := hm_CoupleState
    na_CoupleState_classes := na_CoupleState_classes
    na_CoupleState_names := na_CoupleState_names
    na_CoupleState_lives := na_CoupleState_lives
    na_CoupleState_sons := na_CoupleState_sons
    na_CoupleState_daughters := na_CoupleState_daughters
    na_CoupleState_borne := na_CoupleState_borne
    na_CoupleState_marks := na_CoupleState_marks
    na_CoupleState_key := na_CoupleState_key
    na_CoupleState_is_new := na_CoupleState_is_new
    mk_CoupleState := ⟨mk_CoupleState, a_CoupleState___init, i_CoupleState___init, kc_CoupleState⟩
    q_CoupleState := ⟨a_CoupleState___eq, i_CoupleState___eq⟩
    nf_CoupleState_CoupleState := nf_CoupleState_CoupleState
    nf_CoupleState_tuple := nf_CoupleState_tuple
    is_0 := kit_ref (fun _ => rfl) ic_PersonState ty_PersonState sb_PersonState_PersonState
    is_1 := kit_ref (fun h => by cases beq_iff_eq.mp h) ic_PersonState ty_PersonState sb_tuple_PersonState
    is_2 := kit_ref (fun _ => rfl) ic_CoupleState ty_CoupleState sb_CoupleState_CoupleState
    is_3 := kit_ref (fun h => by cases beq_iff_eq.mp h) ic_CoupleState ty_CoupleState sb_tuple_CoupleState
    xm_BadState_0 := PySem.W.exm_ref ex_BadState hd_BadState ty_BadState sb_CustomError_BadState
    xm_BadState_1 := PySem.W.exm_ref ex_BadState hd_BadState ty_BadState sb_BadState_BadState
    ie_CustomError_0 := kit_ref (fun _ => rfl) ic_CustomError ty_CustomError sb_CustomError_CustomError
    ie_CustomError_1 := kit_ref (fun _ => rfl) ic_CustomError ty_CustomError sb_BadState_CustomError
    ex_0 := ⟨ga_CustomError, gg_CustomError, ex_CustomError, hd_CustomError, ha_CustomError, hn, ht, hm_CustomError⟩
    ex_1 := ⟨ga_BadState, gg_BadState, ex_BadState, hd_BadState, ha_BadState, hn, ht, hm_BadState⟩ }
  exact ⟨_, fun s v => F_law.bindsA (ps := ["_law_script"]) (fun _ _ _ _ _ _ us hl => match us, hl with | [_], _ => rfl) s [v] rfl, fun base _ _ => (ok_law T).imp law_spec⟩
theorem walk {q : Program} {loose : List Str} {XP : (Str → Option Value) → Heap → Prop} {YP : World → Heap → Prop} {d : DefRec} {K : Params → PySem.W.Frag} (hdf : d.params.defaults = [])
    (hY : ∀ (w : World) (h : Heap), YP w h → (K w.params).In h)
    (F : ∀ (w : World) (mg : Str → Option Value) (fa : Addr) (h : Heap), (K w.params).In h → h.Ns mainGlobals mg → mg d.name = some (.ref fa) →
      ∃ fd : FuncData, (∀ (s : Shared) (u : Value), BindsTo s fd ⟨[u], []⟩ [("_law_script", u)]) ∧ ∀ base : Heap, (K w.params).In base → base.Ns mainGlobals mg → FnOk PW w (K w.params) mg base (L2.CX PW w) 8 fa fd ["_law_script"] (spLaw (K w.params))) :
    PySem.W.WalkO q loose XP YP PySem.Challenge.rw_namesakes_k35_states_made_and_refused.row.toRowW d [] (fun f vs => PySem.call f vs) :=
  L2.walk_of (l := PySem.Challenge.rw_namesakes_k35_states_made_and_refused) (n := 63) (k := 8) (x := "_law_script") (CX := fun w => L2.CX PW w) (sp := fun w => spLaw (K w.params)) rfl (by decide) hdf ⟨rfl, by decide, by decide⟩ hY F (fun _ _ a ns hl _ hS => ⟨a, ns, rfl, hS, hl, fun _ => rfl⟩) (fun _ _ _ _ _ z => NK.cx_false z)
end G
open PySem PySem.W PyProof.Rows in
set_option maxRecDepth 100000 in
set_option maxHeartbeats 0 in
theorem PySem.Challenge.cw_namesakes_k35_states_made_and_refused_holds : PySem.Challenge.rw_namesakes_k35_states_made_and_refused.Holds := by
  w_on; o_law; k_head; (case hw => w_witness2)
  k_fill
  refine G.walk rfl (fun w h Y => PySem.W.kIn_of Y) ?F
  case F =>
    intro w mg fa h KX Gn hmg
    refine' G.all_mk KX Gn hmg ?z_abs ?z_bool ?z_enumerate ?z_int ?z_isinstance ?z_len ?z_list ?z_min ?z_range ?z_str ?z_sum ?z_super ?z_tuple ?g_MOST_MARK ?g_MOST_PLACES ?a_CustomError ?a_BadState ?a_PersonState ?a_CoupleState ?a_u_law_hand ?l_u_law_hand ?c_u_law_hand ?k_u_law_hand ?a_u_law_mix ?l_u_law_mix ?c_u_law_mix ?k_u_law_mix ?a_u_law_draw ?l_u_law_draw ?c_u_law_draw ?k_u_law_draw ?a_u_law_classes ?l_u_law_classes ?c_u_law_classes ?k_u_law_classes ?a_u_law_pick ?l_u_law_pick ?c_u_law_pick ?k_u_law_pick ?a_u_law_entries ?l_u_law_entries ?c_u_law_entries ?k_u_law_entries ?a_u_law_drawn_lives ?l_u_law_drawn_lives ?c_u_law_drawn_lives ?k_u_law_drawn_lives ?a_u_law_drawn_marks ?l_u_law_drawn_marks ?c_u_law_drawn_marks ?k_u_law_drawn_marks ?a_entries_fault ?l_entries_fault ?c_entries_fault ?k_entries_fault ?a_BadState___init ?t_BadState___init ?l_BadState___init ?c_BadState___init ?k1_BadState ?k2_BadState ?k3_BadState ?k4_BadState ?x_BadState ?sa_BadState ?ex_BadState ?ty_BadState ?kc_BadState ?ga_BadState ?gg_BadState ?hd_BadState ?su_BadState ?iv_BadState ?se_BadState ?opq ?u_BadState ?n_BadState_what ?a_check_entries ?l_check_entries ?c_check_entries ?k_check_entries ?a_check_life_row ?l_check_life_row ?c_check_life_row ?k_check_life_row ?a_is_whole ?l_is_whole ?c_is_whole ?k_is_whole ?a_check_marks ?l_check_marks ?c_check_marks ?k_check_marks ?a_is_kind ?l_is_kind ?c_is_kind ?k_is_kind ?a_PersonState___init ?l_PersonState___init ?c_PersonState___init ?k_PersonState___init ?i_PersonState___init ?dt_PersonState___init ?a_PersonState___eq ?l_PersonState___eq ?c_PersonState___eq ?k_PersonState___eq ?i_PersonState___eq ?a_u_law_person_right ?l_u_law_person_right ?c_u_law_person_right ?k_u_law_person_right ?a_check_borne ?l_check_borne ?c_check_borne ?k_check_borne ?a_CoupleState___init ?l_CoupleState___init ?c_CoupleState___init ?k_CoupleState___init ?i_CoupleState___init ?dt_CoupleState___init ?du_CoupleState___init ?a_CoupleState___eq ?l_CoupleState___eq ?c_CoupleState___eq ?k_CoupleState___eq ?i_CoupleState___eq ?a_u_law_many ?l_u_law_many ?c_u_law_many ?k_u_law_many ?a_CoupleState_mark_of ?l_CoupleState_mark_of ?c_CoupleState_mark_of ?k_CoupleState_mark_of ?i_CoupleState_mark_of ?a_u_law_couple_right ?l_u_law_couple_right ?c_u_law_couple_right ?k_u_law_couple_right ?a_u_law_spoilt ?l_u_law_spoilt ?c_u_law_spoilt ?k_u_law_spoilt ?a_u_law_couple_word ?l_u_law_couple_word ?c_u_law_couple_word ?k_u_law_couple_word ?a_u_law_person_word ?l_u_law_person_word ?c_u_law_person_word ?k_u_law_person_word ?a_u_law_first ?l_u_law_first ?c_u_law_first ?k_u_law_first ?a_u_law_refusals ?l_u_law_refusals ?c_u_law_refusals ?k_u_law_refusals ?a_law ?l_law ?c_law ?k_law ?hn ?ht ?pg_PersonState ?hd_PersonState ?po_PersonState ?sa_PersonState ?ha_PersonState ?hm_PersonState ?na_PersonState_kind ?na_PersonState_names ?na_PersonState_lives ?na_PersonState_mark ?na_PersonState_key ?mk_PersonState ?kc_PersonState ?nf_PersonState_PersonState ?nf_PersonState_tuple ?pg_CoupleState ?hd_CoupleState ?po_CoupleState ?sa_CoupleState ?ha_CoupleState ?hm_CoupleState ?na_CoupleState_classes ?na_CoupleState_names ?na_CoupleState_lives ?na_CoupleState_sons ?na_CoupleState_daughters ?na_CoupleState_borne ?na_CoupleState_marks ?na_CoupleState_key ?na_CoupleState_is_new ?mk_CoupleState ?kc_CoupleState ?nf_CoupleState_CoupleState ?nf_CoupleState_tuple ?ic_PersonState ?ty_PersonState ?sb_PersonState_PersonState ?sb_tuple_PersonState ?ic_CoupleState ?ty_CoupleState ?sb_CoupleState_CoupleState ?sb_tuple_CoupleState ?sb_CustomError_BadState ?sb_BadState_BadState ?ic_CustomError ?ty_CustomError ?sb_CustomError_CustomError ?sb_BadState_CustomError ?ga_CustomError ?gg_CustomError ?ex_CustomError ?hd_CustomError ?ha_CustomError ?hm_CustomError ?ha_BadState ?hm_BadState
    (case z_abs => k_is)
    (case z_bool => k_is)
    (case z_enumerate => k_is)
    (case z_int => k_is)
    (case z_isinstance => k_is)
    (case z_len => k_is)
    (case z_list => k_is)
    (case z_min => k_is)
    (case z_range => k_is)
    (case z_str => k_is)
    (case z_sum => k_is)
    (case z_super => k_is)
    (case z_tuple => k_is)
    (case g_MOST_MARK => k_is)
    (case g_MOST_PLACES => k_is)
    (case a_CustomError => k_is)
    (case a_BadState => k_is)
    (case a_PersonState => k_is)
    (case a_CoupleState => k_is)
    (case a_u_law_hand => k_is)
    (case l_u_law_hand => k_is)
    (case c_u_law_hand => k_is)
    (case k_u_law_hand => k_is)
    (case a_u_law_mix => k_is)
    (case l_u_law_mix => k_is)
    (case c_u_law_mix => k_is)
    (case k_u_law_mix => k_is)
    (case a_u_law_draw => k_is)
    (case l_u_law_draw => k_is)
    (case c_u_law_draw => k_is)
    (case k_u_law_draw => k_is)
    (case a_u_law_classes => k_is)
    (case l_u_law_classes => k_is)
    (case c_u_law_classes => k_is)
    (case k_u_law_classes => k_is)
    (case a_u_law_pick => k_is)
    (case l_u_law_pick => k_is)
    (case c_u_law_pick => k_is)
    (case k_u_law_pick => k_is)
    (case a_u_law_entries => k_is)
    (case l_u_law_entries => k_is)
    (case c_u_law_entries => k_is)
    (case k_u_law_entries => k_is)
    (case a_u_law_drawn_lives => k_is)
    (case l_u_law_drawn_lives => k_is)
    (case c_u_law_drawn_lives => k_is)
    (case k_u_law_drawn_lives => k_is)
    (case a_u_law_drawn_marks => k_is)
    (case l_u_law_drawn_marks => k_is)
    (case c_u_law_drawn_marks => k_is)
    (case k_u_law_drawn_marks => k_is)
    (case a_entries_fault => k_is)
    (case l_entries_fault => k_is)
    (case c_entries_fault => k_is)
    (case k_entries_fault => k_is)
    (case a_BadState___init => k_is)
    (case t_BadState___init => k_is)
    (case l_BadState___init => k_is)
    (case c_BadState___init => k_is)
    (case k1_BadState => k_is)
    (case k2_BadState => rfl)
    (case k3_BadState => decide +kernel)
    (case k4_BadState => k_is)
    (case x_BadState => k_is)
    (case sa_BadState => k_is)
    (case ex_BadState => k_is)
    (case ty_BadState => k_is)
    (case kc_BadState => k_is)
    (case ga_BadState => k_is)
    (case gg_BadState => k_is)
    (case hd_BadState => k_is)
    (case su_BadState => ks_is)
    (case iv_BadState => k_is)
    (case se_BadState => k_is)
    (case opq => k_is)
    (case u_BadState => decide +kernel)
    (case n_BadState_what => k_is)
    (case a_check_entries => k_is)
    (case l_check_entries => k_is)
    (case c_check_entries => k_is)
    (case k_check_entries => k_is)
    (case a_check_life_row => k_is)
    (case l_check_life_row => k_is)
    (case c_check_life_row => k_is)
    (case k_check_life_row => k_is)
    (case a_is_whole => k_is)
    (case l_is_whole => k_is)
    (case c_is_whole => k_is)
    (case k_is_whole => k_is)
    (case a_check_marks => k_is)
    (case l_check_marks => k_is)
    (case c_check_marks => k_is)
    (case k_check_marks => k_is)
    (case a_is_kind => k_is)
    (case l_is_kind => k_is)
    (case c_is_kind => k_is)
    (case k_is_kind => k_is)
    (case a_PersonState___init => k_is)
    (case l_PersonState___init => k_is)
    (case c_PersonState___init => k_is)
    (case k_PersonState___init => k_is)
    (case i_PersonState___init => k_is)
    (case dt_PersonState___init => k_is)
    (case a_PersonState___eq => k_is)
    (case l_PersonState___eq => k_is)
    (case c_PersonState___eq => k_is)
    (case k_PersonState___eq => k_is)
    (case i_PersonState___eq => k_is)
    (case a_u_law_person_right => k_is)
    (case l_u_law_person_right => k_is)
    (case c_u_law_person_right => k_is)
    (case k_u_law_person_right => k_is)
    (case a_check_borne => k_is)
    (case l_check_borne => k_is)
    (case c_check_borne => k_is)
    (case k_check_borne => k_is)
    (case a_CoupleState___init => k_is)
    (case l_CoupleState___init => k_is)
    (case c_CoupleState___init => k_is)
    (case k_CoupleState___init => k_is)
    (case i_CoupleState___init => k_is)
    (case dt_CoupleState___init => k_is)
    (case du_CoupleState___init => k_is)
    (case a_CoupleState___eq => k_is)
    (case l_CoupleState___eq => k_is)
    (case c_CoupleState___eq => k_is)
    (case k_CoupleState___eq => k_is)
    (case i_CoupleState___eq => k_is)
    (case a_u_law_many => k_is)
    (case l_u_law_many => k_is)
    (case c_u_law_many => k_is)
    (case k_u_law_many => k_is)
    (case a_CoupleState_mark_of => k_is)
    (case l_CoupleState_mark_of => k_is)
    (case c_CoupleState_mark_of => k_is)
    (case k_CoupleState_mark_of => k_is)
    (case i_CoupleState_mark_of => k_is)
    (case a_u_law_couple_right => k_is)
    (case l_u_law_couple_right => k_is)
    (case c_u_law_couple_right => k_is)
    (case k_u_law_couple_right => k_is)
    (case a_u_law_spoilt => k_is)
    (case l_u_law_spoilt => k_is)
    (case c_u_law_spoilt => k_is)
    (case k_u_law_spoilt => k_is)
    (case a_u_law_couple_word => k_is)
    (case l_u_law_couple_word => k_is)
    (case c_u_law_couple_word => k_is)
    (case k_u_law_couple_word => k_is)
    (case a_u_law_person_word => k_is)
    (case l_u_law_person_word => k_is)
    (case c_u_law_person_word => k_is)
    (case k_u_law_person_word => k_is)
    (case a_u_law_first => k_is)
    (case l_u_law_first => k_is)
    (case c_u_law_first => k_is)
    (case k_u_law_first => k_is)
    (case a_u_law_refusals => k_is)
    (case l_u_law_refusals => k_is)
    (case c_u_law_refusals => k_is)
    (case k_u_law_refusals => k_is)
    (case a_law => k_is)
    (case l_law => k_is)
    (case c_law => k_is)
    (case k_law => k_is)
    (case hn => k_is)
    (case ht => k_is)
    (case pg_PersonState => k_is)
    (case hd_PersonState => k_is)
    (case po_PersonState => k_is)
    (case sa_PersonState => k_is)
    (case ha_PersonState => k_is)
    (case hm_PersonState => k_is)
    (case na_PersonState_kind => k_is)
    (case na_PersonState_names => k_is)
    (case na_PersonState_lives => k_is)
    (case na_PersonState_mark => k_is)
    (case na_PersonState_key => k_is)
    (case mk_PersonState => k_is)
    (case kc_PersonState => k_is)
    (case nf_PersonState_PersonState => k_is)
    (case nf_PersonState_tuple => k_is)
    (case pg_CoupleState => k_is)
    (case hd_CoupleState => k_is)
    (case po_CoupleState => k_is)
    (case sa_CoupleState => k_is)
    (case ha_CoupleState => k_is)
    (case hm_CoupleState => k_is)
    (case na_CoupleState_classes => k_is)
    (case na_CoupleState_names => k_is)
    (case na_CoupleState_lives => k_is)
    (case na_CoupleState_sons => k_is)
    (case na_CoupleState_daughters => k_is)
    (case na_CoupleState_borne => k_is)
    (case na_CoupleState_marks => k_is)
    (case na_CoupleState_key => k_is)
    (case na_CoupleState_is_new => k_is)
    (case mk_CoupleState => k_is)
    (case kc_CoupleState => k_is)
    (case nf_CoupleState_CoupleState => k_is)
    (case nf_CoupleState_tuple => k_is)
    (case ic_PersonState => k_is)
    (case ty_PersonState => k_is)
    (case sb_PersonState_PersonState => k_is)
    (case sb_tuple_PersonState => k_is)
    (case ic_CoupleState => k_is)
    (case ty_CoupleState => k_is)
    (case sb_CoupleState_CoupleState => k_is)
    (case sb_tuple_CoupleState => k_is)
    (case sb_CustomError_BadState => k_is)
    (case sb_BadState_BadState => k_is)
    (case ic_CustomError => k_is)
    (case ty_CustomError => k_is)
    (case sb_CustomError_CustomError => k_is)
    (case sb_BadState_CustomError => k_is)
    (case ga_CustomError => k_is)
    (case gg_CustomError => k_is)
    (case ex_CustomError => k_is)
    (case hd_CustomError => k_is)
    (case ha_CustomError => k_is)
    (case hm_CustomError => k_is)
    (case ha_BadState => k_is)
    (case hm_BadState => k_is)

