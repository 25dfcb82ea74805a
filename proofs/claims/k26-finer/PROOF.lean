import PyProof.Rows.All
import Wide.All
import OpenK.AllK
import Wide.FinOn
import HandS.ForMost
import HandS.IsInst
import HandS.ForExc
import HandS.Walk
import HandS.CallSlots
import HandS.Strs
import HandS.Lambda
import HandS.Wide
import KE.KSuper
import KE.KExcSuper
import HandS.ExcInit
import HandS.ExcIs
import HandS.ExcField
import HandS.ExcOwn
import HandS.SetBool
import KE.GoesMore
import HandS.WordsExc
import HandS.Defaults
import HandS.Conv
import HandS.Dict
import HandS.TupAny
import HandS.Deep
import HandS.OwnIter
import HandS.IterVal
import HandS.Style
import PyProof.WalksMore
import PyProof.CollectWalk
import HandS.Iter
import HandS.GenList
import HandS.Star
import HandS.Text
import HandS.StrMore
import HandS.FStr
import HandS.Flow
import PyProof.FString3
import PyProof.StrOps2
import KE.KxField
import HandS.TryMany
import HandS.EndTab
import HandS.ClsMeth
import HandS.OwnEq
import HandS.MakeKwOnly
import HandS.RaiseMore
import KE.KCallOwn
import HandS.More
import HandS.Replace
import KE.DataMinMax
import HandS.SortKw
import HandS.Zip
import HandS.SetKeys
import HandS.TupLen
import PySem.Challenge.RW_namesakes_k26_whole_finer_least_above_an
import KE.RegKSuper
set_option Elab.async false
set_option linter.all false
set_option maxRecDepth 100000
set_option maxHeartbeats 2000000
namespace NK
open PySem L2

inductive Ty where
  | none | bool | int | str | list | tuple | dict
  deriving DecidableEq
def Ty.name : Ty → String
  | .none => "NoneType" | .bool => "bool" | .int => "int" | .str => "str" | .list => "list" | .tuple => "tuple" | .dict => "dict"
inductive U where
  | non | bl (b : Bool) | int (i : Int) | str (x : Str)
  | tup (us : List U) | lst (us : List U) | ins (k : Nat) (us : List U)
  | loc (i : Nat)
  | ty (t : Ty) | cls (k : Nat) | scr (us : List U)

inductive Ob where
  | lst (us : List U)
  | dK (kvs : List (Key × U))
  | dT (kvs : List (List Key × U))
  | ins (k : Nat) (us : List U)
  | iset (ks : List Int)
  | tp (us : List U)
  | dead
  | lk (o : Ob)
def Ob.isLk : Ob → Bool
  | .lk _ => true
  | _ => false

abbrev Sto := List Ob

structure Ex where
  k : Nat
  us : List U

inductive Out (α : Type) where
  | ok (a : α) (s : Sto)
  | exc (x : Ex) (s : Sto)
  | bad

def Out.bind {α β : Type} (r : Out α) (f : α → Sto → Out β) : Out β := match r with
  | .ok a s => f a s
  | .exc x s => .exc x s
  | .bad => .bad

structure Tb where
  w : World
  K : PySem.W.Frag
  cls : Nat → Addr
  fld : Nat → List Str
  tabs : List (Addr × Str) := []

structure Cn where
  ρ : Nat → Addr
  n : Nat
  F : Hp
  L : Hp

mutual
inductive Rp (T : Tb) (c : Cn) : U → V → Prop
  | non : Rp T c .non .non
  | bl (b : Bool) : Rp T c (.bl b) (.bl b)
  | int (i : Int) : Rp T c (.int i) (.int i)
  | str (x : Str) : Rp T c (.str x) (.str x)
  | ty (t : Ty) : Rp T c (.ty t) (.ty t.name)
  | cls (k : Nat) : Rp T c (.cls k) (.ref (T.cls k))
  | scr {us : List U} {a : Addr} {vs : List V} : SqL T.K c.F a vs → RpL T c us vs → Rp T c (.scr us) (.ref a)
  | tup {us : List U} {a : Addr} {vs : List V} : SqT T.K c.F a vs → RpL T c us vs → Rp T c (.tup us) (.ref a)
  | lst {us : List U} {a : Addr} {vs : List V} : c.F a = some (.lst vs) → RpL T c us vs → Rp T c (.lst us) (.ref a)
  | ins {k : Nat} {us : List U} {a dx : Addr} {vs : List V} : c.F a = some (.ins (T.cls k) dx ((T.fld k).zip vs)) → vs.length ≤ (T.fld k).length → RpL T c us vs → Rp T c (.ins k us) (.ref a)
  | loc {i : Nat} : i < c.n → Rp T c (.loc i) (.ref (c.ρ i))
inductive RpL (T : Tb) (c : Cn) : List U → List V → Prop
  | nil : RpL T c [] []
  | cons {u : U} {v : V} {us : List U} {vs : List V} : Rp T c u v → RpL T c us vs → RpL T c (u :: us) (v :: vs)
end

inductive RpK {κ : Type} (T : Tb) (c : Cn) : List (κ × U) → List (κ × V) → Prop
  | nil : RpK T c [] []
  | cons {k : κ} {u : U} {v : V} {us : List (κ × U)} {vs : List (κ × V)} : Rp T c u v → RpK T c us vs → RpK T c ((k, u) :: us) ((k, v) :: vs)

structure Le (c c' : Cn) : Prop where
  n : c.n ≤ c'.n
  ρ : ∀ i, i < c.n → c'.ρ i = c.ρ i
  F : ∀ a o, c.F a = some o → c'.F a = some o
  L : ∀ a o, c.L a = some o → c'.L a = some o
theorem Le.refl (c : Cn) : Le c c := ⟨Nat.le_refl _, fun _ _ => rfl, fun _ _ h => h, fun _ _ h => h⟩
theorem Le.trans {a b c : Cn} (h : Le a b) (g : Le b c) : Le a c :=
  ⟨Nat.le_trans h.n g.n, fun i hi => (g.ρ i (Nat.lt_of_lt_of_le hi h.n)).trans (h.ρ i hi), fun x o e => g.F x o (h.F x o e), fun x o e => g.L x o (h.L x o e)⟩

theorem rd_mono {F F' : Hp} (h : ∀ a o, F a = some o → F' a = some o) {a : Addr} {u : HO} (r : Rd F a u) : Rd F' a u := by
  rcases r with r | ⟨o, r⟩
  · exact .inl (h _ _ r)
  · exact .inr ⟨o, h _ _ r⟩
theorem sqT_mono {K : PySem.W.Frag} {F F' : Hp} (h : ∀ a o, F a = some o → F' a = some o) {a : Addr} {vs : List V} (r : SqT K F a vs) : SqT K F' a vs := by
  rcases r with r | r
  · exact .inl (rd_mono h r)
  · exact .inr r
theorem sqL_mono {K : PySem.W.Frag} {F F' : Hp} (h : ∀ a o, F a = some o → F' a = some o) {a : Addr} {vs : List V} (r : SqL K F a vs) : SqL K F' a vs := by
  rcases r with r | r
  · exact .inl (rd_mono h r)
  · exact .inr r

mutual
theorem Rp.mono {T : Tb} {c c' : Cn} (h : Le c c') : ∀ {u : U} {v : V}, Rp T c u v → Rp T c' u v
  | _, _, .non => .non
  | _, _, .bl b => .bl b
  | _, _, .int i => .int i
  | _, _, .str x => .str x
  | _, _, .ty n => .ty n
  | _, _, .cls k => .cls k
  | _, _, .scr e r => .scr (sqL_mono h.F e) (RpL.mono h r)
  | _, _, .tup e r => .tup (sqT_mono h.F e) (RpL.mono h r)
  | _, _, .lst e r => .lst (h.F _ _ e) (RpL.mono h r)
  | _, _, .ins e l r => .ins (h.F _ _ e) l (RpL.mono h r)
  | _, _, .loc (i := i) hi => by
    have e := h.ρ i hi
    rw [← e]
    exact .loc (Nat.lt_of_lt_of_le hi h.n)
theorem RpL.mono {T : Tb} {c c' : Cn} (h : Le c c') : ∀ {us : List U} {vs : List V}, RpL T c us vs → RpL T c' us vs
  | _, _, .nil => .nil
  | _, _, .cons r t => .cons (Rp.mono h r) (RpL.mono h t)
end
theorem RpK.mono {κ : Type} {T : Tb} {c c' : Cn} (h : Le c c') : ∀ {us : List (κ × U)} {vs : List (κ × V)}, RpK T c us vs → RpK T c' us vs
  | _, _, .nil => .nil
  | _, _, .cons r t => .cons (Rp.mono h r) (RpK.mono h t)

section
variable {T : Tb} {c : Cn}
theorem RpL.length : ∀ {us : List U} {vs : List V}, RpL T c us vs → us.length = vs.length
  | _, _, .nil => rfl
  | _, _, .cons _ t => by simp [RpL.length t]
theorem RpL.get : ∀ {us : List U} {vs : List V} {i : Nat} {u : U}, RpL T c us vs → us[i]? = some u → ∃ v, vs[i]? = some v ∧ Rp T c u v
  | _, _, _, _, .nil, e => by simp at e
  | _, _, 0, _, .cons r _, e => by simp at e; subst e; exact ⟨_, rfl, r⟩
  | _, _, i + 1, u, .cons _ t, e => by
    obtain ⟨v, h1, h2⟩ := RpL.get (i := i) (u := u) t (by simpa using e)
    exact ⟨v, by simpa using h1, h2⟩
theorem RpL.getV : ∀ {us : List U} {vs : List V} {i : Nat} {v : V}, RpL T c us vs → vs[i]? = some v → ∃ u, us[i]? = some u ∧ Rp T c u v
  | _, _, _, _, .nil, e => by simp at e
  | _, _, 0, _, .cons r _, e => by simp at e; subst e; exact ⟨_, rfl, r⟩
  | _, _, i + 1, v, .cons _ t, e => by
    obtain ⟨u, h1, h2⟩ := RpL.getV (i := i) (v := v) t (by simpa using e)
    exact ⟨u, by simpa using h1, h2⟩
theorem RpL.append : ∀ {us us' : List U} {vs vs' : List V}, RpL T c us vs → RpL T c us' vs' → RpL T c (us ++ us') (vs ++ vs')
  | _, _, _, _, .nil, s => s
  | _, _, _, _, .cons r t, s => .cons r (RpL.append t s)
theorem RpL.set : ∀ {us : List U} {vs : List V} (i : Nat) {u : U} {v : V}, RpL T c us vs → Rp T c u v → RpL T c (us.set i u) (vs.set i v)
  | _, _, _, _, _, .nil, _ => .nil
  | _, _, 0, _, _, .cons _ t, r => .cons r t
  | _, _, i + 1, _, _, .cons q t, r => .cons q (RpL.set i t r)
theorem RpL.take : ∀ {us : List U} {vs : List V} (i : Nat), RpL T c us vs → RpL T c (us.take i) (vs.take i)
  | _, _, 0, _ => .nil
  | _, _, _ + 1, .nil => .nil
  | _, _, i + 1, .cons r t => .cons r (RpL.take i t)
theorem RpL.drop : ∀ {us : List U} {vs : List V} (i : Nat), RpL T c us vs → RpL T c (us.drop i) (vs.drop i)
  | _, _, 0, r => r
  | _, _, _ + 1, .nil => .nil
  | _, _, i + 1, .cons _ t => RpL.drop i t
theorem RpL.one {u : U} {v : V} (r : Rp T c u v) : RpL T c [u] [v] := .cons r .nil
theorem RpL.inv_cons {u : U} {us : List U} {ws : List V} (r : RpL T c (u :: us) ws) : ∃ v vs, ws = v :: vs ∧ Rp T c u v ∧ RpL T c us vs := by
  cases r with
  | cons a b => exact ⟨_, _, rfl, a, b⟩
theorem RpL.inv_nil {ws : List V} (r : RpL T c [] ws) : ws = [] := by
  cases r with
  | nil => rfl
end

def RO (T : Tb) (c : Cn) : Ob → Addr → HO → Prop
  | .lst us, _, h => ∃ vs, h = .lst vs ∧ RpL T c us vs
  | .tp us, _, h => ∃ vs, h = .tup vs ∧ RpL T c us vs
  | .dK kvs, _, h => ∃ vs, h = .dK vs ∧ RpK T c kvs vs
  | .dT kvs, _, h => ∃ vs, h = .dT vs ∧ RpK T c kvs vs
  | .ins k us, _, h => ∃ dx vs, h = .ins (T.cls k) dx ((T.fld k).zip vs) ∧ vs.length ≤ (T.fld k).length ∧ RpL T c us vs
  | .iset ks, a, h => h = SetO T.w a (fun k => decide (k ∈ ks)) ks.length
  | .dead, _, _ => False
  | .lk o, a, h => ∃ od x, h = .frz od x ∧ c.L a = some h ∧ RO T c o a x
theorem RO.mono {T : Tb} {c c' : Cn} (l : Le c c') {o : Ob} {a : Addr} {h : HO} (r : RO T c o a h) : RO T c' o a h := by
  induction o generalizing h with
  | lk o ih => obtain ⟨od, x, e, k, r⟩ := r; exact ⟨od, x, e, l.L _ _ k, ih r⟩
  | lst us => obtain ⟨vs, e, r⟩ := r; exact ⟨vs, e, r.mono l⟩
  | tp us => obtain ⟨vs, e, r⟩ := r; exact ⟨vs, e, r.mono l⟩
  | dK kvs => obtain ⟨vs, e, r⟩ := r; exact ⟨vs, e, r.mono l⟩
  | dT kvs => obtain ⟨vs, e, r⟩ := r; exact ⟨vs, e, r.mono l⟩
  | ins k us => obtain ⟨dx, vs, e, z, r⟩ := r; exact ⟨dx, vs, e, z, r.mono l⟩
  | iset ks => exact r
  | dead => exact r.elim

def TabF (F H : Hp) (p : Addr × Str) : Prop := ∃ ps : Array Value, H p.1 = some (.tbl ps) ∧ TriplesOk ps.toList ∧ ∀ (z : Pos) (v : Value), codeAmong z ps.toList = some v → ∃ a, v = .ref a ∧ F a = some (LamX.CodeO a p.2)
theorem TabF.mono {F F' H H' : Hp} {p : Addr × Str} (h : TabF F H p) (f : ∀ a o, F a = some o → F' a = some o) (g : ∀ ps, H p.1 = some (.tbl ps) → H' p.1 = some (.tbl ps)) : TabF F' H' p := by
  obtain ⟨ps, h1, h2, h3⟩ := h
  refine ⟨ps, g ps h1, h2, fun z v e => ?_⟩
  obtain ⟨a, e1, e2⟩ := h3 z v e
  exact ⟨a, e1, f _ _ e2⟩
def isTbl : HO → Bool
  | .tbl _ => true
  | _ => false
structure RH (T : Tb) (c : Cn) (st : Sto) (H : Hp) : Prop where
  n : c.n = st.length
  sub : ∀ a o, c.F a = some o → H a = some o
  act : ∀ i o, st[i]? = some o → o ≠ .dead → ∃ h, H (c.ρ i) = some h ∧ RO T c o (c.ρ i) h ∧ c.F (c.ρ i) = none
  inj : ∀ i j a b, st[i]? = some a → a ≠ .dead → st[j]? = some b → b ≠ .dead → c.ρ i = c.ρ j → i = j
  lkd : ∀ a o, c.L a = some o → H a = some o ∧ ∃ od x, o = .frz od x
  tab : ∀ p ∈ T.tabs, TabF c.F H p
  ntb : ∀ a o, c.F a = some o → isTbl o = false
theorem RO.notbl {T : Tb} {c : Cn} {o : Ob} {a : Addr} {h : HO} (r : RO T c o a h) : isTbl h = false := by
  cases o with
  | lst us => obtain ⟨vs, e, _⟩ := r; rw [e]; rfl
  | tp us => obtain ⟨vs, e, _⟩ := r; rw [e]; rfl
  | dK us => obtain ⟨vs, e, _⟩ := r; rw [e]; rfl
  | dT us => obtain ⟨vs, e, _⟩ := r; rw [e]; rfl
  | ins k us => obtain ⟨dx, vs, e, _⟩ := r; rw [e]; rfl
  | iset ks =>
    have e : h = SetO T.w a (fun k => decide (k ∈ ks)) ks.length := r
    rw [e]
    rfl
  | dead => exact r.elim
  | lk o => obtain ⟨od, x, e, _⟩ := r; rw [e]; rfl
theorem tbl_upd {H : Hp} {a b : Addr} {o : HO} (h : H b = none ∨ ∃ u, H b = some u ∧ isTbl u = false) (ps : Array Value) (e : H a = some (.tbl ps)) : upd H b o a = some (.tbl ps) := by
  rw [upd_ne]
  · exact e
  · intro z
    rw [z] at e
    rcases h with h | ⟨u, h, k⟩
    · rw [h] at e
      cases e
    · rw [h] at e
      cases e
      cases k
theorem RO.nofrz {T : Tb} {c : Cn} {o : Ob} {a : Addr} {h : HO} (k : o.isLk = false) (r : RO T c o a h) : ∀ od x, h ≠ .frz od x := by
  intro od x e
  subst e
  cases o with
  | lst us => obtain ⟨vs, e, _⟩ := r; cases e
  | tp us => obtain ⟨vs, e, _⟩ := r; cases e
  | dK us => obtain ⟨vs, e, _⟩ := r; cases e
  | dT us => obtain ⟨vs, e, _⟩ := r; cases e
  | ins k us => obtain ⟨dx, vs, e, _⟩ := r; cases e
  | iset ks => cases (show HO.frz od x = SetO T.w a (fun k => decide (k ∈ ks)) ks.length from r)
  | dead => exact r
  | lk o => cases k

def RX (T : Tb) (c : Cn) (x : Ex) (cls : Value) (d : Option Addr) : Prop :=
  cls = .ref (T.cls x.k) ∧ ∃ (dx : Addr) (vs : List V), d = some dx ∧ c.F dx = some (.xd (((T.fld x.k).zip vs).reverse)) ∧ vs.length = (T.fld x.k).length ∧ RpL T c x.us vs
theorem RX.mono {T : Tb} {c c' : Cn} (l : Le c c') {x : Ex} {cls : Value} {d : Option Addr} (r : RX T c x cls d) : RX T c' x cls d := by
  obtain ⟨e, dx, vs, h1, h2, h3, h4⟩ := r
  exact ⟨e, dx, vs, h1, l.F _ _ h2, h3, h4.mono l⟩

structure PinD where
  i : Nat
  a : Addr
  x : Ex
  cls : Value
  d : Option Addr
abbrev Pin := Option PinD
def pinned (P : Pin) (i : Nat) : Bool := match P with
  | some p => p.i == i
  | none => false

abbrev Env := List (Option U)
structure RE (T : Tb) (P : Pin) (c : Cn) (env : Env) (σ : St) : Prop where
  len : env.length = σ.length
  get : ∀ (i : Nat) (u : U), env[i]? = some (some u) → ∃ v, σ[i]? = some (some v) ∧ Rp T c u v
  pin : ∀ p, P = some p → σ[p.i]? = some (some (.ref p.a)) ∧ RX T c p.x p.cls p.d
theorem RE.mono {T : Tb} {P : Pin} {c c' : Cn} (l : Le c c') {env : Env} {σ : St} (r : RE T P c env σ) : RE T P c' env σ :=
  ⟨r.len, fun i u e => let ⟨v, h, q⟩ := r.get i u e; ⟨v, h, q.mono l⟩, fun p e => ⟨(r.pin p e).1, (r.pin p e).2.mono l⟩⟩
theorem RE.set {T : Tb} {P : Pin} {c : Cn} {env : Env} {σ : St} (r : RE T P c env σ) {u : U} {v : V} (q : Rp T c u v) (i : Nat) (hp : pinned P i = false) : RE T P c (env.set i (some u)) (σ.set i (some v)) := by
  refine ⟨by simp [r.len], fun j w e => ?_, fun p e => ⟨?_, (r.pin p e).2⟩⟩
  · by_cases h : i = j
    · subst h
      have hi : i < env.length := by
        have := (List.getElem?_eq_some_iff.mp e).1
        simpa using this
      rw [List.getElem?_set_self hi] at e
      cases e
      exact ⟨v, by rw [List.getElem?_set_self (by rw [← r.len]; exact hi)], q⟩
    · rw [List.getElem?_set_ne h] at e
      rw [List.getElem?_set_ne h]
      exact r.get j w e
  · subst e
    have h : i ≠ p.i := fun z => by
      have z' : (p.i == i) = false := hp
      rw [z] at z'
      simp at z'
    rw [List.getElem?_set_ne h]
    exact (r.pin p rfl).1
theorem RE.unset {T : Tb} {P : Pin} {c : Cn} {env : Env} {σ : St} (r : RE T P c env σ) (i : Nat) (hp : pinned P i = false) : RE T P c (env.set i none) (σ.set i none) := by
  refine ⟨by simp [r.len], fun j w e => ?_, fun p e => ⟨?_, (r.pin p e).2⟩⟩
  · by_cases h : i = j
    · subst h
      have hi : i < env.length := by
        have := (List.getElem?_eq_some_iff.mp e).1
        simpa using this
      rw [List.getElem?_set_self hi] at e
      cases e
    · rw [List.getElem?_set_ne h] at e
      rw [List.getElem?_set_ne h]
      exact r.get j w e
  · subst e
    have h : i ≠ p.i := fun z => by
      have z' : (p.i == i) = false := hp
      rw [z] at z'
      simp at z'
    rw [List.getElem?_set_ne h]
    exact (r.pin p rfl).1
def ResG {α β : Type} (T : Tb) (Wx : WX) (c : Cn) (σ : St) (R : Cn → α → β → Prop) (r : Out α) (Q : β → Hp → Prop) : Prop := match r with
  | .ok u st' => ∀ c' v H', Le c c' → RH T c' st' H' → R c' u v → Q v H'
  | .exc x st' => ∀ c' cls d H', Le c c' → RH T c' st' H' → RX T c' x cls d → Wx cls d σ H'
  | .bad => False
abbrev MG (α : Type) := Env → Sto → Out α
abbrev ME := MG U
abbrev MT := MG Bool
abbrev MA := MG (List U)
def tgOf {α β : Type} (T : Tb) (P : Pin) (Wx : WX) (R : Cn → α → β → Prop) (m : MG α) : St → Hp → (β → Hp → Prop) → Prop :=
  fun σ H Q => ∃ c env st, RH T c st H ∧ RE T P c env σ ∧ ResG T Wx c σ R (m env st) Q
abbrev teOf (T : Tb) (P : Pin) (Wx : WX) (m : ME) : TE := tgOf T P Wx (Rp T) m
abbrev ttOf (T : Tb) (P : Pin) (Wx : WX) (m : MT) : TT := tgOf T P Wx (fun _ a b => a = b) m
abbrev taOf (T : Tb) (P : Pin) (Wx : WX) (m : MA) : TA := tgOf T P Wx (RpL T) m

section
variable {α β γ δ : Type} {T : Tb} {P : Pin} {Wx : WX} {R : Cn → α → β → Prop} {R' : Cn → γ → δ → Prop} {c c' : Cn} {σ : St} {r : Out α} {H : Hp} {m : MG α}
theorem ResG.mono {Q Q' : β → Hp → Prop} (h : ResG T Wx c σ R r Q) (k : ∀ v H, Q v H → Q' v H) : ResG T Wx c σ R r Q' := by
  cases r with
  | ok u st => exact fun c' v H' a b d => k _ _ (h c' v H' a b d)
  | exc x st => exact h
  | bad => exact h
theorem ResG.later {Q : β → Hp → Prop} (l : Le c c') (h : ResG T Wx c σ R r Q) : ResG T Wx c' σ R r Q := by
  cases r with
  | ok u st => exact fun c2 v H' a b d => h c2 v H' (l.trans a) b d
  | exc x st => exact fun c2 cls d H' a b e => h c2 cls d H' (l.trans a) b e
  | bad => exact h
theorem tgOf.mono {Q Q' : β → Hp → Prop} (h : tgOf T P Wx R m σ H Q) (k : ∀ v H, Q v H → Q' v H) : tgOf T P Wx R m σ H Q' :=
  let ⟨c, env, st, a, b, r⟩ := h
  ⟨c, env, st, a, b, r.mono k⟩
theorem tg_bind {k : α → Sto → Out γ} {env : Env} {st : Sto} {Q : δ → Hp → Prop} (hH : RH T c st H) (hE : RE T P c env σ) (hR : ResG T Wx c σ R' ((m env st).bind k) Q) :
    tgOf T P Wx R m σ H fun x H1 => ∃ u c1 st1, Le c c1 ∧ RH T c1 st1 H1 ∧ RE T P c1 env σ ∧ R c1 u x ∧ ResG T Wx c1 σ R' (k u st1) Q := by
  refine ⟨c, env, st, hH, hE, ?_⟩
  cases e : m env st with
  | ok u st1 =>
    rw [e] at hR
    exact fun c1 v H1 l h r => ⟨u, c1, st1, l, h, hE.mono l, r, ResG.later l hR⟩
  | exc x st1 =>
    rw [e] at hR
    exact hR
  | bad =>
    rw [e] at hR
    exact hR
theorem ResG.ret {Q : β → Hp → Prop} {u : α} {v : β} {st : Sto} (h : ResG T Wx c σ R (.ok u st) Q) (hH : RH T c st H) (r : R c u v) : Q v H := h c v H (Le.refl c) hH r
end

def PEm (X : Cx) (T : Tb) (P : Pin) (Wx : WX) (e : Expr) (m : ME) : Prop := PE X e (teOf T P Wx m)
def PTm (X : Cx) (T : Tb) (P : Pin) (Wx : WX) (e : Expr) (m : MT) : Prop := PT X e (ttOf T P Wx m)
def PWm (X : Cx) (T : Tb) (P : Pin) (Wx : WX) (e : Expr) (m : MT) : Prop := PW X e (ttOf T P Wx m)
def PAm (X : Cx) (T : Tb) (P : Pin) (Wx : WX) (es : List Expr) (m : MA) : Prop := PA X es (taOf T P Wx m)
theorem PE.imp {X : Cx} {e : Expr} {t t' : TE} (h : PE X e t) (k : ∀ σ H Q, t' σ H Q → t σ H Q) : PE X e t' := ⟨fun pins s σ H Q I q => h.run pins s σ H Q I (k σ H Q q)⟩
theorem PT.imp {X : Cx} {e : Expr} {t t' : TT} (h : PT X e t) (k : ∀ σ H Q, t' σ H Q → t σ H Q) : PT X e t' := ⟨fun pins s σ H Q I q => h.run pins s σ H Q I (k σ H Q q)⟩
theorem PW.imp {X : Cx} {e : Expr} {t t' : TT} (h : PW X e t) (k : ∀ σ H Q, t' σ H Q → t σ H Q) : PW X e t' := ⟨fun wh pins s σ H Q I q => h.run wh pins s σ H Q I (k σ H Q q)⟩
theorem PA.imp {X : Cx} {e : List Expr} {t t' : TA} (h : PA X e t) (k : ∀ σ H Q, t' σ H Q → t σ H Q) : PA X e t' := ⟨fun pos pins s σ H Q I q => h.run pos pins s σ H Q I (k σ H Q q)⟩
theorem PS.imp {X : Cx} {e : Stmt} {t t' : TS} (h : PS X e t) (k : ∀ D σ H, t' D σ H → t D σ H) : PS X e t' := ⟨fun pins s σ H D I q => h.run pins s σ H D I (k D σ H q)⟩
theorem PSs.imp {X : Cx} {e : List Stmt} {t t' : TS} (h : PSs X e t) (k : ∀ D σ H, t' D σ H → t D σ H) : PSs X e t' := ⟨fun pins s σ H D I q => h.run pins s σ H D I (k D σ H q)⟩
theorem PI.imp {X : Cx} {tg e : Expr} {t t' : TI} (h : PI X tg e t) (k : ∀ σ H R, t' σ H R → t σ H R) : PI X tg e t' := ⟨fun pins s σ H R I q => h.run pins s σ H R I (k σ H R q)⟩
theorem PI.or {X : Cx} {tg iter : Expr} {w w' : TI} (h : PI X tg iter w) (g : PI X tg iter w') : PI X tg iter (fun σ H R => w σ H R ∨ w' σ H R) := ⟨fun pins s σ H R I q => by
  rcases q with q | q
  · exact h.run pins s σ H R I q
  · exact g.run pins s σ H R I q⟩
end NK

namespace NK
open PySem L2

def eVar (i : Nat) : ME := fun env st => match env[i]? with
  | some (some u) => .ok u st
  | _ => .bad
def eC (u : U) : ME := fun _ st => .ok u st
def eOp (f : U → U → Sto → Out U) (ma mb : ME) : ME := fun env st => (ma env st).bind fun x st1 => (mb env st1).bind fun y st2 => f x y st2
def eUn (f : U → Sto → Out U) (ma : ME) : ME := fun env st => (ma env st).bind fun x st1 => f x st1
def aNil : MA := fun _ st => .ok [] st
def aCons (m : ME) (r : MA) : MA := fun env st => (m env st).bind fun x st1 => (r env st1).bind fun xs st2 => .ok (x :: xs) st2
def eCB (f : List U → Sto → Out U) (m : MA) : ME := fun env st => (m env st).bind fun xs st1 => f xs st1
def eTup (m : MA) : ME := fun env st => (m env st).bind fun xs st1 => if xs.length ≤ 16777216 then .ok (.tup xs) st1 else .bad
def eLst (m : MA) : ME := fun env st => (m env st).bind fun xs st1 => if xs.length ≤ 16777216 then .ok (.loc st1.length) (st1 ++ [.lst xs]) else .bad
def frz (u : U) (st : Sto) : Out U := match u with
  | .loc i => match st[i]? with
    | some (.lst us) => .ok (.lst us) (st.set i .dead)
    | some (.ins k us) => .ok (.ins k us) (st.set i .dead)
    | _ => .bad
  | u => .ok u st
def eIf (mt : MT) (ma mb : ME) : ME := fun env st => (mt env st).bind fun b st1 => if b = true then ma env st1 else mb env st1
def eAnd (ma mb : ME) : ME := fun env st => (ma env st).bind fun x st1 => match x with
  | .bl true => mb env st1
  | .bl false => .ok (.bl false) st1
  | _ => .bad
def eOr (ma mb : ME) : ME := fun env st => (ma env st).bind fun x st1 => match x with
  | .bl true => .ok (.bl true) st1
  | .bl false => mb env st1
  | _ => .bad
def eNot (ma : ME) : ME := fun env st => (ma env st).bind fun x st1 => match x with
  | .bl b => .ok (.bl (!b)) st1
  | _ => .bad
def tB (m : ME) : MT := fun env st => (m env st).bind fun x st1 => match x with
  | .bl b => .ok b st1
  | _ => .bad
def items (u : U) (st : Sto) : Option (List U) := match u with
  | .tup us => some us
  | .lst us => some us
  | .scr us => some us
  | .loc i => match st[i]? with
    | some (.lst us) => some us
    | _ => none
  | _ => none
def truth (u : U) (st : Sto) : Option Bool := match u with
  | .non => some false
  | .bl b => some b
  | .int i => some (i != 0)
  | .str z => if z.length ≤ 16777216 then some ((z.length : Int) != 0) else none
  | .tup us => some (!us.isEmpty)
  | .lst us => some (!us.isEmpty)
  | .loc i => match st[i]? with
    | some (.lst us) => some (!us.isEmpty)
    | some (.dK us) => some (!us.isEmpty)
    | _ => none
  | _ => none
def tTru (m : ME) : MT := fun env st => (m env st).bind fun x st1 => match truth x st1 with
  | some b => .ok b st1
  | none => .bad
def tAnd (ma mb : MT) : MT := fun env st => (ma env st).bind fun b st1 => if b = true then mb env st1 else .ok false st1
def tOr (ma mb : MT) : MT := fun env st => (ma env st).bind fun b st1 => if b = true then .ok true st1 else mb env st1
def tNot (ma : MT) : MT := fun env st => (ma env st).bind fun b st1 => .ok (!b) st1

section
variable {T : Tb} {c : Cn} {st : Sto} {H : Hp}
theorem Rp.inv_int {i : Int} {v : V} (r : Rp T c (.int i) v) : v = .int i := by cases r; rfl
theorem Rp.inv_bl {i : Bool} {v : V} (r : Rp T c (.bl i) v) : v = .bl i := by cases r; rfl
theorem Rp.inv_str {i : Str} {v : V} (r : Rp T c (.str i) v) : v = .str i := by cases r; rfl
theorem Rp.inv_non {v : V} (r : Rp T c .non v) : v = .non := by cases r; rfl
theorem Rp.inv_scr {us : List U} {v : V} (r : Rp T c (.scr us) v) : ∃ a vs, v = .ref a ∧ SqL T.K c.F a vs ∧ RpL T c us vs := by cases r with | scr a b => exact ⟨_, _, rfl, a, b⟩
theorem Rp.inv_tup {us : List U} {v : V} (r : Rp T c (.tup us) v) : ∃ a vs, v = .ref a ∧ SqT T.K c.F a vs ∧ RpL T c us vs := by cases r with | tup a b => exact ⟨_, _, rfl, a, b⟩
theorem Rp.inv_lst {us : List U} {v : V} (r : Rp T c (.lst us) v) : ∃ a vs, v = .ref a ∧ c.F a = some (.lst vs) ∧ RpL T c us vs := by cases r with | lst a b => exact ⟨_, _, rfl, a, b⟩
theorem Rp.inv_ins {k : Nat} {us : List U} {v : V} (r : Rp T c (.ins k us) v) : ∃ a dx vs, v = .ref a ∧ c.F a = some (.ins (T.cls k) dx ((T.fld k).zip vs)) ∧ vs.length ≤ (T.fld k).length ∧ RpL T c us vs := by
  cases r with | ins a b d => exact ⟨_, _, _, rfl, a, b, d⟩
theorem Rp.inv_loc {i : Nat} {v : V} (r : Rp T c (.loc i) v) : i < c.n ∧ v = .ref (c.ρ i) := by cases r with | loc h => exact ⟨h, rfl⟩
theorem sqL_up (h : RH T c st H) {a : Addr} {vs : List V} (r : SqL T.K c.F a vs) : SqL T.K H a vs := sqL_mono h.sub r
theorem sqT_up (h : RH T c st H) {a : Addr} {vs : List V} (r : SqT T.K c.F a vs) : SqT T.K H a vs := sqT_mono h.sub r
theorem RH.at_lst (h : RH T c st H) {i : Nat} {us : List U} (e : st[i]? = some (.lst us)) : ∃ vs, H (c.ρ i) = some (.lst vs) ∧ RpL T c us vs := by
  obtain ⟨o, h1, ⟨vs, h2, h3⟩, _⟩ := h.act i _ e (fun z => nomatch z)
  subst h2
  exact ⟨vs, h1, h3⟩
theorem RH.at_ins (h : RH T c st H) {i k : Nat} {us : List U} (e : st[i]? = some (.ins k us)) : ∃ dx vs, H (c.ρ i) = some (.ins (T.cls k) dx ((T.fld k).zip vs)) ∧ vs.length ≤ (T.fld k).length ∧ RpL T c us vs := by
  obtain ⟨o, h1, ⟨dx, vs, h2, h3, h4⟩, _⟩ := h.act i _ e (fun z => nomatch z)
  subst h2
  exact ⟨dx, vs, h1, h3, h4⟩
theorem RH.at_dK (h : RH T c st H) {i : Nat} {us : List (Key × U)} (e : st[i]? = some (.dK us)) : ∃ vs, H (c.ρ i) = some (.dK vs) ∧ RpK T c us vs := by
  obtain ⟨o, h1, ⟨vs, h2, h3⟩, _⟩ := h.act i _ e (fun z => nomatch z)
  subst h2
  exact ⟨vs, h1, h3⟩
theorem RH.at_dT (h : RH T c st H) {i : Nat} {us : List (List Key × U)} (e : st[i]? = some (.dT us)) : ∃ vs, H (c.ρ i) = some (.dT vs) ∧ RpK T c us vs := by
  obtain ⟨o, h1, ⟨vs, h2, h3⟩, _⟩ := h.act i _ e (fun z => nomatch z)
  subst h2
  exact ⟨vs, h1, h3⟩
theorem items_at (h : RH T c st H) {u : U} {v : V} {us : List U} (r : Rp T c u v) (e : items u st = some us) : ∃ a vs, v = .ref a ∧ (SqL T.K H a vs ∨ SqT T.K H a vs) ∧ RpL T c us vs := by
  cases u with
  | tup xs =>
    obtain ⟨a, vs, rfl, h1, h2⟩ := r.inv_tup
    cases e
    exact ⟨a, vs, rfl, .inr (sqT_up h h1), h2⟩
  | lst xs =>
    obtain ⟨a, vs, rfl, h1, h2⟩ := r.inv_lst
    cases e
    exact ⟨a, vs, rfl, .inl (SqL.of (h.sub _ _ h1)), h2⟩
  | scr xs =>
    obtain ⟨a, vs, rfl, h1, h2⟩ := r.inv_scr
    cases e
    exact ⟨a, vs, rfl, .inl (sqL_up h h1), h2⟩
  | loc i =>
    obtain ⟨_, rfl⟩ := r.inv_loc
    dsimp only [items] at e
    split at e
    · rename_i us' q
      cases e
      obtain ⟨vs, h1, h2⟩ := h.at_lst q
      exact ⟨_, vs, rfl, .inl (SqL.of h1), h2⟩
    · cases e
  | _ => cases e
theorem isEmpty_rp {us : List U} {vs : List V} (r : RpL T c us vs) : (!vs.isEmpty) = !us.isEmpty := by cases r <;> rfl
theorem truth_at (h : RH T c st H) {u : U} {v : V} {b : Bool} (r : Rp T c u v) (e : truth u st = some b) : TruV T.K v H b := by
  cases u with
  | non => cases r.inv_non; cases e; rfl
  | bl x => cases r.inv_bl; cases e; rfl
  | int i => cases r.inv_int; cases e; rfl
  | str z =>
    cases r.inv_str
    dsimp only [truth] at e
    split at e
    · rename_i hz
      cases e
      exact ⟨by rw [sizeLine_eq]; exact hz, rfl⟩
    · cases e
  | tup xs =>
    obtain ⟨a, vs, rfl, h1, h2⟩ := r.inv_tup
    cases e
    exact .inr (.inl ⟨vs, sqT_up h h1, (isEmpty_rp h2).symm⟩)
  | lst xs =>
    obtain ⟨a, vs, rfl, h1, h2⟩ := r.inv_lst
    cases e
    exact .inl ⟨vs, SqL.of (h.sub _ _ h1), (isEmpty_rp h2).symm⟩
  | loc i =>
    obtain ⟨_, rfl⟩ := r.inv_loc
    dsimp only [truth] at e
    split at e
    · rename_i us' q
      cases e
      obtain ⟨vs, h1, h2⟩ := h.at_lst q
      exact .inl ⟨vs, SqL.of h1, (isEmpty_rp h2).symm⟩
    · rename_i us' q
      cases e
      obtain ⟨vs, h1, h2⟩ := h.at_dK q
      refine .inr (.inr ⟨vs, h1, ?_⟩)
      cases h2 <;> rfl
    · cases e
  | ins k us => cases e
  | ty n => cases e
  | cls n => cases e
  | scr n => cases e
end

def upr (ρ : Nat → Addr) (n : Nat) (p : Addr) : Nat → Addr := fun i => if i = n then p else ρ i
section
variable {T : Tb} {c : Cn} {st : Sto} {H : Hp}
theorem RH.ne_new (h : RH T c st H) {p : Addr} (hp : H p = none) {i : Nat} {o : Ob} (e : st[i]? = some o) (d : o ≠ .dead) : c.ρ i ≠ p := fun z => by
  obtain ⟨x, h1, _⟩ := h.act i o e d
  rw [z, hp] at h1
  cases h1
theorem RH.F_new (h : RH T c st H) {p : Addr} (hp : H p = none) : c.F p = none := by
  cases e : c.F p with
  | none => rfl
  | some o =>
    rw [h.sub p o e] at hp
    cases hp
def Cn.still (c : Cn) (p : Addr) (o : HO) : Cn := { c with F := upd c.F p o }
theorem le_still (h : RH T c st H) {p : Addr} (hp : H p = none) (o : HO) : Le c (c.still p o) :=
  ⟨Nat.le_refl _, fun _ _ => rfl, fun a u e => by
    show upd c.F p o a = _
    rw [upd_ne (fun z => by rw [z, h.F_new hp] at e; cases e)]
    exact e, fun _ _ e => e⟩
theorem RH.lk_new (h : RH T c st H) {p : Addr} (hp : H p = none) {a : Addr} {o : HO} (e : c.L a = some o) : a ≠ p := fun z => by
  have := (h.lkd a o e).1
  rw [z, hp] at this
  cases this
theorem RH.still (h : RH T c st H) {p : Addr} (hp : H p = none) (o : HO) (ko : isTbl o = false := by rfl) : RH T (c.still p o) st (upd H p o) := by
  have l := le_still h hp o
  refine ⟨h.n, fun a u e => ?_, fun i ob e d => ?_, h.inj, fun a u e => ⟨by rw [upd_ne (h.lk_new hp e)]; exact (h.lkd a u e).1, (h.lkd a u e).2⟩, fun q hq => (h.tab q hq).mono l.F (tbl_upd (.inl hp) ·), fun a u e => by
    have e' : upd c.F p o a = some u := e
    by_cases z : a = p
    · rw [z, upd_same] at e'
      cases e'
      exact ko
    · rw [upd_ne z] at e'
      exact h.ntb a u e'⟩
  · have e' : upd c.F p o a = some u := e
    by_cases z : a = p
    · subst z
      rw [upd_same] at e' ⊢
      exact e'
    · rw [upd_ne z] at e' ⊢
      exact h.sub a u e'
  · obtain ⟨x, h1, h2, h3⟩ := h.act i ob e d
    have ne := h.ne_new hp e d
    refine ⟨x, ?_, h2.mono l, ?_⟩
    · show upd H p o (c.ρ i) = _
      rw [upd_ne ne]; exact h1
    · show upd c.F p o (c.ρ i) = _
      rw [upd_ne ne]; exact h3
def Cn.new (c : Cn) (p : Addr) : Cn := { ρ := upr c.ρ c.n p, n := c.n + 1, F := c.F, L := c.L }
theorem le_new (c : Cn) (p : Addr) : Le c (c.new p) :=
  ⟨Nat.le_succ _, fun i hi => by
    show upr c.ρ c.n p i = _
    unfold upr
    rw [if_neg (Nat.ne_of_lt hi)], fun _ _ e => e, fun _ _ e => e⟩
theorem new_self (c : Cn) (p : Addr) : (c.new p).ρ c.n = p := by
  show upr c.ρ c.n p c.n = p
  unfold upr
  rw [if_pos rfl]
theorem RH.new (h : RH T c st H) {p : Addr} (hp : H p = none) {o : Ob} {x : HO} (r : RO T c o p x) : RH T (c.new p) (st ++ [o]) (upd H p x) := by
  have l := le_new c p
  have old : ∀ {i : Nat} {a : Ob}, i ≠ st.length → (st ++ [o])[i]? = some a → i < st.length ∧ st[i]? = some a := fun {i a} hi e => by
    by_cases z : i < st.length
    · rw [List.getElem?_append_left z] at e
      exact ⟨z, e⟩
    · rw [List.getElem?_append_right (by omega)] at e
      have : i - st.length = 0 ∨ 0 < i - st.length := by omega
      rcases this with q | q
      · omega
      · rw [List.getElem?_eq_none (by simp; omega)] at e
        cases e
  have self : ∀ {a : Ob}, (st ++ [o])[st.length]? = some a → a = o := fun {a} e => by
    rw [List.getElem?_append_right (Nat.le_refl _), Nat.sub_self] at e
    exact (Option.some.inj e).symm
  have hρ : ∀ {i : Nat}, i < st.length → (c.new p).ρ i = c.ρ i := fun {i} hi => l.ρ i (by rw [h.n]; exact hi)
  refine ⟨by show c.n + 1 = _; rw [h.n]; simp, fun a u e => ?_, fun i a e d => ?_, fun i j a b ea da eb db q => ?_, fun a u e => ⟨by rw [upd_ne (h.lk_new hp e)]; exact (h.lkd a u e).1, (h.lkd a u e).2⟩, fun q hq => (h.tab q hq).mono l.F (tbl_upd (.inl hp) ·), h.ntb⟩
  · rw [upd_ne (fun z => by
      have e' : c.F a = some u := e
      rw [z, h.F_new hp] at e'
      cases e')]
    exact h.sub a u e
  · by_cases hi : i = st.length
    · subst hi
      have := self e
      subst this
      refine ⟨x, ?_, ?_, ?_⟩
      · rw [← h.n, new_self, upd_same]
      · rw [← h.n, new_self]; exact r.mono l
      · rw [← h.n, new_self]; exact h.F_new hp
    · obtain ⟨hlt, e'⟩ := old hi e
      obtain ⟨y, h1, h2, h3⟩ := h.act i a e' d
      refine ⟨y, ?_, ?_, ?_⟩
      · rw [hρ hlt, upd_ne (h.ne_new hp e' d)]; exact h1
      · rw [hρ hlt]; exact h2.mono l
      · rw [hρ hlt]; exact h3
  · by_cases hi : i = st.length
    · by_cases hj : j = st.length
      · rw [hi, hj]
      · obtain ⟨hlt, eb'⟩ := old hj eb
        subst hi
        rw [← h.n, new_self, hρ hlt] at q
        exact absurd q.symm (h.ne_new hp eb' db)
    · obtain ⟨hlt, ea'⟩ := old hi ea
      by_cases hj : j = st.length
      · subst hj
        rw [hρ hlt, ← h.n, new_self] at q
        exact absurd q (h.ne_new hp ea' da)
      · obtain ⟨hlt', eb'⟩ := old hj eb
        rw [hρ hlt, hρ hlt'] at q
        exact h.inj i j a b ea' da eb' db q
theorem RH.set (h : RH T c st H) {i : Nat} {o o' : Ob} {x : HO} (e : st[i]? = some o) (d : o ≠ .dead) (r : RO T c o' (c.ρ i) x) (k : o.isLk = false := by rfl) : RH T c (st.set i o') (upd H (c.ρ i) x) := by
  have hi : i < st.length := (List.getElem?_eq_some_iff.mp e).1
  have old : ∀ {j : Nat} {a : Ob}, j ≠ i → (st.set i o')[j]? = some a → st[j]? = some a := fun {j a} hj q => by
    rw [List.getElem?_set_ne (Ne.symm hj)] at q
    exact q
  have self : ∀ {a : Ob}, (st.set i o')[i]? = some a → a = o' := fun {a} q => by
    rw [List.getElem?_set_self hi] at q
    exact (Option.some.inj q).symm
  refine ⟨by rw [h.n]; simp, fun a u q => ?_, fun j a q da => ?_, fun j k a b ea da eb db q => ?_, fun a u q => ⟨by
    rw [upd_ne (fun z => by
      obtain ⟨y, h1, h2, _⟩ := h.act i o e d
      obtain ⟨q1, od, x', q2⟩ := h.lkd a u q
      rw [z, h1] at q1
      cases q1
      exact h2.nofrz k od x' q2)]
    exact (h.lkd a u q).1, (h.lkd a u q).2⟩, fun q hq => (h.tab q hq).mono (fun _ _ z => z) (tbl_upd (.inr (let ⟨y, h1, h2, _⟩ := h.act i o e d; ⟨y, h1, h2.notbl⟩)) ·), h.ntb⟩
  · obtain ⟨_, _, _, h3⟩ := h.act i o e d
    rw [upd_ne (fun z => by rw [z, h3] at q; cases q)]
    exact h.sub a u q
  · by_cases hj : j = i
    · subst hj
      have := self q
      subst this
      obtain ⟨_, _, _, h3⟩ := h.act j o e d
      exact ⟨x, upd_same, r, h3⟩
    · have q' := old hj q
      obtain ⟨y, h1, h2, h3⟩ := h.act j a q' da
      refine ⟨y, ?_, h2, h3⟩
      rw [upd_ne (fun z => hj (h.inj j i a o q' da e d z))]
      exact h1
  · by_cases hj : j = i
    · by_cases hk : k = i
      · rw [hj, hk]
      · subst hj
        exact h.inj j k o b e d (old hk eb) db q
    · by_cases hk : k = i
      · subst hk
        exact h.inj j k a o (old hj ea) da e d q
      · exact h.inj j k a b (old hj ea) da (old hk eb) db q
theorem le_freeze (h : RH T c st H) {i : Nat} {o : Ob} {x : HO} (e : st[i]? = some o) (d : o ≠ .dead) : Le c { c with F := upd c.F (c.ρ i) x } := by
  obtain ⟨_, _, _, h3⟩ := h.act i o e d
  exact ⟨Nat.le_refl _, fun _ _ => rfl, fun a u q => by
    show upd c.F (c.ρ i) x a = _
    rw [upd_ne (fun z => by rw [z, h3] at q; cases q)]
    exact q, fun _ _ q => q⟩
theorem RH.freeze (h : RH T c st H) {i : Nat} {o : Ob} {x : HO} (e : st[i]? = some o) (d : o ≠ .dead) (hx : H (c.ρ i) = some x) : RH T { c with F := upd c.F (c.ρ i) x } (st.set i .dead) H := by
  have l := le_freeze (x := x) h e d
  have old : ∀ {j : Nat} {a : Ob}, a ≠ .dead → (st.set i .dead)[j]? = some a → j ≠ i ∧ st[j]? = some a := fun {j a} ha q => by
    have hj : j ≠ i := fun z => by
      subst z
      have hlt : j < st.length := (List.getElem?_eq_some_iff.mp e).1
      rw [List.getElem?_set_self hlt] at q
      exact ha (Option.some.inj q).symm
    rw [List.getElem?_set_ne (Ne.symm hj)] at q
    exact ⟨hj, q⟩
  refine ⟨by show c.n = _; rw [h.n]; simp, fun a u q => ?_, fun j a q da => ?_, fun j k a b ea da eb db q => ?_, h.lkd, fun q hq => (h.tab q hq).mono l.F (fun _ z => z), fun a u q => by
    have q' : upd c.F (c.ρ i) x a = some u := q
    by_cases z : a = c.ρ i
    · rw [z, upd_same] at q'
      cases q'
      obtain ⟨y, h1, h2, _⟩ := h.act i o e d
      rw [hx] at h1
      cases h1
      exact h2.notbl
    · rw [upd_ne z] at q'
      exact h.ntb a u q'⟩
  · have q' : upd c.F (c.ρ i) x a = some u := q
    by_cases z : a = c.ρ i
    · subst z
      rw [upd_same] at q'
      rw [← q']; exact hx
    · rw [upd_ne z] at q'
      exact h.sub a u q'
  · obtain ⟨hj, q'⟩ := old da q
    obtain ⟨y, h1, h2, h3⟩ := h.act j a q' da
    refine ⟨y, h1, h2.mono l, ?_⟩
    show upd c.F (c.ρ i) x (c.ρ j) = _
    rw [upd_ne (fun z => hj (h.inj j i a o q' da e d z))]
    exact h3
  · exact h.inj j k a b (old da ea).2 da (old db eb).2 db q
end

def OpSim (T : Tb) (r : R2) (f : U → U → Sto → Out U) : Prop :=
  ∀ (Wx : WX) (c : Cn) (σ : L2.St) (st : Sto) (H : Hp) (u w : U) (x y : V) (Q : VK), RH T c st H → Rp T c u x → Rp T c w y → ResG T Wx c σ (Rp T) (f u w st) Q → r x y H Q
def CallSim (T : Tb) (r : List V → Hp → VK → Prop) (f : List U → Sto → Out U) : Prop :=
  ∀ (Wx : WX) (c : Cn) (σ : L2.St) (st : Sto) (H : Hp) (us : List U) (xs : List V) (Q : VK), RH T c st H → RpL T c us xs → ResG T Wx c σ (Rp T) (f us st) Q → r xs H Q

section
variable {X : Cx} {T : Tb} {P : Pin} {Wx : WX} {a b c : Expr} {ma mb mc : ME} {pos : Pos}
theorem pem_var {i : Nat} (h : PE X a (tVar i)) : PEm X T P Wx a (eVar i) := PE.imp h fun σ H Q ⟨c, env, st, hH, hE, hR⟩ => by
  unfold eVar at hR
  split at hR
  · rename_i u e
    obtain ⟨v, e', r⟩ := hE.get i u e
    exact ⟨v, e', hR.ret hH r⟩
  · exact hR.elim
theorem pem_c {v : V} {u : U} (h : PE X a (tC v)) (r : ∀ c, Rp T c u v) : PEm X T P Wx a (eC u) := PE.imp h fun σ H Q ⟨c, env, st, hH, hE, hR⟩ =>
  ResG.ret (u := u) hR hH (r c)
theorem pem_int {i j} : PEm X T P Wx (.Constant (.int i) j pos) (eC (.int i)) := pem_c pe_int fun _ => .int i
theorem pem_bl {i j} : PEm X T P Wx (.Constant (.bool i) j pos) (eC (.bl i)) := pem_c pe_bl fun _ => .bl i
theorem pem_str {i j} : PEm X T P Wx (.Constant (.str i) j pos) (eC (.str i)) := pem_c pe_str fun _ => .str i
theorem pem_non {j} : PEm X T P Wx (.Constant .none j pos) (eC .non) := pem_c pe_non fun _ => .non
theorem opr_run {r : R2} {f : U → U → Sto → Out U} (hs : OpSim T r f) (σ : L2.St) (H : Hp) (Q : VK) (h : teOf T P Wx (eOp f ma mb) σ H Q) : tOp r (teOf T P Wx ma) (teOf T P Wx mb) σ H Q := by
  obtain ⟨c, env, st, hH, hE, hR⟩ := h
  refine (tg_bind hH hE hR).mono fun x H1 ⟨u, c1, st1, l1, hH1, hE1, r1, hR1⟩ => ?_
  refine (tg_bind hH1 hE1 hR1).mono fun y H2 ⟨w, c2, st2, l2, hH2, hE2, r2, hR2⟩ => ?_
  exact hs Wx c2 σ st2 H2 u w x y Q hH2 (r1.mono l2) r2 hR2
theorem pem_op {op : Operator} {r : R2} {f : U → U → Sto → Out U} (ho : OpR X (binaryOp op) r) (hs : OpSim T r f) (ha : PEm X T P Wx a ma) (hb : PEm X T P Wx b mb) : PEm X T P Wx (.BinOp a op b pos) (eOp f ma mb) :=
  PE.imp (pe_op ho ha hb) (opr_run hs)
theorem pem_cmp {op : CmpOp} {r : R2} {f : U → U → Sto → Out U} (ho : OpR X (compareOp op) r) (hs : OpSim T r f) (ha : PEm X T P Wx a ma) (hb : PEm X T P Wx b mb) (hm : behindInMarks op b = false) : PEm X T P Wx (.Compare a [op] [b] pos) (eOp f ma mb) :=
  PE.imp (pe_cmpR ho ha hb hm) (opr_run hs)
theorem test_run {t : TE} {m : ME} (h1 : ∀ σ H Q, teOf T P Wx m σ H Q → t σ H Q) (σ : L2.St) (H : Hp) (Q : Bool → Hp → Prop) (h : ttOf T P Wx (tB m) σ H Q) : tTest t σ H Q := by
  obtain ⟨c, env, st, hH, hE, hR⟩ := h
  refine h1 σ H _ ((tg_bind hH hE hR).mono fun x H1 ⟨u, c1, st1, l1, hH1, hE1, r1, hR1⟩ => ?_)
  cases u with
  | bl k =>
    cases r1.inv_bl
    exact ⟨k, rfl, hR1.ret hH1 rfl⟩
  | _ => exact hR1.elim
theorem ptm_cmp {op : CmpOp} {r : R2} {f : U → U → Sto → Out U} (ho : OpR X (compareOp op) r) (hs : OpSim T r f) (ha : PEm X T P Wx a ma) (hb : PEm X T P Wx b mb) (hm : behindInMarks op b = false) : PTm X T P Wx (.Compare a [op] [b] pos) (tB (eOp f ma mb)) :=
  PT.imp (pt_cmpR ho ha hb hm) (test_run (opr_run hs))
def eChain (f g : U → U → Sto → Out U) (ma mb mc : ME) : ME := fun env st => (ma env st).bind fun x st1 => (mb env st1).bind fun y st2 => (f x y st2).bind fun z st3 => match z with
  | .bl true => (mc env st3).bind fun w st4 => g y w st4
  | .bl false => .ok (.bl false) st3
  | _ => .bad
theorem pem_ifExp {mt : MT} (hc : PTm X T P Wx c mt) (ha : PEm X T P Wx a ma) (hb : PEm X T P Wx b mb) : PEm X T P Wx (.IfExp c a b pos) (eIf mt ma mb) :=
  PE.imp (pe_ifExp hc ha hb) fun σ H Q ⟨c, env, st, hH, hE, hR⟩ => by
    refine (tg_bind hH hE hR).mono fun k H1 ⟨u, c1, st1, l1, hH1, hE1, r1, hR1⟩ => ?_
    cases (show u = k from r1)
    cases k with
    | true => exact ⟨c1, env, st1, hH1, hE1, hR1⟩
    | false => exact ⟨c1, env, st1, hH1, hE1, hR1⟩
theorem pem_one {op} (h : PEm X T P Wx a ma) : PEm X T P Wx (.BoolOp op [a] pos) ma := pe_one h
theorem pem_and {rest : List Expr} (ha : PEm X T P Wx a ma) (hb : PEm X T P Wx (.BoolOp .And (b :: rest) pos) mb) : PEm X T P Wx (.BoolOp .And (a :: b :: rest) pos) (eAnd ma mb) :=
  PE.imp (pe_and ha hb) fun σ H Q ⟨c, env, st, hH, hE, hR⟩ => by
    refine (tg_bind hH hE hR).mono fun k H1 ⟨u, c1, st1, l1, hH1, hE1, r1, hR1⟩ => ?_
    cases u with
    | bl i =>
      cases r1.inv_bl
      refine ⟨i, rfl, ?_⟩
      cases i with
      | true => exact ⟨c1, env, st1, hH1, hE1, hR1⟩
      | false => exact ResG.ret hR1 hH1 (.bl false)
    | _ => exact hR1.elim
theorem pem_or {rest : List Expr} (ha : PEm X T P Wx a ma) (hb : PEm X T P Wx (.BoolOp .Or (b :: rest) pos) mb) : PEm X T P Wx (.BoolOp .Or (a :: b :: rest) pos) (eOr ma mb) :=
  PE.imp (pe_or ha hb) fun σ H Q ⟨c, env, st, hH, hE, hR⟩ => by
    refine (tg_bind hH hE hR).mono fun k H1 ⟨u, c1, st1, l1, hH1, hE1, r1, hR1⟩ => ?_
    cases u with
    | bl i =>
      cases r1.inv_bl
      refine ⟨i, rfl, ?_⟩
      cases i with
      | true => exact ResG.ret hR1 hH1 (.bl true)
      | false => exact ⟨c1, env, st1, hH1, hE1, hR1⟩
    | _ => exact hR1.elim
theorem pem_not (ha : PEm X T P Wx a ma) : PEm X T P Wx (.UnaryOp .Not a pos) (eNot ma) :=
  PE.imp (pe_not ha) fun σ H Q ⟨c, env, st, hH, hE, hR⟩ => by
    refine (tg_bind hH hE hR).mono fun k H1 ⟨u, c1, st1, l1, hH1, hE1, r1, hR1⟩ => ?_
    cases u with
    | bl i =>
      cases r1.inv_bl
      exact ⟨i, rfl, ResG.ret hR1 hH1 (.bl _)⟩
    | _ => exact hR1.elim

theorem ptm_tru (hK : X.K = T.K) (ha : PEm X T P Wx a ma) (he : ∀ whole, isTrue a X.env whole = (do let v ← whole; standAt a.pos; holding [v] (truthy v)) := by intro _; rfl) : PTm X T P Wx a (tTru ma) :=
  PT.imp (pt_truth ha he) fun σ H Q ⟨c, env, st, hH, hE, hR⟩ => by
    refine (tg_bind hH hE hR).mono fun k H1 ⟨u, c1, st1, l1, hH1, hE1, r1, hR1⟩ => ?_
    split at hR1
    · rename_i b e
      refine ⟨b, ?_, hR1.ret hH1 rfl⟩
      rw [hK]
      exact truth_at hH1 r1 e
    · exact hR1.elim
theorem ptm_not {mt : MT} (ha : PTm X T P Wx a mt) : PTm X T P Wx (.UnaryOp .Not a pos) (tNot mt) :=
  PT.imp (pt_not ha) fun σ H Q ⟨c, env, st, hH, hE, hR⟩ => by
    refine (tg_bind hH hE hR).mono fun k H1 ⟨u, c1, st1, l1, hH1, hE1, r1, hR1⟩ => ?_
    cases (show u = k from r1)
    exact hR1.ret hH1 rfl
theorem pwm_and1 {mt : MT} (ha : PTm X T P Wx a mt) : PWm X T P Wx (.BoolOp .And [a] pos) mt := pw_and1 ha
theorem pwm_or1 {mt : MT} (ha : PTm X T P Wx a mt) : PWm X T P Wx (.BoolOp .Or [a] pos) mt := pw_or1 ha
theorem pwm_and {mt mu : MT} {rest : List Expr} (ha : PTm X T P Wx a mt) (hb : PWm X T P Wx (.BoolOp .And (b :: rest) pos) mu) : PWm X T P Wx (.BoolOp .And (a :: b :: rest) pos) (tAnd mt mu) :=
  PW.imp (pw_and ha hb) fun σ H Q ⟨c, env, st, hH, hE, hR⟩ => by
    refine (tg_bind hH hE hR).mono fun k H1 ⟨u, c1, st1, l1, hH1, hE1, r1, hR1⟩ => ?_
    cases (show u = k from r1)
    cases k with
    | true => exact ⟨c1, env, st1, hH1, hE1, hR1⟩
    | false => exact ResG.ret hR1 hH1 rfl
theorem pwm_or {mt mu : MT} {rest : List Expr} (ha : PTm X T P Wx a mt) (hb : PWm X T P Wx (.BoolOp .Or (b :: rest) pos) mu) : PWm X T P Wx (.BoolOp .Or (a :: b :: rest) pos) (tOr mt mu) :=
  PW.imp (pw_or ha hb) fun σ H Q ⟨c, env, st, hH, hE, hR⟩ => by
    refine (tg_bind hH hE hR).mono fun k H1 ⟨u, c1, st1, l1, hH1, hE1, r1, hR1⟩ => ?_
    cases (show u = k from r1)
    cases k with
    | true => exact ResG.ret hR1 hH1 rfl
    | false => exact ⟨c1, env, st1, hH1, hE1, hR1⟩
theorem PWm.pt {mt : MT} (h : PWm X T P Wx a mt) : PTm X T P Wx a mt := PW.pt h

variable {e : Expr} {es : List Expr} {m : ME} {mr : MA}
theorem pam_nil : PAm X T P Wx [] aNil := PA.imp pa_nil fun σ H Q ⟨c, env, st, hH, hE, hR⟩ => ResG.ret (u := ([] : List U)) hR hH .nil
theorem pam_cons (ha : PEm X T P Wx e m) (hr : PAm X T P Wx es mr) (hs : starEach (e :: es) X.env = (false, eval e X.env) :: starEach es X.env := by rfl) : PAm X T P Wx (e :: es) (aCons m mr) :=
  PA.imp (pa_cons ha hr hs) fun σ H Q ⟨c, env, st, hH, hE, hR⟩ => by
    refine (tg_bind hH hE hR).mono fun x H1 ⟨u, c1, st1, l1, hH1, hE1, r1, hR1⟩ => ?_
    refine (tg_bind hH1 hE1 hR1).mono fun y H2 ⟨w, c2, st2, l2, hH2, hE2, r2, hR2⟩ => ?_
    exact hR2.ret hH2 (.cons (r1.mono l2) r2)
theorem pem_tup {x1} (h : PAm X T P Wx es mr) : PEm X T P Wx (.Tuple es x1 pos) (eTup mr) :=
  PE.imp (pe_tup h) fun σ H Q ⟨c, env, st, hH, hE, hR⟩ => by
    refine (tg_bind hH hE hR).mono fun xs H1 ⟨us, c1, st1, l1, hH1, hE1, r1, hR1⟩ => ?_
    by_cases hz : us.length ≤ 16777216
    · rw [if_pos hz] at hR1
      refine ⟨by rw [← r1.length, sizeLine_eq]; exact hz, fun p hp => ?_⟩
      have l := le_still hH1 hp (.tup xs)
      exact hR1 _ _ _ l (hH1.still hp _) (.tup (SqT.of upd_same) (r1.mono l))
    · rw [if_neg hz] at hR1
      exact hR1.elim
theorem pem_lst (h : PAm X T P Wx es mr) : PEm X T P Wx (.List es pos) (eLst mr) :=
  PE.imp (pe_lst h) fun σ H Q ⟨c, env, st, hH, hE, hR⟩ => by
    refine (tg_bind hH hE hR).mono fun xs H1 ⟨us, c1, st1, l1, hH1, hE1, r1, hR1⟩ => ?_
    by_cases hz : us.length ≤ 16777216
    · rw [if_pos hz] at hR1
      refine ⟨by rw [← r1.length, sizeLine_eq]; exact hz, fun p hp => ?_⟩
      have h2 := hH1.new hp (o := .lst us) (x := .lst xs) ⟨xs, rfl, r1⟩
      refine hR1 _ _ _ (le_new c1 p) h2 ?_
      have e : V.ref p = V.ref ((c1.new p).ρ c1.n) := by rw [new_self]
      rw [e, ← hH1.n]
      exact .loc (Nat.lt_succ_self _)
    · rw [if_neg hz] at hR1
      exact hR1.elim
theorem cb_run {r : List V → Hp → VK → Prop} {f : List U → Sto → Out U} (hs : CallSim T r f) (σ : L2.St) (H : Hp) (Q : VK) (h : teOf T P Wx (eCB f mr) σ H Q) : tCB r (taOf T P Wx mr) σ H Q := by
  obtain ⟨c, env, st, hH, hE, hR⟩ := h
  exact (tg_bind hH hE hR).mono fun xs H1 ⟨us, c1, st1, l1, hH1, hE1, r1, hR1⟩ => hs Wx c1 σ st1 H1 us xs Q hH1 r1 hR1
theorem pem_callB {x : Str} {p : Pos} {id : String} {r : List V → Hp → VK → Prop} {f : List U → Sto → Out U} (hc : CallR X (.builtin id) r) (hs : CallSim T r f) (hg : Gl X x) (hm : X.mg x = none) (hv : bootBuiltins x = some (.builtin id)) (ha : PAm X T P Wx (e :: es) mr) (hn : x ≠ "__name__" := by decide) (hdb : (x == ("__debug__" : Str)) = false := by decide)
    (he : starEach (e :: es) X.env = (false, eval e X.env) :: starEach es X.env := by rfl) (hpl : (backTo pos (starEach es X.env)).any (·.1) = false := by rfl) : PEm X T P Wx (.Call (.Name x p) (e :: es) [] pos) (eCB f mr) :=
  PE.imp (pe_callB hc hg hm hv ha hn hdb he hpl) (cb_run hs)
theorem pem_callTy {x : Str} {p : Pos} {id : String} {r : List V → Hp → VK → Prop} {f : List U → Sto → Out U} (hc : CallR X (.type id) r) (hs : CallSim T r f) (hg : Gl X x) (hm : X.mg x = none) (hv : bootBuiltins x = some (.type id)) (ha : PAm X T P Wx (e :: es) mr) (hn : x ≠ "__name__" := by decide) (hdb : (x == ("__debug__" : Str)) = false := by decide)
    (he : starEach (e :: es) X.env = (false, eval e X.env) :: starEach es X.env := by rfl) (hpl : (backTo pos (starEach es X.env)).any (·.1) = false := by rfl) : PEm X T P Wx (.Call (.Name x p) (e :: es) [] pos) (eCB f mr) :=
  PE.imp (pe_callTy hc hg hm hv ha hn hdb he hpl) (cb_run hs)
theorem pem_ix {r : R2} {f : U → U → Sto → Out U} (hr : IxR X r) (hs : OpSim T r f) (ha : PEm X T P Wx a ma) (hb : PEm X T P Wx b mb) (hx : PlainIx b := by exact fun _ _ => rfl) : PEm X T P Wx (.Subscript a b pos) (eOp f ma mb) :=
  PE.imp (pe_ix hr ha hb hx) (opr_run hs)
end
end NK

namespace NK
open PySem L2

section
variable {T : Tb} {X : Cx}
theorem szl : sizeLine = 16777216 := sizeLine_eq

theorem new_lst {Wx : WX} {c : Cn} {σ : L2.St} {st : Sto} {H : Hp} {us : List U} {vs : List V} {Q : VK} (hH : RH T c st H) (r : RpL T c us vs) (hR : ResG T Wx c σ (Rp T) (.ok (.loc st.length) (st ++ [.lst us])) Q) :
    ∀ p, H p = none → Q (.ref p) (upd H p (.lst vs)) := fun p hp => by
  have h2 := hH.new hp (o := .lst us) (x := .lst vs) ⟨vs, rfl, r⟩
  refine hR _ _ _ (le_new c p) h2 ?_
  have e : V.ref p = V.ref ((c.new p).ρ c.n) := by rw [new_self]
  rw [e, ← hH.n]
  exact .loc (Nat.lt_succ_self _)
theorem new_tup {Wx : WX} {c : Cn} {σ : L2.St} {st : Sto} {H : Hp} {us : List U} {vs : List V} {Q : VK} (hH : RH T c st H) (r : RpL T c us vs) (hR : ResG T Wx c σ (Rp T) (.ok (.tup us) st) Q) :
    ∀ p, H p = none → Q (.ref p) (upd H p (.tup vs)) := fun p hp =>
  hR _ _ _ (le_still hH hp (.tup vs)) (hH.still hp _) (.tup (SqT.of upd_same) (r.mono (le_still hH hp _)))

def fI (g : Int → Int → U) : U → U → Sto → Out U := fun u w st => match u, w with
  | .int i, .int j => .ok (g i j) st
  | _, _ => .bad
def fIc (C : Int → Int → Bool) (g : Int → Int → U) : U → U → Sto → Out U := fun u w st => match u, w with
  | .int i, .int j => if C i j = true then .ok (g i j) st else .bad
  | _, _ => .bad
theorem sim_I {g : Int → Int → U} {g' : Int → Int → V} (hg : ∀ c i j, Rp T c (g i j) (g' i j)) : OpSim T (rI0 g') (fI g) := fun Wx c σ st H u w x y Q hH ru rw hR => by
  cases u with
  | int i =>
    cases w with
    | int j =>
      cases ru.inv_int
      cases rw.inv_int
      exact ⟨i, j, rfl, rfl, ResG.ret hR hH (hg c i j)⟩
    | _ => exact hR.elim
  | _ => exact hR.elim
theorem sim_Ic {C : Int → Int → Bool} {C' : Int → Int → Prop} {g : Int → Int → U} {g' : Int → Int → V} (hg : ∀ c i j, Rp T c (g i j) (g' i j)) (hC : ∀ i j, C i j = true → C' i j) : OpSim T (rI C' g') (fIc C g) := fun Wx c σ st H u w x y Q hH ru rw hR => by
  cases u with
  | int i =>
    cases w with
    | int j =>
      cases ru.inv_int
      cases rw.inv_int
      dsimp only [fIc] at hR
      by_cases h : C i j = true
      · rw [if_pos h] at hR
        exact ⟨i, j, rfl, rfl, hC i j h, ResG.ret hR hH (hg c i j)⟩
      · rw [if_neg h] at hR
        exact hR.elim
    | _ => exact hR.elim
  | _ => exact hR.elim
def fSub := fI fun i j => .int (i - j)
def fLt := fI fun i j => .bl (decide (i < j))
def fLe := fI fun i j => .bl (decide (i ≤ j))
def fGt := fI fun i j => .bl (decide (j < i))
def fGe := fI fun i j => .bl (decide (j ≤ i))
theorem sim_lt : OpSim T (rI0 fun i j => .bl (decide (i < j))) fLt := sim_I fun _ _ _ => .bl _
theorem sim_gt : OpSim T (rI0 fun i j => .bl (decide (j < i))) fGt := sim_I fun _ _ _ => .bl _
def cMul (i j : Int) : Bool := decide ((-(2 ^ 64) < i ∧ i < 2 ^ 64) ∨ (-(2 ^ 64) < j ∧ j < 2 ^ 64))
def cDiv (_ j : Int) : Bool := decide (0 < j ∧ j < 10 ^ 60)
def cMod (_ j : Int) : Bool := decide (0 < j)
def cPow (i j : Int) : Bool := decide (0 ≤ j ∧ j ≤ 1000000 ∧ i.natAbs < 2 ^ 64)
def fDiv := fIc cDiv fun i j => .int (i / j)
def fMod := fIc cMod fun i j => .int (i % j)
def fPow := fIc cPow fun i j => .int (i ^ j.toNat)
theorem sim_div : OpSim T (rI CDivW fun i j => .int (i / j)) fDiv := sim_Ic (fun _ _ _ => .int _) fun i j h => by
  have h' := of_decide_eq_true h
  exact wide_div (b := 200) h'.1 (by
    have : (10 : Int) ^ 60 < 2 ^ 200 := by decide
    have e : ((2 : Nat) ^ 200 : Int) = (2 : Int) ^ 200 := by norm_cast
    have h2 : (j.natAbs : Int) = j := Int.natAbs_of_nonneg (by omega)
    have h3 : (j.natAbs : Int) < ((2 ^ 200 : Nat) : Int) := by rw [h2]; exact Int.lt_trans h'.2 (by decide)
    exact Int.ofNat_lt.mp h3) (by decide) (by decide)
theorem sim_mod : OpSim T (rI (fun _ j => 0 < j) fun i j => .int (i % j)) fMod := sim_Ic (fun _ _ _ => .int _) fun i j h => of_decide_eq_true h
theorem sim_pow : OpSim T (rI CPow fun i j => .int (i ^ j.toNat)) fPow := sim_Ic (fun _ _ _ => .int _) fun i j h => by
  have h' := of_decide_eq_true (show decide (0 ≤ j ∧ j ≤ 1000000 ∧ i.natAbs < 2 ^ 64) = true from h)
  exact h'
def fNeg : U → Sto → Out U := fun u st => match u with
  | .int i => .ok (.int (-i)) st
  | _ => .bad
def asLst (u : U) (st : Sto) : Option (List U) := match u with
  | .lst us => some us
  | .loc i => match st[i]? with
    | some (.lst us) => some us
    | _ => none
  | _ => none
theorem asLst_at {c : Cn} {st : Sto} {H : Hp} (h : RH T c st H) {u : U} {v : V} {us : List U} (r : Rp T c u v) (e : asLst u st = some us) : ∃ a vs, v = .ref a ∧ H a = some (.lst vs) ∧ RpL T c us vs := by
  cases u with
  | lst xs =>
    obtain ⟨a, vs, rfl, h1, h2⟩ := r.inv_lst
    cases e
    exact ⟨a, vs, rfl, h.sub _ _ h1, h2⟩
  | loc i =>
    obtain ⟨_, rfl⟩ := r.inv_loc
    dsimp only [asLst] at e
    split at e
    · rename_i us' q
      cases e
      obtain ⟨vs, h1, h2⟩ := h.at_lst q
      exact ⟨_, vs, rfl, h1, h2⟩
    · cases e
  | _ => cases e

def fAdd : U → U → Sto → Out U := fun u w st => match u, w with
  | .int i, .int j => .ok (.int (i + j)) st
  | .str a, .str b => if a.length + b.length ≤ 16777216 then .ok (.str (a ++ b)) st else .bad
  | .tup us, .tup ws => if us.isEmpty = true ∨ ¬ us.length + ws.length ≤ 16777216 then .bad else .ok (.tup (us ++ ws)) st
  | u, w => match asLst u st, asLst w st with
    | some us, some ws => if us.length + ws.length ≤ 16777216 then .ok (.loc st.length) (st ++ [.lst (us ++ ws)]) else .bad
    | _, _ => .bad
def rAddAll (K : PySem.W.Frag) : R2 := fun x y H Q => (rI0 (fun i j => .int (i + j)) x y H Q ∨ (∃ i j, x = .str i ∧ y = .str j ∧ i.length + j.length ≤ sizeLine ∧ Q (.str (i ++ j)) H)) ∨ (rCatT K x y H Q ∨ rCat x y H Q)
theorem op_addAll : OpR X (binaryOp .Add) (rAddAll X.K) := (op_add.or op_add_str).or (op_catT.or op_cat)
theorem sim_add : OpSim T (rAddAll T.K) fAdd := fun Wx c σ st H u w x y Q hH ru rw hR => by
  have lists : ∀ {us ws : List U}, asLst u st = some us → asLst w st = some ws → ResG T Wx c σ (Rp T) (if us.length + ws.length ≤ 16777216 then .ok (.loc st.length) (st ++ [.lst (us ++ ws)]) else .bad) Q → rCat x y H Q := by
    intro us ws e1 e2 h
    obtain ⟨a, vs, rfl, ha, r1⟩ := asLst_at hH ru e1
    obtain ⟨b, zs, rfl, hb, r2⟩ := asLst_at hH rw e2
    by_cases hz : us.length + ws.length ≤ 16777216
    · rw [if_pos hz] at h
      refine ⟨a, b, vs, zs, rfl, rfl, ha, hb, ?_, new_lst hH (r1.append r2) h⟩
      rw [szl, ← r1.length, ← r2.length]; exact hz
    · rw [if_neg hz] at h
      exact h.elim
  have gen : ResG T Wx c σ (Rp T) (match asLst u st, asLst w st with | some us, some ws => if us.length + ws.length ≤ 16777216 then .ok (.loc st.length) (st ++ [.lst (us ++ ws)]) else .bad | _, _ => .bad) Q → rAddAll T.K x y H Q := fun h => by
    split at h
    · rename_i us ws e1 e2
      exact .inr (.inr (lists e1 e2 h))
    · exact h.elim
  cases u with
  | int i =>
    cases w with
    | int j =>
      cases ru.inv_int
      cases rw.inv_int
      exact .inl (.inl ⟨i, j, rfl, rfl, ResG.ret hR hH (.int _)⟩)
    | _ => exact gen hR
  | str i =>
    cases w with
    | str j =>
      cases ru.inv_str
      cases rw.inv_str
      dsimp only [fAdd] at hR
      by_cases h : i.length + j.length ≤ 16777216
      · rw [if_pos h] at hR
        exact .inl (.inr ⟨i, j, rfl, rfl, by rw [szl]; exact h, ResG.ret hR hH (.str _)⟩)
      · rw [if_neg h] at hR
        exact hR.elim
    | _ => exact gen hR
  | tup us =>
    cases w with
    | tup ws =>
      obtain ⟨a, vs, rfl, h1, r1⟩ := ru.inv_tup
      obtain ⟨b, zs, rfl, h2, r2⟩ := rw.inv_tup
      dsimp only [fAdd] at hR
      by_cases h : us.isEmpty = true ∨ ¬ us.length + ws.length ≤ 16777216
      · rw [if_pos h] at hR
        exact hR.elim
      · rw [if_neg h] at hR
        have hne : ¬ us.isEmpty = true := fun z => h (.inl z)
        have hz : us.length + ws.length ≤ 16777216 := Classical.not_not.mp fun z => h (.inr z)
        refine .inr (.inl ⟨a, b, vs, zs, rfl, rfl, sqT_up hH h1, sqT_up hH h2, fun z => ?_, by rw [szl, ← r1.length, ← r2.length]; exact hz, fun z => ?_, fun _ => new_tup hH (r1.append r2) hR⟩)
        · subst z
          cases r1
          exact hne rfl
        · subst z
          cases r2
          rw [List.append_nil] at hR
          exact ResG.ret hR hH (.tup h1 r1)
    | _ => exact gen hR
  | _ => exact gen hR

def fMul : U → U → Sto → Out U := fun u w st => match u, w with
  | .int i, .int j => if cMul i j = true then .ok (.int (i * j)) st else .bad
  | u, .int k => match asLst u st with
    | some us => if -(2 ^ 63) ≤ k ∧ k < 2 ^ 63 ∧ us.length * k.toNat ≤ 16777216 then .ok (.loc st.length) (st ++ [.lst (List.replicate k.toNat us).flatten]) else .bad
    | none => .bad
  | _, _ => .bad
def rMulAll : R2 := fun x y H Q => rI CMul (fun i j => .int (i * j)) x y H Q ∨ rRep x y H Q
theorem op_mulAll : OpR X (binaryOp .Mult) rMulAll := op_mul.or op_rep
theorem RpL.rep {c : Cn} {us : List U} {vs : List V} (r : RpL T c us vs) : ∀ k : Nat, RpL T c (List.replicate k us).flatten (List.replicate k vs).flatten
  | 0 => by simpa using RpL.nil
  | k + 1 => by
    rw [List.replicate_succ, List.replicate_succ, List.flatten_cons, List.flatten_cons]
    exact r.append (RpL.rep r k)
theorem sim_mul : OpSim T rMulAll fMul := fun Wx c σ st H u w x y Q hH ru rw hR => by
  cases w with
  | int j =>
    cases rw.inv_int
    have gen : ResG T Wx c σ (Rp T) (match asLst u st with | some us => if -(2 ^ 63) ≤ j ∧ j < 2 ^ 63 ∧ us.length * j.toNat ≤ 16777216 then .ok (.loc st.length) (st ++ [.lst (List.replicate j.toNat us).flatten]) else .bad | none => .bad) Q → rMulAll x (.int j) H Q := fun h => by
      split at h
      · rename_i us e
        obtain ⟨a, vs, rfl, ha, r⟩ := asLst_at hH ru e
        split at h
        · rename_i hz
          exact .inr ⟨a, j, vs, rfl, rfl, ha, hz.1, hz.2.1, by rw [szl, ← r.length]; exact hz.2.2, new_lst hH (r.rep _) h⟩
        · exact h.elim
      · exact h.elim
    cases u with
    | int i =>
      cases ru.inv_int
      dsimp only [fMul] at hR
      by_cases h : cMul i j = true
      · rw [if_pos h] at hR
        have h' := of_decide_eq_true (show decide ((-(2 ^ 64) < i ∧ i < 2 ^ 64) ∨ (-(2 ^ 64) < j ∧ j < 2 ^ 64)) = true from h)
        exact .inl ⟨i, j, rfl, rfl, h', ResG.ret hR hH (.int _)⟩
      · rw [if_neg h] at hR
        exact hR.elim
    | _ => exact gen hR
  | _ => cases u <;> exact hR.elim

def U.isNon : U → Bool
  | .non => true
  | _ => false
def fIsN : U → U → Sto → Out U := fun u w st => match w with
  | .non => .ok (.bl u.isNon) st
  | _ => .bad
def fNotN : U → U → Sto → Out U := fun u w st => match w with
  | .non => .ok (.bl (!u.isNon)) st
  | _ => .bad
theorem Rp.non_iff {c : Cn} {u : U} {x : V} (r : Rp T c u x) : decide (x = .non) = u.isNon := by
  cases r <;> rfl
theorem sim_isN : OpSim T (fun x y H Q => y = .non ∧ Q (.bl (decide (x = .non))) H) fIsN := fun Wx c σ st H u w x y Q hH ru rw hR => by
  cases w with
  | non =>
    cases rw.inv_non
    refine ⟨rfl, ?_⟩
    rw [ru.non_iff]
    exact ResG.ret hR hH (.bl _)
  | _ => exact hR.elim
theorem sim_notN : OpSim T (fun x y H Q => y = .non ∧ Q (.bl (!decide (x = .non))) H) fNotN := fun Wx c σ st H u w x y Q hH ru rw hR => by
  cases w with
  | non =>
    cases rw.inv_non
    refine ⟨rfl, ?_⟩
    rw [ru.non_iff]
    exact ResG.ret hR hH (.bl _)
  | _ => exact hR.elim

def allD (f : U → Option PyData) : List U → Option (List PyData)
  | [] => some []
  | u :: us => match f u, allD f us with
    | some d, some ds => some (d :: ds)
    | _, _ => none
def toD (st : Sto) : Nat → U → Option PyData
  | 0, _ => none
  | n + 1, u => match u with
    | .non => some .none
    | .bl b => some (.bool b)
    | .int i => some (.int i)
    | .str x => some (.str x)
    | .tup us => (allD (toD st n) us).map .tuple
    | .lst us => (allD (toD st n) us).map .list
    | .scr us => (allD (toD st n) us).map .list
    | .loc i => match st[i]? with
      | some (.lst us) => (allD (toD st n) us).map .list
      | _ => none
    | _ => none
theorem allD_at {K : PySem.W.Frag} {c : Cn} {H : Hp} {f : U → Option PyData} (hf : ∀ u v d, Rp T c u v → f u = some d → Dp K H v d) : ∀ {us : List U} {vs : List V} {ds : List PyData}, RpL T c us vs → allD f us = some ds → DpAll K H vs ds
  | _, _, _, .nil, e => by cases e; exact .nil
  | u :: us, v :: vs, ds, .cons r t, e => by
    dsimp only [allD] at e
    split at e
    · rename_i d ds' e1 e2
      cases e
      exact .cons (hf u v d r e1) (allD_at hf t e2)
    · cases e
theorem toD_at {c : Cn} {st : Sto} {H : Hp} (hH : RH T c st H) : ∀ (n : Nat) (u : U) (v : V) (d : PyData), Rp T c u v → toD st n u = some d → Dp T.K H v d
  | 0, _, _, _, _, e => by cases e
  | n + 1, u, v, d, r, e => by
    have ih := toD_at hH n
    cases u with
    | non => cases r.inv_non; cases e; exact .non
    | bl b => cases r.inv_bl; cases e; exact .bl b
    | int b => cases r.inv_int; cases e; exact .int b
    | str b => cases r.inv_str; cases e; exact .str b
    | tup us =>
      obtain ⟨a, vs, rfl, h1, r1⟩ := r.inv_tup
      dsimp only [toD] at e
      obtain ⟨ds, e1, rfl⟩ := Option.map_eq_some_iff.mp e
      exact .tup (sqT_up hH h1) (allD_at ih r1 e1)
    | lst us =>
      obtain ⟨a, vs, rfl, h1, r1⟩ := r.inv_lst
      dsimp only [toD] at e
      obtain ⟨ds, e1, rfl⟩ := Option.map_eq_some_iff.mp e
      exact .lst (SqL.of (hH.sub _ _ h1)) (allD_at ih r1 e1)
    | scr us =>
      obtain ⟨a, vs, rfl, h1, r1⟩ := r.inv_scr
      dsimp only [toD] at e
      obtain ⟨ds, e1, rfl⟩ := Option.map_eq_some_iff.mp e
      exact .lst (sqL_up hH h1) (allD_at ih r1 e1)
    | loc i =>
      obtain ⟨_, rfl⟩ := r.inv_loc
      dsimp only [toD] at e
      split at e
      · rename_i us q
        obtain ⟨vs, h1, r1⟩ := hH.at_lst q
        obtain ⟨ds, e1, rfl⟩ := Option.map_eq_some_iff.mp e
        exact .lst (SqL.of h1) (allD_at ih r1 e1)
      · cases e
    | _ => cases e
def fEqB (g : Bool → Bool) : U → U → Sto → Out U := fun u w st => match toD st 12 u, toD st 12 w with
  | some d, some e => if SeqAt.shaped d = true ∧ SeqAt.shaped e = true then .ok (.bl (g (PyData.eqv d e))) st else .bad
  | _, _ => .bad
def fEq := fEqB id
def fNe := fEqB not
theorem sim_eq : OpSim T (rEqD T.K) fEq := fun Wx c σ st H u w x y Q hH ru rw hR => by
  dsimp only [fEq, fEqB] at hR
  split at hR
  · rename_i d e e1 e2
    split at hR
    · rename_i hs
      exact ⟨d, e, toD_at hH _ _ _ _ ru e1, toD_at hH _ _ _ _ rw e2, hs.1, hs.2, ResG.ret hR hH (.bl _)⟩
    · exact hR.elim
  · exact hR.elim
theorem sim_ne : OpSim T (rNeD T.K) fNe := fun Wx c σ st H u w x y Q hH ru rw hR => by
  dsimp only [fNe, fEqB] at hR
  split at hR
  · rename_i d e e1 e2
    split at hR
    · rename_i hs
      exact ⟨d, e, toD_at hH _ _ _ _ ru e1, toD_at hH _ _ _ _ rw e2, hs.1, hs.2, ResG.ret hR hH (.bl _)⟩
    · exact hR.elim
  · exact hR.elim

def fLen : List U → Sto → Out U := fun us st => match us with
  | [.str z] => if z.length ≤ 16777216 then .ok (.int z.length) st else .bad
  | [u] => match items u st with
    | some xs => .ok (.int xs.length) st
    | none => .bad
  | _ => .bad
theorem sim_len : CallSim T (fun xs H Q => ∃ x n, xs = [x] ∧ LenV T.K x H n ∧ Q (.int n) H) fLen := fun Wx c σ st H us xs Q hH r hR => by
  cases r with
  | nil => exact hR.elim
  | @cons u v us vs r t =>
    cases t with
    | cons _ _ => cases u <;> exact hR.elim
    | nil =>
      have gen : ResG T Wx c σ (Rp T) (match items u st with | some xs => .ok (.int xs.length) st | none => .bad) Q → ∃ x n, [v] = [x] ∧ LenV T.K x H n ∧ Q (.int n) H := fun h => by
        split at h
        · rename_i us e
          obtain ⟨a, vs, rfl, h1, r1⟩ := items_at hH r e
          refine ⟨_, vs.length, rfl, ?_, ?_⟩
          · rcases h1 with h1 | h1
            · exact .inl ⟨vs, h1, rfl⟩
            · exact .inr ⟨vs, h1, rfl⟩
          · rw [← r1.length]
            exact ResG.ret h hH (.int _)
        · exact h.elim
      cases u with
      | str z =>
        cases r.inv_str
        dsimp only [fLen] at hR
        by_cases h : z.length ≤ 16777216
        · rw [if_pos h] at hR
          exact ⟨_, z.length, rfl, ⟨by rw [szl]; exact h, rfl⟩, ResG.ret hR hH (.int _)⟩
        · rw [if_neg h] at hR
          exact hR.elim
      | _ => exact gen hR
def fList : List U → Sto → Out U := fun us st => match us with
  | [u] => match items u st with
    | some xs => .ok (.loc st.length) (st ++ [.lst xs])
    | none => .bad
  | _ => .bad
theorem sim_list : CallSim T (fun xs H Q => ∃ p ys, xs = [.ref p] ∧ (SqL T.K H p ys ∨ SqT T.K H p ys) ∧ ∀ l, H l = none → Q (.ref l) (upd H l (.lst ys))) fList := fun Wx c σ st H us xs Q hH r hR => by
  cases r with
  | nil => exact hR.elim
  | @cons u v us vs r t =>
    cases t with
    | cons _ _ => exact hR.elim
    | nil =>
      dsimp only [fList] at hR
      split at hR
      · rename_i us e
        obtain ⟨a, vs, rfl, h1, r1⟩ := items_at hH r e
        exact ⟨a, vs, rfl, h1, new_lst hH r1 hR⟩
      · exact hR.elim
def fTuple : List U → Sto → Out U := fun us st => match us with
  | [u] => match items u st with
    | some xs => .ok (.tup xs) st
    | none => .bad
  | _ => .bad
theorem sim_tuple : CallSim T (fun xs H Q => ∃ p ys, xs = [.ref p] ∧ ((SqL T.K H p ys ∧ ∀ l, H l = none → Q (.ref l) (upd H l (.tup ys))) ∨ (SqT T.K H p ys ∧ Q (.ref p) H))) fTuple := fun Wx c σ st H us xs Q hH r hR => by
  cases r with
  | nil => exact hR.elim
  | @cons u v us vs r t =>
    cases t with
    | cons _ _ => exact hR.elim
    | nil =>
      cases u with
      | tup ws =>
        obtain ⟨a, vs, rfl, h1, r1⟩ := r.inv_tup
        exact ⟨a, vs, rfl, .inr ⟨sqT_up hH h1, ResG.ret hR hH (.tup h1 r1)⟩⟩
      | lst ws =>
        obtain ⟨a, vs, rfl, h1, r1⟩ := r.inv_lst
        exact ⟨a, vs, rfl, .inl ⟨SqL.of (hH.sub _ _ h1), new_tup hH r1 hR⟩⟩
      | scr ws =>
        obtain ⟨a, vs, rfl, h1, r1⟩ := r.inv_scr
        exact ⟨a, vs, rfl, .inl ⟨sqL_up hH h1, new_tup hH r1 hR⟩⟩
      | loc i =>
        obtain ⟨_, rfl⟩ := r.inv_loc
        dsimp only [fTuple, items] at hR
        cases e : st[i]? with
        | none => rw [e] at hR; exact hR.elim
        | some o =>
          rw [e] at hR
          cases o with
          | lst ws =>
            obtain ⟨vs, h1, r1⟩ := hH.at_lst e
            exact ⟨_, vs, rfl, .inl ⟨SqL.of h1, new_tup hH r1 hR⟩⟩
          | _ => exact hR.elim
      | _ => exact hR.elim
def fInt : List U → Sto → Out U := fun us st => match us with
  | [.int i] => .ok (.int i) st
  | [.bl k] => .ok (.int (if k then 1 else 0)) st
  | _ => .bad
theorem sim_int : CallSim T (fun xs H Q => (∃ i, xs = [.int i] ∧ Q (.int i) H) ∨ ∃ k, xs = [.bl k] ∧ Q (.int (if k then 1 else 0)) H) fInt := fun Wx c σ st H us xs Q hH r hR => by
  cases r with
  | nil => exact hR.elim
  | @cons u v us vs r t =>
    cases t with
    | cons _ _ => cases u <;> exact hR.elim
    | nil =>
      cases u with
      | int i => cases r.inv_int; exact .inl ⟨i, rfl, ResG.ret hR hH (.int _)⟩
      | bl i => cases r.inv_bl; exact .inr ⟨i, rfl, ResG.ret hR hH (.int _)⟩
      | _ => exact hR.elim
def fAbs : List U → Sto → Out U := fun us st => match us with
  | [.int i] => .ok (.int (if i < 0 then -i else i)) st
  | _ => .bad
theorem sim_abs : CallSim T (fun xs H Q => ∃ i, xs = [.int i] ∧ Q (.int (if i < 0 then -i else i)) H) fAbs := fun Wx c σ st H us xs Q hH r hR => by
  cases r with
  | nil => exact hR.elim
  | @cons u v us vs r t =>
    cases t with
    | cons _ _ => cases u <;> exact hR.elim
    | nil =>
      cases u with
      | int i => cases r.inv_int; exact ⟨i, rfl, ResG.ret hR hH (.int _)⟩
      | _ => exact hR.elim
def fMin2 : List U → Sto → Out U := fun us st => match us with
  | [.int i, .int j] => .ok (.int (if j < i then j else i)) st
  | _ => .bad
theorem atI_rp {c : Cn} {us : List U} {vs : List V} (r : RpL T c us vs) {i : Int} {u : U} (e : atI us i = some u) : ∃ v, atI vs i = some v ∧ Rp T c u v := by
  unfold atI at e ⊢
  rw [← r.length]
  cases q : ixN us.length i with
  | none => rw [q] at e; cases e
  | some j =>
    rw [q] at e
    exact r.get e
def fIx : U → U → Sto → Out U := fun u w st => match w with
  | .int i => match u with
    | .str z => if z.length ≤ 16777216 then (match atI z.cps.toList i with
      | some c => .ok (.str ⟨#[c]⟩) st
      | none => .bad) else .bad
    | u => match items u st with
      | some us => (match atI us i with
        | some x => .ok x st
        | none => .bad)
      | none => .bad
  | _ => .bad
theorem sim_ix : OpSim T (rIx T.K) fIx := fun Wx c σ st H u w x y Q hH ru rw hR => by
  cases w with
  | int i =>
    cases rw.inv_int
    have gen : ResG T Wx c σ (Rp T) (match items u st with | some us => (match atI us i with | some x => .ok x st | none => .bad) | none => .bad) Q → rIx T.K x (.int i) H Q := fun h => by
      split at h
      · rename_i us e
        obtain ⟨a, vs, rfl, h1, r1⟩ := items_at hH ru e
        split at h
        · rename_i z q
          obtain ⟨v, hv, rv⟩ := atI_rp r1 q
          rcases h1 with h1 | h1
          · exact .inl ⟨a, vs, i, v, rfl, rfl, h1, hv, ResG.ret h hH rv⟩
          · exact .inr (.inl ⟨a, vs, i, v, rfl, rfl, h1, hv, ResG.ret h hH rv⟩)
        · exact h.elim
      · exact h.elim
    cases u with
    | str z =>
      cases ru.inv_str
      dsimp only [fIx] at hR
      split at hR
      · rename_i hz
        split at hR
        · rename_i c' q
          exact .inr (.inr ⟨z, i, c', rfl, rfl, by rw [szl]; exact hz, q, ResG.ret hR hH (.str _)⟩)
        · exact hR.elim
      · exact hR.elim
    | _ => exact gen hR
  | _ => exact hR.elim
end
end NK

namespace NK
open PySem L2

def WalkM (T : Tb) (c0 : Cn) (J : It) (us : List U) (g : Sto → Prop) : Prop :=
  ∃ (G : Hp → Prop) (Y : Nat → Hp → V → Hp → Prop), Walk J us.length G Y ∧ ∀ c st H, Le c0 c → RH T c st H → g st →
    G H ∧ ∀ i x H', i < us.length → Y i H x H' → ∃ c' u, us[i]? = some u ∧ Le c c' ∧ RH T c' st H' ∧ Rp T c' u x
structure Src where
  us : List U
  g : Sto → Prop
abbrev MI := MG Src
abbrev tiOf (T : Tb) (P : Pin) (Wx : WX) (m : MI) : TI := tgOf T P Wx (fun c p J => WalkM T c J p.us p.g) m
def PIm (X : Cx) (T : Tb) (P : Pin) (Wx : WX) (tg e : Expr) (m : MI) : Prop := PI X tg e (tiOf T P Wx m)

def src (u : U) (st : Sto) : Option Src := match u with
  | .str z => some ⟨z.cps.toList.map fun k => .str ⟨#[k]⟩, fun _ => True⟩
  | .tup us => some ⟨us, fun _ => True⟩
  | .lst us => some ⟨us, fun _ => True⟩
  | .scr us => some ⟨us, fun _ => True⟩
  | .loc i => match st[i]? with
    | some (.lst us) => some ⟨us, fun s => s[i]? = some (Ob.lst us)⟩
    | _ => none
  | _ => none
def iSeq (m : ME) : MI := fun env st => (m env st).bind fun u st1 => match src u st1 with
  | some p => .ok p st1
  | none => .bad
section
variable {X : Cx} {T : Tb} {P : Pin} {Wx : WX} {tg e : Expr} {m : ME}
theorem walk_of_list {c0 : Cn} {a : Addr} {us : List U} {g : Sto → Prop} (h : ∀ c st H, Le c0 c → RH T c st H → g st → ∃ vs, SqL T.K H a vs ∧ RpL T c us vs) : WalkM T c0 (Itl T.K a) us g := by
  refine ⟨fun H => ∃ vs, SqL T.K H a vs ∧ vs.length = us.length, fun i H x H' => H' = H ∧ ∀ vs, SqL T.K H a vs → vs[i]? = some x, ⟨fun i H hi ⟨vs, h1, h2⟩ => ?_, fun H ⟨vs, h1, h2⟩ => ⟨vs, h1, Nat.le_of_eq h2⟩, fun i H x H' hi _ y => y⟩, fun c st H l hH hg => ?_⟩
  · have hi' : i < vs.length := by rw [h2]; exact hi
    exact ⟨vs, vs[i], h1, by simp [hi']⟩
  · obtain ⟨vs, h1, r⟩ := h c st H l hH hg
    refine ⟨⟨vs, h1, r.length.symm⟩, fun i x H' hi y => ?_⟩
    obtain ⟨rfl, hx⟩ := y
    obtain ⟨u, hu, ru⟩ := r.getV (hx vs h1)
    exact ⟨c, u, hu, Le.refl c, hH, ru⟩
theorem walk_of_tup {c0 : Cn} {a : Addr} {us : List U} {g : Sto → Prop} (h : ∀ c st H, Le c0 c → RH T c st H → g st → ∃ vs, SqT T.K H a vs ∧ RpL T c us vs) : WalkM T c0 (Itt T.K a) us g := by
  refine ⟨fun H => ∃ vs, SqT T.K H a vs ∧ vs.length = us.length, fun i H x H' => H' = H ∧ ∀ vs, SqT T.K H a vs → vs[i]? = some x, ⟨fun i H hi ⟨vs, h1, h2⟩ => ?_, fun H ⟨vs, h1, h2⟩ => ⟨vs, h1, Nat.le_of_eq h2⟩, fun i H x H' hi _ y => y⟩, fun c st H l hH hg => ?_⟩
  · have hi' : i < vs.length := by rw [h2]; exact hi
    exact ⟨vs, vs[i], h1, by simp [hi']⟩
  · obtain ⟨vs, h1, r⟩ := h c st H l hH hg
    refine ⟨⟨vs, h1, r.length.symm⟩, fun i x H' hi y => ?_⟩
    obtain ⟨rfl, hx⟩ := y
    obtain ⟨u, hu, ru⟩ := r.getV (hx vs h1)
    exact ⟨c, u, hu, Le.refl c, hH, ru⟩
theorem walk_of_str {c0 : Cn} {z : Str} {g : Sto → Prop} : WalkM T c0 (Its z) (z.cps.toList.map fun k => U.str ⟨#[k]⟩) g := by
  refine ⟨fun _ => True, fun i H v H' => H' = H ∧ ∃ c, z.cps[i]? = some c ∧ v = .str ⟨#[c]⟩, ?_, fun c st H l hH hg => ⟨True.intro, fun i x H' hi y => ?_⟩⟩
  · rw [List.length_map, Array.length_toList]; exact walk_str
  · obtain ⟨rfl, k, hk, rfl⟩ := y
    refine ⟨c, .str ⟨#[k]⟩, ?_, Le.refl c, hH, .str _⟩
    rw [List.getElem?_map, Array.getElem?_toList, hk]
    rfl
theorem pim_seq (hK : X.K = T.K) (h : PEm X T P Wx e m) : PIm X T P Wx tg e (iSeq m) := PI.imp (PI.or (PI.or (pi_list h) (pi_tup h)) (pi_str h)) fun σ H R ⟨c, env, st, hH, hE, hR⟩ => by
  have go := tg_bind (m := m) (R := Rp T) (Q := R) hH hE hR
  cases e1 : m env st with
  | bad =>
    unfold iSeq at hR
    rw [e1] at hR
    exact hR.elim
  | exc x st1 =>
    refine .inr ⟨c, env, st, hH, hE, ?_⟩
    unfold iSeq at hR
    rw [e1] at hR ⊢
    exact hR
  | ok u st1 =>
    unfold iSeq at hR
    rw [e1] at hR
    have tup : ∀ {us : List U}, u = .tup us → (iList X.K (teOf T P Wx m) σ H R ∨ iTup X.K (teOf T P Wx m) σ H R) ∨ iStr (teOf T P Wx m) σ H R := by
      intro us eu
      subst eu
      refine .inl (.inr ⟨c, env, st, hH, hE, ?_⟩)
      rw [e1]
      intro c1 v H1 l1 hH1 r1
      obtain ⟨a, vs, rfl, h1, r2⟩ := r1.inv_tup
      refine ⟨a, rfl, ⟨vs, by rw [hK]; exact sqT_up hH1 h1⟩, ?_⟩
      rw [hK]
      exact hR c1 _ H1 l1 hH1 (walk_of_tup fun c2 st2 H2 l2 hH2 _ => ⟨vs, sqT_up hH2 (sqT_mono l2.F h1), r2.mono l2⟩)
    have lst : ∀ {us : List U} {g : Sto → Prop}, src u st1 = some ⟨us, g⟩ → (∀ c1 v H1, Le c c1 → RH T c1 st1 H1 → Rp T c1 u v → ∃ a vs, v = .ref a ∧ SqL T.K H1 a vs ∧ ∀ c2 st2 H2, Le c1 c2 → RH T c2 st2 H2 → g st2 → ∃ vs, SqL T.K H2 a vs ∧ RpL T c2 us vs) →
        (iList X.K (teOf T P Wx m) σ H R ∨ iTup X.K (teOf T P Wx m) σ H R) ∨ iStr (teOf T P Wx m) σ H R := by
      intro us g es k
      refine .inl (.inl ⟨c, env, st, hH, hE, ?_⟩)
      rw [e1]
      intro c1 v H1 l1 hH1 r1
      obtain ⟨a, vs, rfl, h1, kk⟩ := k c1 v H1 l1 hH1 r1
      refine ⟨a, rfl, ⟨vs, by rw [hK]; exact h1⟩, ?_⟩
      rw [hK]
      change ResG T Wx c σ _ (match src u st1 with | some p => .ok p st1 | none => .bad) R at hR
      rw [es] at hR
      exact hR c1 _ H1 l1 hH1 (walk_of_list kk)
    cases u with
    | tup us => exact tup rfl
    | lst us =>
      refine lst (us := us) (g := fun _ => True) rfl fun c1 v H1 l1 hH1 r1 => ?_
      obtain ⟨a, vs, rfl, h1, r2⟩ := r1.inv_lst
      exact ⟨a, vs, rfl, SqL.of (hH1.sub _ _ h1), fun c2 st2 H2 l2 hH2 _ => ⟨vs, SqL.of (hH2.sub _ _ (l2.F _ _ h1)), r2.mono l2⟩⟩
    | scr us =>
      refine lst (us := us) (g := fun _ => True) rfl fun c1 v H1 l1 hH1 r1 => ?_
      obtain ⟨a, vs, rfl, h1, r2⟩ := r1.inv_scr
      exact ⟨a, vs, rfl, sqL_up hH1 h1, fun c2 st2 H2 l2 hH2 _ => ⟨vs, sqL_up hH2 (sqL_mono l2.F h1), r2.mono l2⟩⟩
    | loc i =>
      cases es : st1[i]? with
      | none =>
        change ResG T Wx c σ _ (match (match st1[i]? with | some (.lst us) => some (Src.mk us fun s => s[i]? = some (Ob.lst us)) | _ => none) with | some p => .ok p st1 | none => .bad) R at hR
        rw [es] at hR
        exact hR.elim
      | some o =>
        cases o with
        | lst us =>
          refine lst (us := us) (g := fun s => s[i]? = some (Ob.lst us)) (by dsimp only [src]; rw [es]) fun c1 v H1 l1 hH1 r1 => ?_
          obtain ⟨hi, rfl⟩ := r1.inv_loc
          obtain ⟨vs, h1, r2⟩ := hH1.at_lst es
          refine ⟨_, vs, rfl, SqL.of h1, fun c2 st2 H2 l2 hH2 hg => ?_⟩
          obtain ⟨ws, h3, r3⟩ := hH2.at_lst hg
          rw [l2.ρ i hi] at h3
          exact ⟨ws, SqL.of h3, r3⟩
        | _ =>
          change ResG T Wx c σ _ (match (match st1[i]? with | some (.lst us) => some (Src.mk us fun s => s[i]? = some (Ob.lst us)) | _ => none) with | some p => .ok p st1 | none => .bad) R at hR
          rw [es] at hR
          exact hR.elim
    | str z =>
      refine .inr ⟨c, env, st, hH, hE, ?_⟩
      rw [e1]
      intro c1 v H1 l1 hH1 r1
      cases r1.inv_str
      exact ⟨z, rfl, hR c1 _ H1 l1 hH1 walk_of_str⟩
    | _ => exact hR.elim

def iRng1 (ma : MA) : MI := fun env st => (ma env st).bind fun us st1 => match us with
  | [.int j] => if -(2 ^ 62) ≤ j ∧ j < 2 ^ 62 then .ok ⟨(List.range j.toNat).map fun (i : Nat) => .int (0 + (i : Int)), fun _ => True⟩ st1 else .bad
  | _ => .bad
theorem walk_of_range {c0 : Cn} {lo : Int} {n : Nat} {g : Sto → Prop} : WalkM T c0 (Itr lo n) ((List.range n).map fun (i : Nat) => U.int (lo + (i : Int))) g := by
  refine ⟨fun _ => True, YFn fun i => .int (lo + i), ?_, fun c st H l hH hg => ⟨True.intro, fun i x H' hi y => ?_⟩⟩
  · rw [List.length_map, List.length_range]; exact walk_range
  · obtain ⟨rfl, rfl⟩ := y
    rw [List.length_map, List.length_range] at hi
    exact ⟨c, .int (lo + (i : Int)), by rw [List.getElem?_map, List.getElem?_range hi]; rfl, Le.refl c, hH, .int _⟩
variable {a b : Expr} {ma : MA} {p pos tpos : Pos}
theorem pim_range1 (hg : Gl X "range") (hm : X.mg "range" = none) (ha : PAm X T P Wx [a] ma) (hs : starEach [a] X.env = [(false, eval a X.env)] := by rfl) : PIm X T P Wx tg (.Call (.Name "range" p) [a] [] pos) (iRng1 ma) :=
  PI.imp (pi_range1 hg hm ha hs) fun σ H R ⟨c, env, st, hH, hE, hR⟩ => by
    refine (tg_bind hH hE hR).mono fun vs H1 ⟨us, c1, st1, l1, hH1, hE1, r1, hR1⟩ => ?_
    split at hR1
    · rename_i j
      obtain ⟨v, vs', rfl, r, t⟩ := r1.inv_cons
      cases t.inv_nil
      cases r.inv_int
      split at hR1
      · rename_i hj
        exact ⟨j, rfl, hj.1, hj.2, ResG.ret hR1 hH1 walk_of_range⟩
      · exact hR1.elim
    · exact hR1.elim
def enumFrom : Nat → List U → List U
  | _, [] => []
  | n, u :: us => .tup [.int (n : Int), u] :: enumFrom (n + 1) us
theorem enum_len : ∀ (n : Nat) (us : List U), (enumFrom n us).length = us.length
  | _, [] => rfl
  | n, u :: us => by
    show (enumFrom (n + 1) us).length + 1 = us.length + 1
    rw [enum_len (n + 1) us]
theorem enum_get : ∀ (n : Nat) (us : List U) (i : Nat) (u : U), us[i]? = some u → (enumFrom n us)[i]? = some (.tup [.int ((n + i : Nat) : Int), u])
  | _, [], _, _, h => by simp at h
  | n, a :: us, 0, u, h => by
    cases h
    rfl
  | n, a :: us, i + 1, u, h => by
    have ih := enum_get (n + 1) us i u (by simpa using h)
    show (enumFrom (n + 1) us)[i]? = _
    rw [ih]
    have e : n + 1 + i = n + (i + 1) := by omega
    rw [e]
theorem new_pair {c : Cn} {st : Sto} {H : Hp} (hH : RH T c st H) {u w : U} {x y : V} (r : Rp T c u x) (q : Rp T c w y) {t : Addr} (ht : H t = none) :
    Le c (c.still t (.tup [x, y])) ∧ RH T (c.still t (.tup [x, y])) st (upd H t (.tup [x, y])) ∧ Rp T (c.still t (.tup [x, y])) (.tup [u, w]) (.ref t) :=
  let l := le_still hH ht (.tup [x, y])
  ⟨l, hH.still ht _, .tup (SqT.of upd_same) (.cons (r.mono l) (.cons (q.mono l) .nil))⟩
theorem walk_of_enum {c0 : Cn} {a : Addr} {us : List U} {g : Sto → Prop} (h : ∀ c st H, Le c0 c → RH T c st H → g st → ∃ vs, SqL T.K H a vs ∧ RpL T c us vs) : WalkM T c0 (Ite T.K a) (enumFrom 0 us) g := by
  refine ⟨fun H => ∃ vs, SqL T.K H a vs ∧ vs.length = us.length, fun i H v H' => ∃ t x, v = .ref t ∧ H t = none ∧ H' = upd H t (.tup [.int (i : Nat), x]) ∧ ∀ xs, SqL T.K H a xs → xs[i]? = some x, ⟨fun i H hi ⟨vs, h1, h2⟩ => ?_, fun H ⟨vs, h1, h2⟩ => ⟨vs, h1, ?_⟩, fun i H x H' hi _ y => y⟩, fun c st H l hH hg => ?_⟩
  · have hi' : i < vs.length := by rw [h2, ← enum_len 0 us]; exact hi
    exact ⟨vs, vs[i], h1, by simp [hi']⟩
  · rw [enum_len, h2]; exact Nat.le_refl _
  · obtain ⟨vs, h1, r⟩ := h c st H l hH hg
    refine ⟨⟨vs, h1, r.length.symm⟩, fun i x H' hi y => ?_⟩
    obtain ⟨t, z, rfl, ht, rfl, hx⟩ := y
    obtain ⟨u, hu, ru⟩ := r.getV (hx vs h1)
    obtain ⟨n1, n2, n3⟩ := new_pair hH (.int (i : Int)) ru ht
    refine ⟨_, _, enum_get 0 us i u hu, n1, n2, ?_⟩
    rw [Nat.zero_add]
    exact n3
end

abbrev MGt := U → Env → Sto → Option Env
def gN (i : Nat) : MGt := fun u env _ => some (env.set i (some u))
def setAll : List Nat → List U → Env → Option Env
  | [], [], env => some env
  | i :: is, u :: us, env => setAll is us (env.set i (some u))
  | _, _, _ => none
def gT (is : List Nat) : MGt := fun u env _ => match u with
  | .tup us => setAll is us env
  | _ => none
def tgtOf (T : Tb) (P : Pin) (g : MGt) : TG := fun v σ H Q => ∃ c env st u env', RH T c st H ∧ RE T P c env σ ∧ Rp T c u v ∧ g u env st = some env' ∧ ∀ σ', RE T P c env' σ' → Q σ' H
def PGm (X : Cx) (T : Tb) (P : Pin) (tg : Expr) (g : MGt) : Prop := PG X tg (tgtOf T P g)
theorem PG.imp {X : Cx} {tg : Expr} {t t' : TG} (h : PG X tg t) (k : ∀ v σ H Q, t' v σ H Q → t v σ H Q) : PG X tg t' := ⟨fun pins s σ H v u Q I r q => h.run pins s σ H v u Q I r (k v σ H Q q)⟩
section
variable {X : Cx} {T : Tb} {P : Pin} {pos : Pos}
theorem pgm_name {tg : Expr} {i : Nat} (h : PG X tg (gName i)) (hp : pinned P i = false := by rfl) : PGm X T P tg (gN i) := PG.imp h fun v σ H Q ⟨c, env, st, u, env', hH, hE, r, e, k⟩ => by
  cases e
  exact k _ (hE.set r i hp)
inductive PGN (X : Cx) (P : Pin) : List Expr → List Nat → TGs → Prop
  | nil : PGN X P [] [] gNil
  | cons {e : Expr} {es : List Expr} {i : Nat} {is : List Nat} {t : TGs} : PG X e (gName i) → pinned P i = false → PGN X P es is t → (assignEach (e :: es) X.env).map (·.2) = assign e X.env :: (assignEach es X.env).map (·.2) → PGN X P (e :: es) (i :: is) (gCons (gName i) t)
theorem PGN.pgs {es : List Expr} {is : List Nat} {t : TGs} (h : PGN X P es is t) : PGs X es t := by
  induction h with
  | nil => exact pgs_nil
  | cons a _ _ b ih => exact pgs_cons a ih b
theorem PGN.run {es : List Expr} {is : List Nat} {t : TGs} (h : PGN X P es is t) : ∀ {c : Cn} {env env' : Env} {σ : L2.St} {H : Hp} {us : List U} {vs : List V} {Q : L2.St → Hp → Prop}, RE T P c env σ → RpL T c us vs → setAll is us env = some env' → (∀ σ', RE T P c env' σ' → Q σ' H) → t vs σ H Q := by
  induction h with
  | nil =>
    intro c env env' σ H us vs Q hE r e k
    cases us with
    | nil =>
      cases e
      cases r
      exact ⟨rfl, k _ hE⟩
    | cons _ _ => cases e
  | @cons e es i is t a hp _ b ih =>
    intro c env env' σ H us vs Q hE r e k
    cases us with
    | nil => cases e
    | cons u us =>
      obtain ⟨v, vs', rfl, r1, r2⟩ := r.inv_cons
      exact ⟨v, vs', rfl, ih (hE.set r1 i hp) r2 e k⟩
theorem set_len : ∀ {is : List Nat} {us : List U} {env env' : Env}, setAll is us env = some env' → us.length = is.length
  | [], [], _, _, _ => rfl
  | i :: is, u :: us, env, env', h => by
    have := set_len (is := is) (us := us) h
    simp [this]
  | [], _ :: _, _, _, h => by cases h
  | _ :: _, [], _, _, h => by cases h
theorem pgm_tup {es : List Expr} {kk : Nat} {is : List Nat} {t : TGs} (hK : X.K = T.K) (hc : X.calm = true) (h : PGN X P es is t) (hn : (assignEach es X.env).length = is.length := by rfl) (hst : (assignEach es X.env).findIdx? (·.1) = none := by rfl) : PGm X T P (.Tuple es kk pos) (gT is) :=
  PG.imp (pg_tup hc h.pgs hn hst) fun v σ H Q ⟨c, env, st, u, env', hH, hE, r, e, k⟩ => by
    cases u with
    | tup us =>
      obtain ⟨a, vs, rfl, h1, r1⟩ := r.inv_tup
      refine ⟨a, vs, rfl, by rw [hK]; exact sqT_up hH h1, ?_, h.run hE r1 e k⟩
      rw [← r1.length]
      exact set_len e
    | _ => cases e
end
end NK

namespace NK
open PySem L2

inductive SO where
  | next (env : Env) (st : Sto)
  | ret (u : U) (st : Sto)
  | brk (env : Env) (st : Sto)
  | cont (env : Env) (st : Sto)
  | exc (x : Ex) (env : Env) (st : Sto)
  | bad
abbrev MS := Env → Sto → SO
def ResS (T : Tb) (P : Pin) (Wx : WX) (c : Cn) (r : SO) (D : Ends) : Prop := match r with
  | .next env st => ∀ c' σ' H', Le c c' → RH T c' st H' → RE T P c' env σ' → D.nx σ' H'
  | .ret u st => ∀ c' v H', Le c c' → RH T c' st H' → Rp T c' u v → D.rt v H'
  | .brk env st => ∀ c' σ' H', Le c c' → RH T c' st H' → RE T P c' env σ' → D.bk σ' H'
  | .cont env st => ∀ c' σ' H', Le c c' → RH T c' st H' → RE T P c' env σ' → D.ct σ' H'
  | .exc x env st => ∀ c' cls d σ' H', Le c c' → RH T c' st H' → RE T P c' env σ' → RX T c' x cls d → Wx cls d σ' H'
  | .bad => False
def tsOf (T : Tb) (P : Pin) (Wx : WX) (m : MS) : TS := fun D σ H => ∃ c env st, RH T c st H ∧ RE T P c env σ ∧ ResS T P Wx c (m env st) D
def PSm (X : Cx) (T : Tb) (P : Pin) (Wx : WX) (s : Stmt) (m : MS) : Prop := PS X s (tsOf T P Wx m)
def PSsm (X : Cx) (T : Tb) (P : Pin) (Wx : WX) (s : List Stmt) (m : MS) : Prop := PSs X s (tsOf T P Wx m)

def SO.bind (r : SO) (k : MS) : SO := match r with
  | .next env st => k env st
  | .ret u st => .ret u st
  | .brk env st => .brk env st
  | .cont env st => .cont env st
  | .exc x env st => .exc x env st
  | .bad => .bad
def Out.st {α : Type} (r : Out α) (env : Env) (k : α → Sto → SO) : SO := match r with
  | .ok a st => k a st
  | .exc x st => .exc x env st
  | .bad => .bad

section
variable {T : Tb} {P : Pin} {Wx : WX} {c c' : Cn} {r : SO} {D D' : Ends} {σ : L2.St} {H : Hp}
theorem ResS.later (l : Le c c') (h : ResS T P Wx c r D) : ResS T P Wx c' r D := by
  cases r with
  | next env st => exact fun c2 σ' H' a b d => h c2 σ' H' (l.trans a) b d
  | ret u st => exact fun c2 σ' H' a b d => h c2 σ' H' (l.trans a) b d
  | brk env st => exact fun c2 σ' H' a b d => h c2 σ' H' (l.trans a) b d
  | cont env st => exact fun c2 σ' H' a b d => h c2 σ' H' (l.trans a) b d
  | exc x env st => exact fun c2 cls d σ' H' a b e f => h c2 cls d σ' H' (l.trans a) b e f
  | bad => exact h
theorem ResS.mono (h : ResS T P Wx c r D) (n : ∀ σ H, D.nx σ H → D'.nx σ H) (rt : ∀ v H, D.rt v H → D'.rt v H) (b : ∀ σ H, D.bk σ H → D'.bk σ H) (ct : ∀ σ H, D.ct σ H → D'.ct σ H) : ResS T P Wx c r D' := by
  cases r with
  | next env st => exact fun c2 σ' H' a e d => n _ _ (h c2 σ' H' a e d)
  | ret u st => exact fun c2 σ' H' a e d => rt _ _ (h c2 σ' H' a e d)
  | brk env st => exact fun c2 σ' H' a e d => b _ _ (h c2 σ' H' a e d)
  | cont env st => exact fun c2 σ' H' a e d => ct _ _ (h c2 σ' H' a e d)
  | exc x env st => exact h
  | bad => exact h
theorem ts_bind {α β : Type} {R : Cn → α → β → Prop} {m : MG α} {k : α → Sto → SO} {env : Env} {st : Sto} (hH : RH T c st H) (hE : RE T P c env σ) (hR : ResS T P Wx c ((m env st).st env k) D) :
    tgOf T P Wx R m σ H fun x H1 => ∃ u c1 st1, Le c c1 ∧ RH T c1 st1 H1 ∧ RE T P c1 env σ ∧ R c1 u x ∧ ResS T P Wx c1 (k u st1) D := by
  refine ⟨c, env, st, hH, hE, ?_⟩
  cases e : m env st with
  | ok u st1 =>
    rw [e] at hR
    exact fun c1 v H1 l h r => ⟨u, c1, st1, l, h, hE.mono l, r, ResS.later l hR⟩
  | exc x st1 =>
    rw [e] at hR
    exact fun c1 cls d H1 l h r => hR c1 cls d σ H1 l h (hE.mono l) r
  | bad =>
    rw [e] at hR
    exact hR
theorem ResS.go {env : Env} {st : Sto} (h : ResS T P Wx c (.next env st) D) (hH : RH T c st H) (hE : RE T P c env σ) : D.nx σ H := h c σ H (Le.refl c) hH hE
end

def sNext : MS := fun env st => .next env st
def sSeq (a b : MS) : MS := fun env st => (a env st).bind b
def sDrop (m : ME) : MS := fun env st => (m env st).st env fun _ st1 => .next env st1
def sRet (m : ME) : MS := fun env st => (m env st).st env fun u st1 => .ret u st1
def sRetN : MS := fun env st => .ret .non st
def sBrk : MS := fun env st => .brk env st
def sCont : MS := fun env st => .cont env st
def sAsg (m : ME) (g : MGt) : MS := fun env st => (m env st).st env fun u st1 => match g u env st1 with
  | some env' => .next env' st1
  | none => .bad
def sIf (mt : MT) (a b : MS) : MS := fun env st => (mt env st).st env fun k st1 => if k = true then a env st1 else b env st1
noncomputable def forM (g : Sto → Prop) (gt : MGt) (b : MS) : List U → MS
  | [], env, st => open Classical in if g st then .next env st else .bad
  | u :: us, env, st => open Classical in if g st then (match gt u env st with
    | none => .bad
    | some env1 => match b env1 st with
      | .next env2 st2 => forM g gt b us env2 st2
      | .cont env2 st2 => forM g gt b us env2 st2
      | .brk env2 st2 => .next env2 st2
      | .ret u st2 => .ret u st2
      | .exc x env2 st2 => .exc x env2 st2
      | .bad => .bad) else .bad
noncomputable def sFor (mi : MI) (gt : MGt) (b : MS) : MS := fun env st => (mi env st).st env fun p st1 => forM p.g gt b p.us env st1

section
variable {X : Cx} {T : Tb} {P : Pin} {Wx : WX} {s : Stmt} {rest : List Stmt} {e : Expr} {ma mb : MS} {m : ME} {pos : Pos}
theorem pssm_nil : PSsm X T P Wx [] sNext := PSs.imp pss_nil fun D σ H ⟨c, env, st, hH, hE, hR⟩ => ResS.go (D := D) hR hH hE
theorem seq_run {t u : TS} (h1 : ∀ D σ H, tsOf T P Wx ma D σ H → t D σ H) (h2 : ∀ D σ H, tsOf T P Wx mb D σ H → u D σ H) (D : Ends) (σ : L2.St) (H : Hp) (h : tsOf T P Wx (sSeq ma mb) D σ H) : tSeq t u D σ H := by
  obtain ⟨c, env, st, hH, hE, hR⟩ := h
  refine h1 _ _ _ ⟨c, env, st, hH, hE, ?_⟩
  unfold sSeq at hR
  cases q : ma env st with
  | next env1 st1 =>
    rw [q] at hR
    exact fun c1 σ1 H1 l1 hH1 hE1 => h2 _ _ _ ⟨c1, env1, st1, hH1, hE1, ResS.later l1 hR⟩
  | ret u st1 => rw [q] at hR; exact hR
  | brk env1 st1 => rw [q] at hR; exact hR
  | cont env1 st1 => rw [q] at hR; exact hR
  | exc x env1 st1 => rw [q] at hR; exact hR
  | bad => rw [q] at hR; exact hR
theorem pssm_cons (h1 : PSm X T P Wx s ma) (h2 : PSsm X T P Wx rest mb) : PSsm X T P Wx (s :: rest) (sSeq ma mb) := PSs.imp (pss_cons h1 h2) (seq_run (fun _ _ _ h => h) fun _ _ _ h => h)
theorem pssm_one (h1 : PSm X T P Wx s ma) : PSsm X T P Wx [s] ma := pss_one h1
theorem psm_cont : PSm X T P Wx (.Continue pos) sCont := PS.imp ps_continue fun D σ H ⟨c, env, st, hH, hE, hR⟩ => hR c σ H (Le.refl c) hH hE
theorem psm_expr (h : PEm X T P Wx e m) (hs : swapsWith e none pos.line X.env = pure false := by rfl) : PSm X T P Wx (.Expr e pos) (sDrop m) := PS.imp (ps_expr h hs) fun D σ H ⟨c, env, st, hH, hE, hR⟩ =>
  (ts_bind hH hE hR).mono fun x H1 ⟨u, c1, st1, l1, hH1, hE1, r1, hR1⟩ => ResS.go (D := D) hR1 hH1 hE1
theorem psm_ret (h : PEm X T P Wx e m) : PSm X T P Wx (.Return (some e) pos) (sRet m) := PS.imp (ps_ret h) fun D σ H ⟨c, env, st, hH, hE, hR⟩ =>
  (ts_bind hH hE hR).mono fun x H1 ⟨u, c1, st1, l1, hH1, hE1, r1, hR1⟩ => hR1 c1 x H1 (Le.refl c1) hH1 r1
theorem asg_run {tg : TG} {g : MGt} (hg : ∀ v σ H Q, tgtOf T P g v σ H Q → tg v σ H Q) (D : Ends) (σ : L2.St) (H : Hp) (h : tsOf T P Wx (sAsg m g) D σ H) : tAsg (teOf T P Wx m) tg D σ H := by
  obtain ⟨c, env, st, hH, hE, hR⟩ := h
  refine (ts_bind hH hE hR).mono fun x H1 ⟨u, c1, st1, l1, hH1, hE1, r1, hR1⟩ => ?_
  split at hR1
  · rename_i env' q
    exact hg _ _ _ _ ⟨c1, env, st1, u, env', hH1, hE1, r1, q, fun σ' hE' => ResS.go (D := D) hR1 hH1 hE'⟩
  · exact hR1.elim
theorem psm_asg {tg : Expr} {g : MGt} (h : PEm X T P Wx e m) (hg : PGm X T P tg g) (hs : swapsWithSole [tg] e pos.line X.env = pure false := by rfl) (hw : swappedStores [tg] e X.env = pure none := by rfl)
    (h1 : (assignEach [tg] X.env).map (·.2) = [assign tg X.env] := by rfl) : PSm X T P Wx (.Assign [tg] e pos) (sAsg m g) := PS.imp (ps_asg h hg hs hw h1) (asg_run fun _ _ _ _ h => h)
theorem psm_set {i : Nat} {x : Str} {pos' : Pos} (hN : X.N.Nodup) (hi : X.N[i]? = some x) (hx : Loc X.env.scope x) (h : PEm X T P Wx e m) (hs : swapsWith e (some (.Name x pos')) pos.line X.env = pure false := by rfl) (hp : pinned P i = false := by rfl)
    (hf : X.fn x = true ∨ X.env.scope.names.lookup x = some .local := by first | exact .inl rfl | exact .inr rfl | assumption) : PSm X T P Wx (.Assign [.Name x pos'] e pos) (sAsg m (gN i)) :=
  PS.imp (ps_set hN hi hx h hs hf) (asg_run fun v σ H Q ⟨c, env, st, u, env', hH, hE, r, q, k⟩ => by
    cases q
    exact k _ (hE.set r i hp))
theorem psm_if {c : Expr} {a b : List Stmt} {mt : MT} (hc : PTm X T P Wx c mt) (ha : PSsm X T P Wx a ma) (hb : PSsm X T P Wx b mb) : PSm X T P Wx (.If c a b pos) (sIf mt ma mb) :=
  PS.imp (ps_if hc ha hb) fun D σ H ⟨c, env, st, hH, hE, hR⟩ => (ts_bind hH hE hR).mono fun k H1 ⟨u, c1, st1, l1, hH1, hE1, r1, hR1⟩ => by
    cases (show u = k from r1)
    cases k with
    | true => exact ⟨c1, env, st1, hH1, hE1, hR1⟩
    | false => exact ⟨c1, env, st1, hH1, hE1, hR1⟩
theorem for_run {J : It} {us : List U} {g : Sto → Prop} {gt : MGt} {tg : TG} {tb : TS} {c0 : Cn} {D : Ends} (hw : WalkM T c0 J us g) (hg : ∀ v σ H Q, tgtOf T P gt v σ H Q → tg v σ H Q) (hb : ∀ D σ H, tsOf T P Wx ma D σ H → tb D σ H)
    {c : Cn} {env : Env} {st : Sto} {σ : L2.St} {H : Hp} (l : Le c0 c) (hH : RH T c st H) (hE : RE T P c env σ) (hR : ResS T P Wx c (forM g gt ma us env st) D) :
    ∃ W : Nat → Nat → L2.St → Hp → Prop, (∃ m, W 0 m σ H) ∧ ∀ i m σ H, W i m σ H →
      (J.stop i H ∧ D.nx σ H) ∨ (J.go i H ∧ ∃ N : L2.St → Hp → Prop, (∀ σ' H', N σ' H' → ∃ m', m' < m ∧ W (i + 1) m' σ' H') ∧ ∀ x H', J.yld i H x H' → tg x σ H' fun σ2 H2 => tb { D with nx := N, ct := N, bk := D.nx } σ2 H2) := by
  obtain ⟨G, Y, w, k⟩ := hw
  refine for_it w (fun i σ H => i ≤ us.length ∧ ∃ c env st, Le c0 c ∧ RH T c st H ∧ RE T P c env σ ∧ ResS T P Wx c (forM g gt ma (us.drop i) env st) D) ⟨Nat.zero_le _, c, env, st, l, hH, hE, hR⟩ ?_ ?_ ?_
  · rintro i σ H hi ⟨_, c, env, st, l, hH, hE, hR⟩
    have hg' : g st := by
      cases q : us.drop i with
      | nil =>
        rw [q] at hR
        unfold forM at hR
        split at hR
        · assumption
        · exact hR.elim
      | cons u r =>
        rw [q] at hR
        unfold forM at hR
        split at hR
        · assumption
        · exact hR.elim
    exact (k c st H l hH hg').1
  · rintro i x σ H H' hi ⟨_, c, env, st, l, hH, hE, hR⟩ y
    have hd : us.drop i = us[i] :: us.drop (i + 1) := List.drop_eq_getElem_cons hi
    rw [hd] at hR
    unfold forM at hR
    split at hR
    · rename_i hg'
      obtain ⟨c1, u, hu, l1, hH1, r1⟩ := (k c st H l hH hg').2 i x H' hi y
      have eu : us[i] = u := by
        rw [List.getElem?_eq_getElem hi] at hu
        exact Option.some.inj hu
      rw [eu] at hR
      split at hR
      · exact hR.elim
      · rename_i env1 q
        refine hg _ _ _ _ ⟨c1, env, st, u, env1, hH1, hE.mono l1, r1, q, fun σ1 hE1 => hb _ _ _ ⟨c1, env1, st, hH1, hE1, ?_⟩⟩
        have l2 := l.trans l1
        cases qb : ma env1 st with
        | next env2 st2 =>
          rw [qb] at hR
          exact fun c2 σ2 H2 l3 hH2 hE2 => ⟨hi, c2, env2, st2, l2.trans l3, hH2, hE2, ResS.later (l1.trans l3) hR⟩
        | cont env2 st2 =>
          rw [qb] at hR
          exact fun c2 σ2 H2 l3 hH2 hE2 => ⟨hi, c2, env2, st2, l2.trans l3, hH2, hE2, ResS.later (l1.trans l3) hR⟩
        | brk env2 st2 =>
          rw [qb] at hR
          exact fun c2 σ2 H2 l3 hH2 hE2 => hR c2 σ2 H2 (l1.trans l3) hH2 hE2
        | ret u2 st2 =>
          rw [qb] at hR
          exact fun c2 v H2 l3 hH2 r2 => hR c2 v H2 (l1.trans l3) hH2 r2
        | exc x2 env2 st2 =>
          rw [qb] at hR
          exact fun c2 cls d σ2 H2 l3 hH2 hE2 r2 => hR c2 cls d σ2 H2 (l1.trans l3) hH2 hE2 r2
        | bad =>
          rw [qb] at hR
          exact hR.elim
    · exact hR.elim
  · rintro σ H ⟨_, c, env, st, l, hH, hE, hR⟩
    rw [List.drop_length] at hR
    unfold forM at hR
    split at hR
    · exact ResS.go (D := D) hR hH hE
    · exact hR.elim
theorem psm_for {tg iter : Expr} {body : List Stmt} {mi : MI} {gt : MGt} (hp : PassesOwn (model X.prog X.w) X.A X.env X.xe) (hc : X.calm = true) (hi : PIm X T P Wx tg iter mi) (hg : PGm X T P tg gt) (hb : PSsm X T P Wx body ma)
    (hs : ∀ x, foldedSetIterable iter X.env x = pure x := by intro _; rfl) : PSm X T P Wx (.For tg iter body [] pos) (sFor mi gt ma) :=
  PS.imp (ps_for hp hc hi hg hb hs) fun D σ H ⟨c, env, st, hH, hE, hR⟩ => (ts_bind hH hE hR).mono fun J H1 ⟨p, c1, st1, l1, hH1, hE1, r1, hR1⟩ =>
    for_run r1 (fun _ _ _ _ h => h) (fun _ _ _ h => h) (Le.refl c1) hH1 hE1 hR1
end
end NK

namespace NK
open PySem L2

mutual
def U.under (n : Nat) : U → Bool
  | .loc i => decide (i < n)
  | .tup us => U.underL n us
  | .lst us => U.underL n us
  | .scr us => U.underL n us
  | .ins _ us => U.underL n us
  | _ => true
def U.underL (n : Nat) : List U → Bool
  | [] => true
  | u :: us => U.under n u && U.underL n us
end
def Ob.under (n : Nat) : Ob → Bool
  | .lst us => U.underL n us
  | .tp us => U.underL n us
  | .dK kvs => U.underL n (kvs.map (·.2))
  | .dT kvs => U.underL n (kvs.map (·.2))
  | .ins _ us => U.underL n us
  | .iset _ => true
  | .dead => true
  | .lk o => o.under n
section
variable {T : Tb} {c c2 : Cn}
mutual
theorem Rp.under : ∀ {u : U} {v : V}, Rp T c u v → u.under c.n = true
  | _, _, .non => rfl
  | _, _, .bl _ => rfl
  | _, _, .int _ => rfl
  | _, _, .str _ => rfl
  | _, _, .ty _ => rfl
  | _, _, .cls _ => rfl
  | _, _, .tup _ r => RpL.under r
  | _, _, .lst _ r => RpL.under r
  | _, _, .scr _ r => RpL.under r
  | _, _, .ins _ _ r => RpL.under r
  | _, _, .loc h => by
    unfold U.under
    exact decide_eq_true h
theorem RpL.under : ∀ {us : List U} {vs : List V}, RpL T c us vs → U.underL c.n us = true
  | _, _, .nil => rfl
  | _, _, .cons r t => by
    unfold U.underL
    rw [Rp.under r, RpL.under t]
    rfl
end
theorem RpK.under {κ : Type} : ∀ {us : List (κ × U)} {vs : List (κ × V)}, RpK T c us vs → U.underL c.n (us.map (·.2)) = true
  | _, _, .nil => rfl
  | _, _, .cons r t => by
    show U.underL c.n (_ :: _) = true
    unfold U.underL
    rw [Rp.under r, RpK.under t]
    rfl
theorem RO.under {o : Ob} {a : Addr} {h : HO} (r : RO T c o a h) : o.under c.n = true := by
  induction o generalizing h with
  | lk o ih => obtain ⟨od, x, _, _, r⟩ := r; exact ih r
  | lst us => obtain ⟨vs, _, r⟩ := r; exact r.under
  | tp us => obtain ⟨vs, _, r⟩ := r; exact r.under
  | dK us => obtain ⟨vs, _, r⟩ := r; exact r.under
  | dT us => obtain ⟨vs, _, r⟩ := r; exact r.under
  | ins k us => obtain ⟨dx, vs, _, _, r⟩ := r; exact r.under
  | iset ks => rfl
  | dead => rfl
def Cn.cut (c : Cn) (n : Nat) : Cn := { c with n := n }
mutual
theorem Rp.cut {n : Nat} : ∀ {u : U} {v : V}, Rp T c u v → u.under n = true → Rp T (c.cut n) u v
  | _, _, .non, _ => .non
  | _, _, .bl b, _ => .bl b
  | _, _, .int i, _ => .int i
  | _, _, .str x, _ => .str x
  | _, _, .ty n, _ => .ty n
  | _, _, .cls k, _ => .cls k
  | _, _, .tup e r, h => .tup e (RpL.cut r h)
  | _, _, .lst e r, h => .lst e (RpL.cut r h)
  | _, _, .scr e r, h => .scr e (RpL.cut r h)
  | _, _, .ins e l r, h => .ins e l (RpL.cut r h)
  | _, _, .loc (i := i) hi, h => by
    unfold U.under at h
    exact .loc (c := c.cut n) (of_decide_eq_true h)
theorem RpL.cut {n : Nat} : ∀ {us : List U} {vs : List V}, RpL T c us vs → U.underL n us = true → RpL T (c.cut n) us vs
  | _, _, .nil, _ => .nil
  | _, _, .cons r t, h => by
    unfold U.underL at h
    rw [Bool.and_eq_true] at h
    exact .cons (Rp.cut r h.1) (RpL.cut t h.2)
end
theorem RpK.cut {κ : Type} {n : Nat} : ∀ {us : List (κ × U)} {vs : List (κ × V)}, RpK T c us vs → U.underL n (us.map (·.2)) = true → RpK T (c.cut n) us vs
  | _, _, .nil, _ => .nil
  | _, _, .cons r t, h => by
    have h' : (U.under n _ && U.underL n _) = true := h
    rw [Bool.and_eq_true] at h'
    exact .cons (Rp.cut r h'.1) (RpK.cut t h'.2)
theorem RO.cut {n : Nat} {o : Ob} {a : Addr} {h : HO} (r : RO T c o a h) (b : o.under n = true) : RO T (c.cut n) o a h := by
  induction o generalizing h with
  | lk o ih => obtain ⟨od, x, e, k, r⟩ := r; exact ⟨od, x, e, k, ih r b⟩
  | lst us => obtain ⟨vs, e, r⟩ := r; exact ⟨vs, e, r.cut b⟩
  | tp us => obtain ⟨vs, e, r⟩ := r; exact ⟨vs, e, r.cut b⟩
  | dK us => obtain ⟨vs, e, r⟩ := r; exact ⟨vs, e, r.cut b⟩
  | dT us => obtain ⟨vs, e, r⟩ := r; exact ⟨vs, e, r.cut b⟩
  | ins k us => obtain ⟨dx, vs, e, z, r⟩ := r; exact ⟨dx, vs, e, z, r.cut b⟩
  | iset ks => exact r
  | dead => exact r.elim
def oldOk (st st' : Sto) : Prop := st.length ≤ st'.length ∧ ∀ i, i < st.length → st'[i]? = st[i]? ∨ ∃ o, st'[i]? = some o ∧ o.under 0 = true
mutual
theorem U.under_mono {n m : Nat} (h : n ≤ m) : ∀ {u : U}, u.under n = true → u.under m = true
  | .loc i, e => by unfold U.under at e ⊢; exact decide_eq_true (Nat.lt_of_lt_of_le (of_decide_eq_true e) h)
  | .tup us, e => U.underL_mono h (us := us) e
  | .lst us, e => U.underL_mono h (us := us) e
  | .scr us, e => U.underL_mono h (us := us) e
  | .ins _ us, e => U.underL_mono h (us := us) e
  | .non, _ => rfl
  | .bl _, _ => rfl
  | .int _, _ => rfl
  | .str _, _ => rfl
  | .ty _, _ => rfl
  | .cls _, _ => rfl
theorem U.underL_mono {n m : Nat} (h : n ≤ m) : ∀ {us : List U}, U.underL n us = true → U.underL m us = true
  | [], _ => rfl
  | u :: us, e => by
    unfold U.underL at e ⊢
    rw [Bool.and_eq_true] at e ⊢
    exact ⟨U.under_mono h e.1, U.underL_mono h e.2⟩
end
theorem Ob.under_mono {n m : Nat} (h : n ≤ m) {o : Ob} (e : o.under n = true) : o.under m = true := by
  induction o with
  | lk o ih => exact ih e
  | lst us => exact U.underL_mono h (us := us) e
  | tp us => exact U.underL_mono h (us := us) e
  | dK us =>
    have e' : U.underL n (us.map fun p => p.2) = true := e
    exact U.underL_mono h e'
  | dT us =>
    have e' : U.underL n (us.map fun p => p.2) = true := e
    exact U.underL_mono h e'
  | ins k us => exact U.underL_mono h (us := us) e
  | iset ks => rfl
  | dead => rfl
theorem scope_cut {st st2 : Sto} {H H2 : Hp} (hH : RH T c st H) (l : Le c c2) (hH2 : RH T c2 st2 H2) (old : oldOk st st2) : Le c (c2.cut c.n) ∧ RH T (c2.cut c.n) (st2.take st.length) H2 := by
  refine ⟨⟨Nat.le_refl _, fun i hi => l.ρ i hi, l.F, l.L⟩, ?_, hH2.sub, fun i o e d => ?_, fun i j a b ea da eb db q => ?_, hH2.lkd, hH2.tab, hH2.ntb⟩
  · show c.n = _
    rw [hH.n, List.length_take]
    have := old.1
    omega
  · have hi : i < st.length := by
      have := (List.getElem?_eq_some_iff.mp e).1
      rw [List.length_take] at this
      omega
    rw [List.getElem?_take_of_lt hi] at e
    obtain ⟨h, h1, h2, h3⟩ := hH2.act i o e d
    refine ⟨h, h1, h2.cut ?_, h3⟩
    rcases old.2 i hi with q | ⟨o', q, b⟩
    · rw [e] at q
      obtain ⟨h', _, h2', _⟩ := hH.act i o q.symm d
      exact h2'.under
    · rw [e] at q
      cases q
      exact Ob.under_mono (Nat.zero_le _) b
  · have hi : i < st.length := by
      have := (List.getElem?_eq_some_iff.mp ea).1
      rw [List.length_take] at this
      omega
    have hj : j < st.length := by
      have := (List.getElem?_eq_some_iff.mp eb).1
      rw [List.length_take] at this
      omega
    rw [List.getElem?_take_of_lt hi] at ea
    rw [List.getElem?_take_of_lt hj] at eb
    exact hH2.inj i j a b ea da eb db q
end

noncomputable def scopeOut (st : Sto) (r : Out U) : Out U := (r.bind frz).bind fun u st2 => open Classical in if u.under st.length = true ∧ oldOk st st2 then .ok u (st2.take st.length) else .bad
noncomputable def eScope (m : ME) : ME := fun env st => scopeOut st (m env st)
section
variable {X : Cx} {T : Tb} {P : Pin} {Wx : WX} {e : Expr} {m : ME} {pos : Pos}
theorem frz_at {c : Cn} {st : Sto} {H : Hp} {u u2 : U} {v : V} {st2 : Sto} (hH : RH T c st H) (r : Rp T c u v) (e : frz u st = .ok u2 st2) : ∃ c2, Le c c2 ∧ RH T c2 st2 H ∧ Rp T c2 u2 v := by
  cases u with
  | loc i =>
    obtain ⟨hi, rfl⟩ := r.inv_loc
    dsimp only [frz] at e
    split at e
    · rename_i us q
      cases e
      obtain ⟨vs, h1, h2⟩ := hH.at_lst q
      have l := le_freeze (x := .lst vs) hH q (fun z => nomatch z)
      exact ⟨_, l, hH.freeze q (fun z => nomatch z) h1, .lst upd_same (h2.mono l)⟩
    · rename_i k us q
      cases e
      obtain ⟨dx, vs, h1, hz, h2⟩ := hH.at_ins q
      have l := le_freeze (x := .ins (T.cls k) dx ((T.fld k).zip vs)) hH q (fun z => nomatch z)
      exact ⟨_, l, hH.freeze q (fun z => nomatch z) h1, .ins upd_same hz (h2.mono l)⟩
    · cases e
  | _ => cases e; exact ⟨c, Le.refl c, hH, r⟩
theorem frz_noexc {u : U} {st : Sto} {x : Ex} {st2 : Sto} : frz u st ≠ .exc x st2 := by
  intro h
  cases u with
  | loc i =>
    dsimp only [frz] at h
    split at h <;> cases h
  | _ => cases h
theorem scope_res {c : Cn} {σ : L2.St} {st : Sto} {H : Hp} {r : Out U} {Q : VK} (hH : RH T c st H) (h : ResG T Wx c σ (Rp T) (scopeOut st r) Q) : ResG T Wx c σ (Rp T) r Q := by
  cases r with
  | ok u st1 =>
    intro c1 v H1 l1 hH1 r1
    unfold scopeOut at h
    cases q : frz u st1 with
    | ok u2 st2 =>
      obtain ⟨c2, l2, hH2, r2⟩ := frz_at hH1 r1 q
      change ResG T Wx c σ (Rp T) ((frz u st1).bind _) Q at h
      rw [q] at h
      change ResG T Wx c σ (Rp T) (open Classical in if u2.under st.length = true ∧ oldOk st st2 then .ok u2 (st2.take st.length) else .bad) Q at h
      split at h
      · rename_i hs
        obtain ⟨l3, hH3⟩ := scope_cut hH (l1.trans l2) hH2 hs.2
        rw [← hH.n] at hs
        exact h _ _ _ l3 hH3 (r2.cut hs.1)
      · exact h.elim
    | exc x st2 => exact absurd q frz_noexc
    | bad =>
      change ResG T Wx c σ (Rp T) ((frz u st1).bind _) Q at h
      rw [q] at h
      exact h.elim
  | exc x st1 => exact h
  | bad => exact h
theorem pem_scope (h : PEm X T P Wx e m) : PEm X T P Wx e (eScope m) := PE.imp h fun σ H Q ⟨c, env, st, hH, hE, hR⟩ => ⟨c, env, st, hH, hE, scope_res hH hR⟩

def wipeE (env : Env) : List Nat → Env
  | [] => env
  | v :: vs => (wipeE env vs).set v none
theorem RE.wipe {c : Cn} {env : Env} {σ : L2.St} (r : RE T P c env σ) : ∀ vs : List Nat, (∀ i ∈ vs, pinned P i = false) → RE T P c (wipeE env vs) (L2.wipe σ vs)
  | [], _ => r
  | v :: vs, h => by
    show RE T P c ((wipeE env vs).set v none) ((L2.wipe σ vs).set v none)
    exact (RE.wipe r vs fun i hi => h i (List.mem_cons_of_mem _ hi)).unset v (h v (List.mem_cons_self ..))
noncomputable def compM (g : Sto → Prop) (gt : MGt) (mt : MT) (me : ME) (D : Nat) (env : Env) : List U → Sto → Out U
  | [], st => open Classical in if g st then .ok (.loc D) st else .bad
  | u :: us, st => open Classical in if g st then (match gt u env st with
    | none => .bad
    | some env1 => match mt env1 st with
      | .ok true st1 => (match me env1 st1 with
        | .ok w st2 => match st2[D]? with
          | some (.lst acc) => if acc.length < 16777216 then compM g gt mt me D env us (st2.set D (.lst (acc ++ [w]))) else .bad
          | _ => .bad
        | _ => .bad)
      | .ok false st1 => compM g gt mt me D env us st1
      | _ => .bad) else .bad
def tYes : MT := fun _ st => .ok true st
noncomputable def eComp (mi : MI) (gt : MGt) (mt : MT) (me : ME) (vs : List Nat) : ME := fun env st => (mi env st).bind fun p st1 => compM p.g gt mt me st1.length (wipeE env vs) p.us (st1 ++ [.lst []])
def Wx0 : WX := fun _ _ _ _ => False
def GW (tg : TG) (vs : List Nat) : Prop := ∀ (v : V) (σ : L2.St) (H : Hp) (Q : L2.St → Hp → Prop), (tg v (L2.wipe σ vs) H fun σ3 H3 => L2.wipe σ3 vs = L2.wipe σ vs → Q σ3 H3) → tg v (L2.wipe σ vs) H fun σ3 H3 => L2.wipe σ3 vs = L2.wipe σ vs ∧ Q σ3 H3
theorem comp_run {J : It} {us : List U} {g : Sto → Prop} {gt : MGt} {tg : TG} {mt : MT} {me : ME} {tt : TT} {te : TE} {vs : List Nat} {c0 : Cn} {Q : VK} {σ : L2.St} (hw : WalkM T c0 J us g)
    (hg : ∀ v σ H Q, tgtOf T P gt v σ H Q → tg v σ H Q) (ht : ∀ σ H Q, ttOf T P Wx0 mt σ H Q → tt σ H Q) (he : ∀ σ H Q, teOf T P Wx0 me σ H Q → te σ H Q)
    (hp : ∀ i ∈ vs, pinned P i = false) (hgw : GW tg vs)
    {c : Cn} {env : Env} {st : Sto} {H : Hp} (l : Le c0 c) (hH : RH T c st H) (hE : RE T P c env σ) {D : Addr} (hD : H D = none) (hR : ResG T Wx c σ (Rp T) (compM g gt mt me st.length (wipeE env vs) us (st ++ [.lst []])) Q) :
    ∃ W : Nat → Nat → Hp → Prop, (∃ m, W 0 m (upd H D (.lst []))) ∧ ∀ i m H, W i m H →
      (J.stop i H ∧ Q (.ref D) H) ∨ (J.go i H ∧ ∃ Nx : Hp → Prop, (∀ H', Nx H' → ∃ m', m' < m ∧ W (i + 1) m' H') ∧ ∀ x H', J.yld i H x H' → tg x (L2.wipe σ vs) H' fun σ2 H2 => L2.wipe σ2 vs = L2.wipe σ vs ∧ tt σ2 H2 fun b H3 =>
        if b = true then te σ2 H3 fun y H4 => ∃ acc, H4 D = some (.lst acc) ∧ acc.length < sizeLine ∧ Nx (upd H4 D (.lst (acc ++ [y]))) else Nx H3) := by
  obtain ⟨G, Y, w, k⟩ := hw
  have start := hH.new hD (o := .lst []) (x := .lst []) ⟨[], rfl, .nil⟩
  have hpos : (c.new D).ρ st.length = D := by rw [← hH.n, new_self]
  have hlt : st.length < (c.new D).n := by show _ < c.n + 1; rw [hH.n]; exact Nat.lt_succ_self _
  have lD := le_new c D
  have hE0 : RE T P c (wipeE env vs) (L2.wipe σ vs) := hE.wipe vs hp
  generalize hn : st.length = n at hR hpos hlt
  refine lc_it w (fun i H => i ≤ us.length ∧ ∃ c1 st1, Le (c.new D) c1 ∧ RH T c1 st1 H ∧ ResG T Wx c σ (Rp T) (compM g gt mt me n (wipeE env vs) (us.drop i) st1) Q) ⟨Nat.zero_le _, _, _, Le.refl _, start, hR⟩ ?_ ?_ ?_
  · rintro i H hi ⟨_, c1, st1, l1, hH1, hR1⟩
    have hg' : g st1 := by
      cases q : us.drop i with
      | nil =>
        rw [q] at hR1
        unfold compM at hR1
        split at hR1
        · assumption
        · exact hR1.elim
      | cons u r =>
        rw [q] at hR1
        unfold compM at hR1
        split at hR1
        · assumption
        · exact hR1.elim
    exact (k c1 st1 H ((l.trans lD).trans l1) hH1 hg').1
  · rintro i x H H' hi ⟨_, c1, st1, l1, hH1, hR1⟩ y
    have hd : us.drop i = us[i] :: us.drop (i + 1) := List.drop_eq_getElem_cons hi
    rw [hd] at hR1
    unfold compM at hR1
    split at hR1
    · rename_i hg'
      obtain ⟨c2, u, hu, l2, hH2, r2⟩ := (k c1 st1 H ((l.trans lD).trans l1) hH1 hg').2 i x H' hi y
      have eu : us[i] = u := by
        rw [List.getElem?_eq_getElem hi] at hu
        exact Option.some.inj hu
      rw [eu] at hR1
      have hE2 : RE T P c2 (wipeE env vs) (L2.wipe σ vs) := hE0.mono ((lD.trans l1).trans l2)
      split at hR1
      · exact hR1.elim
      · rename_i env1 q
        refine hgw x σ _ _ (hg _ _ _ _ ⟨c2, wipeE env vs, st1, u, env1, hH2, hE2, r2, q, fun σ1 hE1 _ => ?_⟩)
        refine ht _ _ _ ⟨c2, env1, st1, hH2, hE1, ?_⟩
        split at hR1
        · rename_i st2 qt
          rw [qt]
          intro c3 b H3 l3 hH3 eb
          cases (show true = b from eb)
          rw [if_pos rfl]
          refine he _ _ _ ⟨c3, env1, st2, hH3, hE1.mono l3, ?_⟩
          split at hR1
          · rename_i w' st3 qe
            rw [qe]
            intro c4 z H4 l4 hH4 r4
            split at hR1
            · rename_i acc qa
              obtain ⟨vacc, h1, ra⟩ := hH4.at_lst qa
              have hl4 := ((l1.trans l2).trans l3).trans l4
              have e4 : c4.ρ n = D := (hl4.ρ n hlt).trans hpos
              rw [e4] at h1
              split at hR1
              · rename_i hz
                refine ⟨vacc, h1, by rw [szl, ← ra.length]; exact hz, hi, c4, _, hl4, ?_, hR1⟩
                have := hH4.set qa (fun z => nomatch z) (o' := .lst (acc ++ [w'])) (x := .lst (vacc ++ [z])) ⟨_, rfl, ra.append (.one r4)⟩
                rw [e4] at this
                exact this
              · exact hR1.elim
            · exact hR1.elim
          · exact hR1.elim
        · rename_i st2 qt
          rw [qt]
          intro c3 b H3 l3 hH3 eb
          cases (show false = b from eb)
          rw [if_neg Bool.false_ne_true]
          exact ⟨hi, c3, st2, (l1.trans l2).trans l3, hH3, hR1⟩
        · exact hR1.elim
    · exact hR1.elim
  · rintro H ⟨_, c1, st1, l1, hH1, hR1⟩
    rw [List.drop_length] at hR1
    unfold compM at hR1
    split at hR1
    · have e : V.ref D = V.ref (c1.ρ n) := by rw [l1.ρ n hlt, hpos]
      rw [e]
      exact hR1 c1 _ H (lD.trans l1) hH1 (.loc (Nat.lt_of_lt_of_le hlt l1.n))
    · exact hR1.elim
theorem wipe_get : ∀ (ws : List Nat) (ρ : L2.St) (j : Nat), (L2.wipe ρ ws)[j]? = if j ∈ ws then (ρ[j]?).map fun _ => none else ρ[j]? := by
  intro ws
  induction ws with
  | nil => intro ρ j; simp [L2.wipe]
  | cons w ws ih =>
    intro ρ j
    show ((L2.wipe ρ ws).set w none)[j]? = _
    by_cases h : w = j
    · subst h
      rw [List.getElem?_set]
      simp only [if_true, List.mem_cons, true_or, L2.wipe_length]
      by_cases hl : w < ρ.length
      · simp [hl]
      · simp [hl]
    · rw [List.getElem?_set_ne h, ih]
      have h' : ¬ j = w := fun z => h z.symm
      simp [h']
theorem wipe_set {σ : L2.St} {i : Nat} {x : Option V} {vs : List Nat} (hi : i ∈ vs) : L2.wipe (σ.set i x) vs = L2.wipe σ vs := by
  apply List.ext_getElem?
  intro j
  rw [wipe_get, wipe_get vs σ]
  by_cases hj : j ∈ vs
  · simp only [hj, if_true]
    by_cases h : i = j
    · subst h
      rw [List.getElem?_set]
      simp only [if_true]
      by_cases hl : i < σ.length
      · simp [hl]
      · simp [hl]
    · rw [List.getElem?_set_ne h]
  · have h : i ≠ j := fun z => hj (z ▸ hi)
    rw [if_neg hj, if_neg hj, List.getElem?_set_ne h]
theorem wipe_wipe {σ : L2.St} {vs : List Nat} : L2.wipe (L2.wipe σ vs) vs = L2.wipe σ vs := by
  apply List.ext_getElem?
  intro j
  rw [wipe_get, wipe_get]
  by_cases hj : j ∈ vs
  · simp only [hj, if_true]
    cases σ[j]? <;> rfl
  · rw [if_neg hj]
theorem gw_name {i : Nat} {vs : List Nat} (hi : i ∈ vs) : GW (gName i) vs := fun v σ H Q h =>
  have e : L2.wipe ((L2.wipe σ vs).set i (some v)) vs = L2.wipe σ vs := (wipe_set hi).trans wipe_wipe
  ⟨e, h e⟩
def GWs (t : TGs) (vs : List Nat) : Prop := ∀ (xs : List V) (σ σ' : L2.St) (H : Hp) (Q : L2.St → Hp → Prop), L2.wipe σ' vs = L2.wipe σ vs → (t xs σ' H fun σ3 H3 => L2.wipe σ3 vs = L2.wipe σ vs → Q σ3 H3) → t xs σ' H fun σ3 H3 => L2.wipe σ3 vs = L2.wipe σ vs ∧ Q σ3 H3
theorem gw_nil {vs : List Nat} : GWs gNil vs := fun xs σ σ' H Q e h => ⟨h.1, e, h.2 e⟩
theorem gw_cons {i : Nat} {vs : List Nat} {t : TGs} (hi : i ∈ vs) (ht : GWs t vs) : GWs (gCons (gName i) t) vs := fun xs σ σ' H Q e ⟨v, r, ev, h⟩ => ⟨v, r, ev, ht r σ _ H Q ((wipe_set hi).trans e) h⟩
theorem gw_tup {K : PySem.W.Frag} {n : Nat} {vs : List Nat} {t : TGs} (ht : GWs t vs) : GW (gTup K n t) vs := fun v σ H Q ⟨a, xs, e1, h1, h2, h⟩ => ⟨a, xs, e1, h1, h2, ht xs σ _ H Q wipe_wipe h⟩
theorem lc_run {wi : TI} {tg : TG} {tt : TT} {te : TE} {mi : MI} {gt : MGt} {mt : MT} {me : ME} {vs : List Nat} (hi : ∀ σ H R, tiOf T P Wx mi σ H R → wi σ H R) (hg : ∀ v σ H Q, tgtOf T P gt v σ H Q → tg v σ H Q) (ht : ∀ σ H Q, ttOf T P Wx0 mt σ H Q → tt σ H Q) (he : ∀ σ H Q, teOf T P Wx0 me σ H Q → te σ H Q)
    (hgw : GW tg vs) (hp : ∀ i ∈ vs, pinned P i = false) (σ : L2.St) (H : Hp) (Q : VK) (h : teOf T P Wx (eComp mi gt mt me vs) σ H Q) : tLc wi tg tt te vs σ H Q := by
  obtain ⟨c, env, st, hH, hE, hR⟩ := h
  refine hi σ H _ ((tg_bind hH hE hR).mono fun J H1 ⟨p, c1, st1, l1, hH1, hE1, r1, hR1⟩ D hD => ?_)
  exact comp_run r1 hg ht he hp hgw (Le.refl c1) hH1 hE1 hD hR1
theorem pem_comp {elt tg iter : Expr} {ifs : List Expr} {scope : Scope} {own : List (Str × Nat)} {tgr : TG} {mi : MI} {gt : MGt} {mt : MT} {me : ME} (hc : X.calm = true) (hN : X.N.Nodup) (hi : PIm X T P Wx tg iter mi) (ok : BlkOk X.N X.env.scope scope own)
    (hg : ∀ (s : Shared) (H : Hp) (C : Addr) (cl : List (Str × Addr)) (fp : List Addr), PG (X.blk s H scope (compEnvC scope cl C X.env) fp) tg tgr) (hgr : ∀ v σ H Q, tgtOf T P gt v σ H Q → tgr v σ H Q) (hgw : GW tgr (own.map (·.2)))
    (ht : ∀ (s : Shared) (H : Hp) (C : Addr) (cl : List (Str × Addr)) (fp : List Addr), PTs (X.blk s H scope (compEnvC scope cl C X.env) fp) ifs (ttOf T P Wx0 mt))
    (he : ∀ (s : Shared) (H : Hp) (C : Addr) (cl : List (Str × Addr)) (fp : List Addr), PEm (X.blk s H scope (compEnvC scope cl C X.env) fp) T P Wx0 elt me) (hp : ∀ i ∈ own.map (·.2), pinned P i = false := by intro i _; rfl) (hs : ∀ x, foldedSetIterable iter X.env x = pure x := by intro _; rfl) :
    PEm X T P Wx (.ListComp elt [⟨tg, iter, ifs, 0⟩] scope pos) (eComp mi gt mt me (own.map (·.2))) :=
  PE.imp (pe_lc hc hN hi ok hg ht he hs) (lc_run (fun _ _ _ h => h) hgr (fun _ _ _ h => h) (fun _ _ _ h => h) hgw hp)
theorem psm_setLc {i : Nat} {y : Str} {py spos : Pos} {elt tg iter : Expr} {ifs : List Expr} {scope : Scope} {own : List (Str × Nat)} {tgr : TG} {mi : MI} {gt : MGt} {mt : MT} {me : ME} {m' : ME} (hm : ∀ σ H Q, teOf T P Wx m' σ H Q → teOf T P Wx (eComp mi gt mt me (own.map (·.2))) σ H Q)
    (hc : X.calm = true) (hN : X.N.Nodup) (hy : X.N[i]? = some y) (hyl : X.env.scope.names.lookup y = some .local)
    (hsw : swapsWith (.ListComp elt [⟨tg, iter, ifs, 0⟩] scope pos) (some (.Name y py)) spos.line X.env = pure true) (hi : PIm X T P Wx tg iter mi) (ok : BlkOk X.N X.env.scope scope own)
    (hg : ∀ (s : Shared) (H : Hp) (C : Addr) (cl : List (Str × Addr)) (fp : List Addr), PG (X.blk s H scope (compEnvC scope cl C X.env) fp) tg tgr) (hgr : ∀ v σ H Q, tgtOf T P gt v σ H Q → tgr v σ H Q) (hgw : GW tgr (own.map (·.2)))
    (ht : ∀ (s : Shared) (H : Hp) (C : Addr) (cl : List (Str × Addr)) (fp : List Addr), PTs (X.blk s H scope (compEnvC scope cl C X.env) fp) ifs (ttOf T P Wx0 mt))
    (he : ∀ (s : Shared) (H : Hp) (C : Addr) (cl : List (Str × Addr)) (fp : List Addr), PEm (X.blk s H scope (compEnvC scope cl C X.env) fp) T P Wx0 elt me) (hp : ∀ i ∈ own.map (·.2), pinned P i = false := by intro i _; rfl) (hpi : pinned P i = false := by rfl) (hs : ∀ x, foldedSetIterable iter X.env x = pure x := by intro _; rfl) :
    PSm X T P Wx (.Assign [.Name y py] (.ListComp elt [⟨tg, iter, ifs, 0⟩] scope pos) spos) (sAsg m' (gN i)) :=
  PS.imp (ps_setLc hc hN hy hyl hsw hi ok hg ht he hs) fun D σ H h => lc_run (fun _ _ _ h => h) hgr (fun _ _ _ h => h) (fun _ _ _ h => h) hgw hp σ H _ (hm σ H _ (asg_run (tg := gName i) (fun v σ H Q ⟨c, env, st, u, env', hH, hE, r, q, k⟩ => by
    cases q
    exact k _ (hE.set r i hpi)) D σ H h))
theorem scope_hm {m : ME} (σ : L2.St) (H : Hp) (Q : VK) (h : teOf T P Wx (eScope m) σ H Q) : teOf T P Wx m σ H Q := by
  obtain ⟨c, env, st, hH, hE, hR⟩ := h
  exact ⟨c, env, st, hH, hE, scope_res hH hR⟩
theorem ptsm_nil {σ : Unit} : PTs X [] (ttOf T P Wx0 tYes) := ⟨fun pins s σ H Q I h => by
  obtain ⟨c, env, st, hH, hE, hR⟩ := h
  exact pts_nil.run pins s σ H Q I (show L2.tYes σ H Q from ResG.ret (u := true) hR hH rfl)⟩
theorem ptsm_one {c : Expr} {mt : MT} (h : PTm X T P Wx0 c mt) : PTs X [c] (ttOf T P Wx0 mt) := pts_one h
end
end NK

namespace NK
open PySem L2

def fApp : U → List U → Sto → Out U := fun u ws st => match u with
  | .loc i => match ws, st[i]? with
    | [w], some (.lst us) => if us.length < 16777216 then .ok .non (st.set i (.lst (us ++ [w]))) else .bad
    | _, _ => .bad
  | _ => .bad
def isLoc : U → Sto → Bool := fun u st => match u with
  | .loc i => match st[i]? with
    | some (.lst _) => true
    | _ => false
  | _ => false
def eBM (f : U → List U → Sto → Out U) (mo : ME) (ma : MA) : ME := fun env st => (mo env st).bind fun x st1 => if isLoc x st1 = true then (ma env st1).bind fun ws st2 => f x ws st2 else .bad
def MtSim (T : Tb) (r : V → List V → Hp → VK → Prop) (f : U → List U → Sto → Out U) : Prop :=
  ∀ (Wx : WX) (c : Cn) (σ : L2.St) (st : Sto) (H : Hp) (u : U) (x : V) (us : List U) (xs : List V) (Q : VK), RH T c st H → Rp T c u x → RpL T c us xs → ResG T Wx c σ (Rp T) (f u us st) Q → r x xs H Q
section
variable {X : Cx} {T : Tb} {P : Pin} {Wx : WX} {o e : Expr} {es : List Expr} {mo m mi : ME} {ma : MA} {apos cpos pos : Pos}
theorem sim_app : MtSim T rAppend fApp := fun Wx c σ st H u x us xs Q hH ru r hR => by
  cases u with
  | loc i =>
    obtain ⟨hi, rfl⟩ := ru.inv_loc
    dsimp only [fApp] at hR
    split at hR
    · rename_i w us' es'
      obtain ⟨v, vs, rfl, r1, t⟩ := r.inv_cons
      cases t.inv_nil
      obtain ⟨ws, h1, r2⟩ := hH.at_lst es'
      split at hR
      · rename_i hz
        refine ⟨c.ρ i, ws, v, rfl, rfl, h1, by rw [szl, ← r2.length]; exact hz, ?_⟩
        exact hR c _ _ (Le.refl c) (hH.set es' (fun z => nomatch z) ⟨_, rfl, r2.append (.one r1)⟩) .non
      · exact hR.elim
    · exact hR.elim
  | _ => exact hR.elim
theorem pem_bm {r : V → List V → Hp → VK → Prop} {f : U → List U → Sto → Out U} (hs : MtSim T r f) (h : PE X e (tBM X.K "list" r (teOf T P Wx mo) (taOf T P Wx ma))) : PEm X T P Wx e (eBM f mo ma) :=
  PE.imp h fun σ H Q ⟨c, env, st, hH, hE, hR⟩ => by
    refine (tg_bind hH hE hR).mono fun x H1 ⟨u, c1, st1, l1, hH1, hE1, r1, hR1⟩ => ?_
    split at hR1
    · rename_i hl
      cases u with
      | loc i =>
        obtain ⟨hi, rfl⟩ := r1.inv_loc
        refine ⟨?_, ?_⟩
        · dsimp only [isLoc] at hl
          split at hl
          · rename_i us es'
            obtain ⟨vs, h1, _⟩ := hH1.at_lst es'
            exact .inl ⟨rfl, vs, SqL.of h1⟩
          · cases hl
        · refine (tg_bind hH1 hE1 hR1).mono fun ws H2 ⟨us, c2, st2, l2, hH2, hE2, r2, hR2⟩ => ?_
          exact hs Wx c2 σ st2 H2 (.loc i) _ us ws Q hH2 (r1.mono l2) r2 hR2
      | _ => cases hl
    · exact hR1.elim

def setIx (o i w : U) (st : Sto) : Option Sto := match o, i with
  | .loc n, .int k => match st[n]? with
    | some (.lst us) => match ixN us.length k with
      | some j => some (st.set n (.lst (us.set j w)))
      | none => none
    | _ => none
  | _, _ => none
def sSetIx (mo mi m : ME) : MS := fun env st => (m env st).st env fun w st1 => (mo env st1).st env fun o st2 => (mi env st2).st env fun i st3 => match setIx o i w st3 with
  | some st4 => .next env st4
  | none => .bad
theorem psm_setIx {s : Stmt} (h : PS X s (tAsg (teOf T P Wx m) (gSub (teOf T P Wx mo) (teOf T P Wx mi) rSetL))) : PSm X T P Wx s (sSetIx mo mi m) :=
  PS.imp h fun D σ H ⟨c, env, st, hH, hE, hR⟩ => by
    refine (ts_bind hH hE hR).mono fun x H1 ⟨w, c1, st1, l1, hH1, hE1, r1, hR1⟩ => ?_
    refine (ts_bind hH1 hE1 hR1).mono fun y H2 ⟨o, c2, st2, l2, hH2, hE2, r2, hR2⟩ => ?_
    refine (ts_bind hH2 hE2 hR2).mono fun z H3 ⟨i, c3, st3, l3, hH3, hE3, r3, hR3⟩ => ?_
    split at hR3
    · rename_i st4 q
      unfold setIx at q
      split at q
      · rename_i n k
        obtain ⟨hi, rfl⟩ := (r2.mono l3).inv_loc
        cases r3.inv_int
        split at q
        · rename_i us es'
          split at q
          · rename_i j ej
            cases q
            obtain ⟨vs, h1, r4⟩ := hH3.at_lst es'
            refine ⟨_, vs, _, j, rfl, rfl, h1, by rw [← r4.length]; exact ej, ?_⟩
            exact ResS.go (D := D) hR3 (hH3.set es' (fun z => nomatch z) ⟨_, rfl, r4.set j ((r1.mono l2).mono l3)⟩) hE3
          · cases q
        · cases q
      · cases q
    · exact hR3.elim

structure FldOk (T : Tb) (k j : Nat) (f : Str) : Prop where
  cl : Cls T.K (T.cls k)
  na : NoAttr T.K (T.cls k) f
  nm : (T.fld k)[j]? = some f
  nd : (T.fld k).Nodup
  sz : (T.fld k).length ≤ 900
theorem zip_lookup : ∀ {ns : List Str} {vs : List V} {j : Nat} {f : Str} {v : V}, ns.Nodup → ns[j]? = some f → vs[j]? = some v → (ns.zip vs).lookup f = some v
  | [], _, _, _, _, _, h, _ => by simp at h
  | _ :: _, [], _, _, _, _, _, h => by simp at h
  | n :: ns, w :: vs, 0, f, v, nd, h1, h2 => by
    simp at h1 h2
    subst h1 h2
    simp [List.lookup]
  | n :: ns, w :: vs, j + 1, f, v, nd, h1, h2 => by
    have nd' := List.nodup_cons.mp nd
    have h1' : ns[j]? = some f := by simpa using h1
    have ne : (f == n) = false := by
      rw [beq_eq_false_iff_ne]
      rintro rfl
      exact nd'.1 (List.mem_of_getElem? h1')
    simp only [List.zip_cons_cons, List.lookup, ne]
    exact zip_lookup nd'.2 h1' (by simpa using h2)
theorem zip_put : ∀ {ns : List Str} {vs : List V} {j : Nat} {f : Str} {y : V}, ns.Nodup → ns[j]? = some f → j < vs.length → putF f y (ns.zip vs) = ns.zip (vs.set j y)
  | [], _, _, _, _, _, h, _ => by simp at h
  | _ :: _, [], _, _, _, _, _, h => by simp at h
  | n :: ns, w :: vs, 0, f, y, nd, h1, h2 => by
    simp at h1
    subst h1
    simp [putF]
  | n :: ns, w :: vs, j + 1, f, y, nd, h1, h2 => by
    have nd' := List.nodup_cons.mp nd
    have h1' : ns[j]? = some f := by simpa using h1
    have ne : ¬ n = f := by
      rintro rfl
      exact nd'.1 (List.mem_of_getElem? h1')
    simp only [List.zip_cons_cons, List.set_cons_succ, putF, if_neg ne]
    rw [zip_put nd'.2 h1' (by simpa using h2)]
theorem zip_new : ∀ {ns : List Str} {vs : List V} {f : Str} {y : V}, ns.Nodup → ns[vs.length]? = some f → putF f y (ns.zip vs) = ns.zip (vs ++ [y])
  | [], vs, _, _, _, h => by simp at h
  | n :: ns, [], f, y, nd, h1 => by
    simp at h1
    subst h1
    simp [putF]
  | n :: ns, w :: vs, f, y, nd, h1 => by
    have nd' := List.nodup_cons.mp nd
    have h1' : ns[vs.length]? = some f := by simpa using h1
    have ne : ¬ n = f := by
      rintro rfl
      exact nd'.1 (List.mem_of_getElem? h1')
    simp only [List.zip_cons_cons, List.cons_append, putF, if_neg ne]
    rw [zip_new nd'.2 h1']
def asIns (u : U) (st : Sto) : Option (Nat × List U) := match u with
  | .ins k us => some (k, us)
  | .loc i => match st[i]? with
    | some (.ins k us) => some (k, us)
    | _ => none
  | _ => none
theorem asIns_at {c : Cn} {st : Sto} {H : Hp} (h : RH T c st H) {u : U} {v : V} {k : Nat} {us : List U} (r : Rp T c u v) (e : asIns u st = some (k, us)) : ∃ a dx vs, v = .ref a ∧ H a = some (.ins (T.cls k) dx ((T.fld k).zip vs)) ∧ vs.length ≤ (T.fld k).length ∧ RpL T c us vs := by
  cases u with
  | ins k' xs =>
    obtain ⟨a, dx, vs, rfl, h1, h2, h3⟩ := r.inv_ins
    cases e
    exact ⟨a, dx, vs, rfl, h.sub _ _ h1, h2, h3⟩
  | loc i =>
    obtain ⟨_, rfl⟩ := r.inv_loc
    dsimp only [asIns] at e
    split at e
    · rename_i k' us' q
      cases e
      obtain ⟨dx, vs, h1, h2, h3⟩ := h.at_ins q
      exact ⟨_, dx, vs, rfl, h1, h2, h3⟩
    · cases e
  | _ => cases e
def getF (k j : Nat) (u : U) (st : Sto) : Option U := match asIns u st with
  | some (k', us) => if k' = k then us[j]? else none
  | none => none
def eFld (k j : Nat) (m : ME) : ME := fun env st => (m env st).bind fun u st1 => match getF k j u st1 with
  | some w => .ok w st1
  | none => .bad
theorem pem_fld {f : Str} {k j : Nat} (hK : X.K = T.K) (F : FldOk T k j f) (h : PE X e (tFld X.K (teOf T P Wx m) f)) : PEm X T P Wx e (eFld k j m) := PE.imp h fun σ H Q ⟨c, env, st, hH, hE, hR⟩ => by
  refine (tg_bind hH hE hR).mono fun x H1 ⟨u, c1, st1, l1, hH1, hE1, r1, hR1⟩ => ?_
  split at hR1
  · rename_i w q
    unfold getF at q
    split at q
    · rename_i k' us e1
      split at q
      · rename_i ek
        subst ek
        obtain ⟨a, dx, vs, rfl, h1, h2, h3⟩ := asIns_at hH1 r1 e1
        obtain ⟨v, hv, rv⟩ := h3.get q
        rw [hK]
        exact ⟨a, _, dx, _, v, rfl, h1, F.cl, F.na, zip_lookup F.nd F.nm hv, hR1.ret hH1 rv⟩
      · cases q
    · cases q
  · exact hR1.elim
def putFld (k j : Nat) (o w : U) (st : Sto) : Option Sto := match o with
  | .loc i => match st[i]? with
    | some (.ins k' us) => if k' = k then (if j < us.length then some (st.set i (.ins k (us.set j w))) else if j = us.length then some (st.set i (.ins k (us ++ [w]))) else none) else none
    | _ => none
  | _ => none
def sFld (k j : Nat) (mo m : ME) : MS := fun env st => (m env st).st env fun w st1 => (mo env st1).st env fun o st2 => match putFld k j o w st2 with
  | some st3 => .next env st3
  | none => .bad
theorem psm_fld {s : Stmt} {f : Str} {k j : Nat} (hK : X.K = T.K) (F : FldOk T k j f) (h : PS X s (L2.sFld X.K (teOf T P Wx mo) (teOf T P Wx m) f)) : PSm X T P Wx s (NK.sFld k j mo m) := PS.imp h fun D σ H ⟨c, env, st, hH, hE, hR⟩ => by
  refine (ts_bind hH hE hR).mono fun x H1 ⟨w, c1, st1, l1, hH1, hE1, r1, hR1⟩ => ?_
  refine (ts_bind hH1 hE1 hR1).mono fun y H2 ⟨o, c2, st2, l2, hH2, hE2, r2, hR2⟩ => ?_
  split at hR2
  · rename_i st3 q
    unfold putFld at q
    split at q
    · rename_i i
      obtain ⟨hi, rfl⟩ := r2.inv_loc
      split at q
      · rename_i k' us es'
        split at q
        · rename_i ek
          subst ek
          obtain ⟨dx, vs, h1, h2, h3⟩ := hH2.at_ins es'
          have hl : ((T.fld k').zip vs).length < 1000 := by
            have := F.sz
            rw [List.length_zip]
            omega
          have hj : j < (T.fld k').length := (List.getElem?_eq_some_iff.mp F.nm).1
          rw [hK]
          refine ⟨c2.ρ i, _, dx, _, rfl, h1, F.cl, F.na, hl, ?_⟩
          split at q
          · rename_i hlt
            cases q
            rw [zip_put F.nd F.nm (by rw [← h3.length]; exact hlt)]
            exact ResS.go (D := D) hR2 (hH2.set es' (fun z => nomatch z) ⟨dx, _, rfl, by rw [List.length_set]; exact h2, h3.set j (r1.mono l2)⟩) hE2
          · split at q
            · rename_i _ hje
              cases q
              rw [zip_new F.nd (by rw [← h3.length, ← hje]; exact F.nm)]
              exact ResS.go (D := D) hR2 (hH2.set es' (fun z => nomatch z) ⟨dx, _, rfl, by rw [List.length_append, List.length_singleton, ← h3.length, ← hje]; exact hj, h3.append (.one (r1.mono l2))⟩) hE2
            · cases q
        · cases q
      · cases q
    · cases q
  · exact hR2.elim

abbrev MF := List U → Sto → Out U
def spOf (T : Tb) (n : Nat) (mf : MF) : Sp := fun vs H Q E => vs.length = n ∧ ∃ c us st, RH T c st H ∧ RpL T c us vs ∧ ResG T (fun cls d _ H => E cls d H) c [] (Rp T) (mf us st) Q
def runF (n : Nat) (mb : MS) : MF := fun us st => match mb (us.map some ++ List.replicate (n - us.length) none) st with
  | .ret u st' => .ok u st'
  | .next _ st' => .ok .non st'
  | .exc x _ st' => .exc x st'
  | _ => .bad
open PyProof.Rows (envOfC) in
theorem start_RE {c : Cn} {us : List U} {vs : List V} {N : List Str} (r : RpL T c us vs) : RE T none c (us.map some ++ List.replicate (N.length - us.length) none) (L2.start N vs) := by
  unfold L2.start
  refine ⟨by simp [r.length], fun i u h => ?_, fun p e => by cases e⟩
  by_cases hi : i < us.length
  · rw [List.getElem?_append_left (by simpa using hi), List.getElem?_map] at h
    cases q : us[i]? with
    | none => rw [q] at h; cases h
    | some w =>
      rw [q] at h
      cases h
      obtain ⟨v, hv, rv⟩ := r.get q
      exact ⟨v, by rw [List.getElem?_append_left (by rw [List.length_map, ← r.length]; exact hi), List.getElem?_map, hv]; rfl, rv⟩
  · rw [List.getElem?_append_right (by simpa using hi), List.getElem?_replicate] at h
    split at h <;> cases h
open PyProof.Rows (envOfC) in
noncomputable def fScope (mf : MF) : MF := fun us st => scopeOut st (mf us st)
theorem spOf_scope {n : Nat} {mf : MF} (vs : List V) (H : Hp) (Q : VK) (E : XK) (h : spOf T n (fScope mf) vs H Q E) : spOf T n mf vs H Q E := by
  obtain ⟨hl, c, us, st0, hH, r, hR⟩ := h
  exact ⟨hl, c, us, st0, hH, r, scope_res hH hR⟩
def eCall (n : Nat) (mf : MF) (dus : List U) (ma : MA) : ME := fun env st => (ma env st).bind fun us st1 => if (us ++ dus).length = n then mf (us ++ dus) st1 else .bad
theorem ResG.wish {α β : Type} {R : Cn → α → β → Prop} {c : Cn} {σ σ' : L2.St} {r : Out α} {Q : β → Hp → Prop} {W W' : WX} (h : ResG T W c σ R r Q) (k : ∀ cls d H, W cls d σ H → W' cls d σ' H) : ResG T W' c σ' R r Q := by
  cases r with
  | ok u st => exact h
  | exc x st => exact fun c' cls d H' a b e => k _ _ _ (h c' cls d H' a b e)
  | bad => exact h
theorem pem_call {k n : Nat} {f : Addr} {fd : FuncData} {ps : List Str} {mf : MF} {dus : List U} {dvs : List V} {ds : List Value} {x : Str} {p : Pos} (tk : Takes X Wx) (F : FnOk X.prog X.w X.K X.mg X.base (L2.CX X.prog X.w) k f fd ps (spOf T n mf)) (hr : Room k X.A) (hg : Gl X x) (hm : X.mg x = some (.ref f)) (hk : PySem.W.keepIn X.K (.ref f) = true) (hb : Binds X.K fd ps ds) (hd : Vals dvs ds)
    (hdr : ∀ c, RpL T c dus dvs) (hn : ps.length = n) (ha : PAm X T P Wx (e :: es) ma) (hdb : (x == ("__debug__" : Str)) = false := by decide) (he : starEach (e :: es) X.env = (false, eval e X.env) :: starEach es X.env := by rfl) (hpl : (backTo pos (starEach es X.env)).any (·.1) = false := by rfl) :
    PEm X T P Wx (.Call (.Name x p) (e :: es) [] pos) (eCall n mf dus ma) :=
  PE.imp (pe_callSD (E := fun σ cls d H => Wx cls d σ H) F hr hg hm hk hb hd (fun σ => passAt tk σ) ha hdb he hpl) fun σ H Q ⟨c, env, st, hH, hE, hR⟩ => by
    refine (tg_bind hH hE hR).mono fun vs H1 ⟨us, c1, st1, l1, hH1, hE1, r1, hR1⟩ => ?_
    split at hR1
    · rename_i hl
      have r2 := r1.append (hdr c1)
      exact ⟨by rw [← r2.length]; exact hl, c1, _, st1, hH1, r2, hR1.wish fun cls d H h => h⟩
    · exact hR1.elim
end
end NK

namespace NK
open PySem L2

theorem call_mw {P : Program} {w : World} {A : Around} {E : Value → Shared → Prop} {h : Heap} {g : Array GenState} {d : Drawn} {tk : Nat} {os : OsState} {x C t u N' : Addr} {nm qn : Str} {bs bm : List Value} {hdct : Bool} {sn : List Str} {sub : List Value} {ab : Bool} {col : Option Bool}
    {dd : Option Addr} {k0 k1 k2 k3 k5 : Option Value} {rest : List Value} {Q : Value → Shared → Prop} (hC : h.get? C = some (excClassObj nm qn C N' bs bm hdct sn sub ab col dd k0 k1 k2 k3 k5 "ValueError.__new__"))
    (hu : h.get? u = some (PySem.W.kxs_mw "ValueError.__init__" x)) (he : h.get? x = some (PySem.W.excObj C t none .none)) (hz : rest.length ≤ sizeLine)
    (fin : ∀ h' t', (∀ b o, b ≠ x → h.get? b = some o → h'.get? b = some o) → h'.get? x = some (PySem.W.excObj C t' none .none) → Q .none ⟨h', g, d, tk, os⟩) :
    wpAny (model P w) A (call (.ref u) rest) Q E ⟨h, g, d, tk, os⟩ := by
  refine wpAny_call (codeAny_of_tree ?_)
  show wpAny _ A.in1 (callAny (.ref u) ⟨rest, []⟩) _ _ _
  simp only [callAny]
  refine wpAny_bind (wpAny_load hu ?_)
  simp only [PySem.W.kxs_mw, show (Value.type "method-wrapper" == Value.type "method" || Value.type "method-wrapper" == Value.type "builtin_function_or_method" || Value.type "method-wrapper" == Value.type "method-wrapper") = true by decide, if_true]
  refine PySem.W.KFB.if_so (by decide) ?_
  refine wpAny_bind (PySem.W.check_bound_init F.excBase_ValueError.toExcCallFacts hC he rfl ?_)
  refine wpAny_bind (wpAny_pure (wpAny_pure ?_))
  refine ⟨plainId_quiet F.excBase_ValueError.init.plain _, codeAny_builtin F.excBase_ValueError.initEntry ?_⟩
  exact PySem.W.exc_init_tree (cls := .ref C) (t0 := t) (dv := none) (c2 := .none) (c3 := .none) (b4 := .bool false) he hz fun h' k e' _ => fin h' _ k e'

def icx (P : Program) (w : World) (K : PySem.W.Frag) (mg : Str → Option Value) (base : Heap) (N : List Str) (qual : Str) (scope : Scope) (f : Addr) (cd : Value) (cc : Addr) (A : Around) (outer : List PySem.Env) (s : Shared) (H : Hp) (E : XK) : Cx where
  prog := P
  w := w
  K := K
  mg := mg
  base := base
  A := A.deeper (PySem.W.ksEnv qual scope s.heap.objs.size f cd cc)
  N := N
  s_0 := s
  H_0 := H
  env := PySem.W.ksEnv qual scope s.heap.objs.size f cd cc
  outer := outer
  stack := PySem.W.ksEnv qual scope s.heap.objs.size f cd cc :: outer
  ex := []
  calm := true
  fn := fun _ => false
  pn := []
  xe := fun e s' => wpAny (model P w) (A.deeper (PySem.W.ksEnv qual scope s.heap.objs.size f cd cc)) (leaving (PySem.W.ksEnv qual scope s.heap.objs.size f cd cc) e) (fun _ s'' => L2.CX P w outer H s E e s'') (fun e' s'' => L2.CX P w outer H s E e' s'') s'

structure Sup (P : Program) (K : PySem.W.Frag) (mg : Str → Option Value) (N ps : List Str) (sc : Scope) (C cda cc : Addr) : Prop where
  kind : sc.kind = .function
  co : sc.isCoroutine = false
  gen : sc.isGenerator = false
  nd : N.Nodup
  pre : N.take ps.length = ps
  par : ∀ x ∈ ps, sc.names.lookup x = some .local
  nocell : ∀ y ∈ sc.names, y.2 ≠ .cell
  free : ∀ y, sc.names.lookup y = some .free → y = ("__class__" : Str)
  ksup : sc.names.lookup ("super" : Str) = some .globalImplicit
  kcls : sc.names.lookup ("__class__" : Str) = some .free
  code : ∃ ccl cdd vs ccs file tf, K.lookup cda = some ⟨ccl, cdd, .fields vs, ccs⟩ ∧ vs[2]? = some (.str file tf) ∧ ((P.main.file : Str) == file) = true
  cell : ∃ cl cld csl, K.lookup cc = some ⟨cl, cld, .cell (some (.ref C)), csl⟩
  T : OexC K C
  sup : PySem.W.ks_superIn K C C "__init__" = some (some (.builtin "ValueError.__init__"))
  isV : PySem.W.subIn K (.ref C) (.type "ValueError") = some true
  self : PySem.W.mroIn K C (.ref C) = some true
  opq : PySem.W.nsIn K cStatics "thirdparty.any" = some none
  msup : mg "super" = none
  top : (P.main.scope.names.lookup ("super" : Str)).isSome = false

theorem zip_rev_lookup : ∀ {ps : List Str} {us : List Value} {i : Nat} {x : Str} {u : Value}, ps.Nodup → ps[i]? = some x → us[i]? = some u → (ps.zip us).reverse.lookup x = some u := by
  intro ps us i x u nd h1 h2
  have key : ∀ {l : List (Str × Value)} {r : List (Str × Value)}, (∀ v, (x, v) ∉ l) → (l ++ r).lookup x = r.lookup x := by
    intro l r
    induction l with
    | nil => intro _; rfl
    | cons a l ih =>
      intro h
      obtain ⟨y, v⟩ := a
      have ne : (x == y) = false := by
        rw [beq_eq_false_iff_ne]
        rintro rfl
        exact h v List.mem_cons_self
      simp only [List.cons_append, List.lookup, ne]
      exact ih fun v hv => h v (List.mem_cons_of_mem _ hv)
  induction ps generalizing us i with
  | nil => simp at h1
  | cons p ps ih =>
    cases us with
    | nil => simp at h2
    | cons w us =>
      have nd' := List.nodup_cons.mp nd
      simp only [List.zip_cons_cons, List.reverse_cons]
      cases i with
      | zero =>
        simp at h1 h2
        subst h1 h2
        rw [key fun v hv => nd'.1 (List.of_mem_zip (List.mem_reverse.mp hv)).1]
        simp [List.lookup]
      | succ i =>
        have q := ih (us := us) (i := i) nd'.2 (by simpa using h1) (by simpa using h2)
        have e : ∀ {l r : List (Str × Value)}, l.lookup x = some u → (l ++ r).lookup x = some u := by
          intro l r
          induction l with
          | nil => intro h; cases h
          | cons a l ih2 =>
            intro h
            obtain ⟨y, v⟩ := a
            simp only [List.cons_append, List.lookup] at h ⊢
            split
            · rename_i hh; rw [hh] at h; exact h
            · rename_i hh; rw [hh] at h; exact ih2 h
        exact e q

section
variable {P : Program} {w : World} {K : PySem.W.Frag} {mg : Str → Option Value} {base : Heap} {N ps : List Str} {qual : Str} {scope : Scope} {f cda cc C : Addr} {A : Around} {outer : List PySem.Env} {s : Shared} {H : Hp} {E : XK} {us : List Value} {vs : List V}
theorem inv_init {h1 : Heap} {tk : Nat} (S : Sup P K mg N ps scope C cda cc) (hd : A.handled = none) (e0 : Env0 P w K mg base A outer s H) (hl : vs.length = ps.length) (r : Vals vs us)
    (hns : h1.Ns s.heap.objs.size (fun x => (ps.zip us).reverse.lookup x)) (hk : ∀ b o, s.heap.get? b = some o → h1.get? b = some o) :
    Inv (icx P w K mg base N qual scope f (.ref cda) cc A outer s H E) [] (L2.start N vs) H { s with heap := h1, toks := tk } := by
  have hpl : ps.length ≤ N.length := by have := congrArg List.length S.pre; rw [List.length_take] at this; omega
  have noA : ∀ b : Addr, b ∉ (icx P w K mg base N qual scope f (.ref cda) cc A outer s H E).ex := fun b z => absurd (show b ∈ ([] : List Addr) from z) (by simp)
  have one : ∀ {x : Str} {c : Addr}, ([("__class__", cc)] : List (Str × Addr)).lookup x = some c → x = "__class__" ∧ c = cc := fun {x c} h => by
    simp only [List.lookup] at h
    split at h
    · rename_i hh
      exact ⟨beq_iff_eq.mp hh, (Option.some.inj h).symm⟩
    · cases h
  obtain ⟨cl, cld, csl, hcell⟩ := S.cell
  have cin : base.get? cc = some ⟨cl, cld, .cell (some (.ref C)), csl⟩ := e0.mod.kin _ _ hcell
  refine ⟨⟨e0.mod, S.kind, rfl, rfl, Nat.le_refl _, fun y z c h1 h2 => (one h1).1.trans (one h2).1.symm, fun y hy => ?_, fun y c h => (nomatch h), fun _ => hd, Around.frames_deeper e0.frames, .inr ⟨rfl, rfl⟩, fun b z => absurd z (noA b), e0.bs, e0.bsz, fun b _ _ => noA b, fun b z => absurd z (noA b), e0.funs, e0.frf⟩,
    rfl, e0.bare, Un.kept hk, ⟨_, hns, fun i y v h1 h2 h3 => ?_⟩, fun y c h => ?_, e0.hok.fresh (Nat.le_refl _), fun y c h => ?_, fun p hp => absurd (show p ∈ ([] : List (Addr × Obj)) from hp) (by simp), e0.hok.kept hk, ?_⟩
  · have hy : scope.names.lookup y = some .cell ∨ scope.names.lookup y = some .free := hy
    rcases hy with hy | hy
    · exact absurd rfl (S.nocell _ (PySem.mem_of_lookup hy))
    · rw [S.free y hy]
      exact ⟨cc, by show ([("__class__", cc)] : List (Str × Addr)).lookup ("__class__" : Str) = some cc; simp [List.lookup]⟩
  · have hi : i < vs.length := by
      unfold L2.start at h2
      by_cases hi : i < vs.length
      · exact hi
      · rw [List.getElem?_append_right (by simpa using hi)] at h2
        rw [List.getElem?_replicate] at h2
        split at h2 <;> cases h2
    have ha : vs[i]? = some v := by
      unfold L2.start at h2
      rw [List.getElem?_append_left (by simpa using hi), List.getElem?_map] at h2
      cases e : vs[i]? with
      | none => rw [e] at h2; cases h2
      | some a => rw [e] at h2; cases h2; rfl
    obtain ⟨u, hu, rv⟩ := r.get ha
    have hp : ps[i]? = some y := by
      rw [← S.pre, List.getElem?_take_of_lt (by omega)]; exact h1
    have ndP : ps.Nodup := by rw [← S.pre]; exact S.nd.sublist (List.take_sublist _ _)
    exact ⟨u, rv, .inl ⟨S.par y (List.mem_of_getElem? hp), zip_rev_lookup ndP hp hu⟩⟩
  · rw [(one h).2]
    exact ⟨_, _, hk _ _ (e0.bs _ _ cin).1, rfl⟩
  · rw [(one h).2]
    exact (e0.bs _ _ cin).2
  · unfold L2.start
    show _ = N.length
    rw [List.length_append, List.length_map, List.length_replicate]
    omega
end

def IniAt (H0 : Hp) (a C : Addr) (fs : List (Str × V)) (H : Hp) : Prop :=
  (fs = [] ∧ H = upd H0 a (exo a C none)) ∨ ∃ d, H0 d = none ∧ d ≠ a ∧ H = upd (upd H0 d (exd d fs)) a (exo a C (some d))
def spIni (C : Addr) (fs : List Str) : Sp := fun vs H Q _ => vs.length = fs.length + 1 ∧ ∃ a ws H0, vs = .ref a :: ws ∧ H0 a = none ∧ H = upd H0 a (exo a C none) ∧
  ∀ d, H0 d = none → d ≠ a → Q .non (upd (upd H0 d (exd d (fs.zip ws).reverse)) a (exo a C (some d)))
def spIniG (g : List V → Prop) (C : Addr) (fs : List Str) : Sp := fun vs H Q E => g vs ∧ spIni C fs vs H Q E
inductive IniSts (X : Cx) (C : Addr) : Nat → List Stmt → List Str → Prop where
  | nil {i : Nat} : IniSts X C i [] []
  | cons {i : Nat} {f : Str} {fs : List Str} {eo ev : Expr} {p' pos : Pos} {r : List Stmt} (h1 : PE X eo (tVar 0)) (h2 : PE X ev (tVar i)) (h3 : PySem.W.findIn X.K (.ref C) f = some none)
      (hs : swapsWith ev (some (.Attribute eo f p')) pos.line X.env = pure false) (h : IniSts X C (i + 1) r fs) : IniSts X C i (.Assign [.Attribute eo f p'] ev pos :: r) (f :: fs)
def tIni (K : PySem.W.Frag) (C : Addr) (i : Nat) (fs : List Str) : TS := fun D σ H => ∃ a H0 done ws, σ[0]? = some (some (.ref a)) ∧ OexC K C ∧ H0 a = none ∧ IniAt H0 a C done H ∧ done.length + fs.length ≤ 900 ∧ ws.length = fs.length ∧
  (∀ j v, ws[j]? = some v → σ[i + j]? = some (some v)) ∧ ∀ H', IniAt H0 a C ((fs.zip ws).reverse ++ done) H' → D.nx σ H'
theorem ini_sts {X : Cx} {C : Addr} {i : Nat} {sts : List Stmt} {fs : List Str} (h : IniSts X C i sts fs) : PSs X sts (tIni X.K C i fs) := by
  induction h with
  | nil =>
    refine PSs.imp pss_nil fun D σ H ⟨a, H0, done, ws, _, _, _, h4, _, h6, _, h8⟩ => ?_
    exact h8 H (by simpa using h4)
  | @cons i f fs eo ev p' pos r h1 h2 h3 hs h ih =>
    refine PSs.imp (pss_cons (ps_ost h1 h2 hs) ih) fun D σ H ⟨a, H0, done, ws, q1, q2, q3, q4, q5, q6, q7, q8⟩ => ?_
    obtain ⟨v, ws', rfl⟩ : ∃ v ws', ws = v :: ws' := by
      cases ws with
      | nil => simp at q6
      | cons v ws' => exact ⟨v, ws', rfl⟩
    have qv := q7 0 v rfl
    refine ⟨v, by simpa using qv, .ref a, q1, a, C, rfl, q2, h3, ?_⟩
    have more : ∀ H', IniAt H0 a C ((f, v) :: done) H' → tIni X.K C (i + 1) fs D σ H' := fun H' k => by
      refine ⟨a, H0, _, ws', q1, q2, q3, k, by simp at q5 ⊢; omega, by simpa using q6, fun j u e => ?_, fun H2 k2 => q8 H2 ?_⟩
      · have := q7 (j + 1) u (by simpa using e)
        rw [← this]
        congr 1
        omega
      · simpa [List.append_assoc] using k2
    rcases q4 with ⟨rfl, rfl⟩ | ⟨d, n1, n2, rfl⟩
    · refine .inl ⟨upd_same, fun dx nd ne => more _ (.inr ⟨dx, ?_, ne, ?_⟩)⟩
      · rwa [upd_ne ne] at nd
      · funext b
        by_cases hb : b = a
        · rw [hb, upd_same, upd_same]
        · rw [upd_ne hb, upd_ne hb]
          by_cases hd : b = dx
          · rw [hd, upd_same, upd_same]
          · rw [upd_ne hd, upd_ne hd, upd_ne hb]
    · refine .inr ⟨d, done, upd_same, by rw [upd_ne n2, upd_same], by simp at q5; omega, more _ (.inr ⟨d, n1, n2, ?_⟩)⟩
      funext b
      by_cases hd : b = d
      · rw [hd, upd_same, upd_ne n2, upd_same]
      · rw [upd_ne hd]
        by_cases hb : b = a
        · rw [hb, upd_same, upd_same]
        · rw [upd_ne hb, upd_ne hb, upd_ne hd, upd_ne hd]

def Tot (n : Nat) (t : TA) : Prop := ∀ (σ : L2.St) (H : Hp) (Q : List V → Hp → Prop), (∀ i, i < n → ∃ v, σ[i]? = some (some v)) → (∀ vs, vs.length ≤ 1000 → Q vs H) → t σ H Q

theorem init_okG {g : List V → Prop} {P : Program} {w : World} {K : PySem.W.Frag} {mg : Str → Option Value} {base : Heap} {N ps fs : List Str} {k : Nat} {name qual : Str} {params : Arguments} {scope : Scope} {dV kV doc pm ct oc : Value} {an od : Option Addr} {osl : Array (Option Value)} {f cda cc C : Addr}
    {e : Expr} {es : List Expr} {p0 p1 p2 p3 p4 : Pos} {rest : List Stmt} {ar : Arg}
    (lk : K.lookup f = some ⟨oc, od, .func (PySem.W.ksFn name qual params (.Expr (.Call (.Attribute (.Call (.Name "super" p0) [] [] p1) "__init__" p2) (e :: es) [] p3) p4 :: rest) scope dV kV doc pm an (.ref cda) ct cc), osl⟩)
    (hcd : PySem.W.codeIn K (.ref cda) qual = true) (S : Sup P K mg N ps scope C cda cc) (har : (params.posonlyargs ++ params.args).head? = some ar) (hself : N[0]? = some ar.arg) (hnf : ps.length = fs.length + 1) (hfs : fs.length ≤ 900) (hne : fs ≠ [])
    (hargs : ∀ (A : Around) (outer : List PySem.Env) (s : Shared) (H : Hp) (E : XK), ∃ t, PA (icx P w K mg base N qual scope f (.ref cda) cc A outer s H E) (e :: es) t ∧ ∀ vs : List V, vs.length = ps.length → g vs → ∀ (H : Hp) (Q : List V → Hp → Prop), (∀ xs, xs.length ≤ 1000 → Q xs H) → t (L2.start N vs) H Q)
    (hrest : ∀ (A : Around) (outer : List PySem.Env) (s : Shared) (H : Hp) (E : XK), IniSts (icx P w K mg base N qual scope f (.ref cda) cc A outer s H E) C 1 rest fs)
    (he : ∀ L, starEach (e :: es) (PySem.W.ksEnv qual scope L f (.ref cda) cc) = (false, eval e (PySem.W.ksEnv qual scope L f (.ref cda) cc)) :: starEach es (PySem.W.ksEnv qual scope L f (.ref cda) cc) := by intro _; rfl)
    (hpl : ∀ L, (backTo p3 (starEach es (PySem.W.ksEnv qual scope L f (.ref cda) cc))).any (·.1) = false := by intro _; rfl)
    (hsw : ∀ L, swapsWith (.Call (.Attribute (.Call (.Name "super" p0) [] [] p1) "__init__" p2) (e :: es) [] p3) none p4.line (PySem.W.ksEnv qual scope L f (.ref cda) cc) = pure false := by intro _; rfl)
    {pl : Sem Bool} (hev : ∀ L, eval (.Call (.Attribute (.Call (.Name "super" p0) [] [] p1) "__init__" p2) (e :: es) [] p3) (PySem.W.ksEnv qual scope L f (.ref cda) cc) = (do
      let ov ← attributeBase (.Call (.Name "super" p0) [] [] p1) "__init__" (PySem.W.ksEnv qual scope L f (.ref cda) cc) (eval (.Call (.Name "super" p0) [] [] p1) (PySem.W.ksEnv qual scope L f (.ref cda) cc))
      standAt p2.atName
      let (f', first) ← holding [ov] (getMethod ov "__init__" pl)
      callWith p3 f' first (backTo p3 (starEach (e :: es) (PySem.W.ksEnv qual scope L f (.ref cda) cc))) []) := by intro _; rfl) :
    FnOk P w K mg base (L2.CX P w) (k + 1) f (PySem.W.ksFn name qual params (.Expr (.Call (.Attribute (.Call (.Name "super" p0) [] [] p1) "__init__" p2) (e :: es) [] p3) p4 :: rest) scope dV kV doc pm an (.ref cda) ct cc) ps (spIniG g C fs) := by
  refine ⟨fun vs H Q E h => h.2.1.trans hnf.symm, fun A outer s H args us vs Q E hr e0 hb r hsp => ?_⟩
  obtain ⟨hgd, hlen, a, ws, H0, rfl, n0, rfl, hq⟩ := hsp
  have hl : (V.ref a :: ws).length = ps.length := hlen.trans hnf.symm
  have KX : K.In s.heap := e0.mod.kin.keeps fun b o e => (e0.bs b o e).1
  have lim : s.heap.NoLimit := e0.mod.nolimit.keeps fun b o e => (e0.bs b o e).1
  obtain ⟨ccl, cdd, cvs, ccs, file, tf, hcode, hvs, hfile⟩ := S.code
  obtain ⟨cl, cld, csl, hcell⟩ := S.cell
  obtain ⟨nm, q, Nc, bs, bm, sn, sub, ab, col, dd, k0, k1, k2, k3, k5, hC, hbm⟩ := id S.T.cls
  have hcl : PySem.W.clsIn K C = some { name := nm, bases := bs, mro := .ref C :: bm, ns := Nc, qualname := q, hasDict := true, slotNames := sn, subclasses := sub, abstract := ab, collection := col, hasDel := false } := by unfold PySem.W.clsIn; rw [hC] <;> rfl
  refine ks_codeAny_call_defAt (fd := PySem.W.ksFn name qual params (.Expr (.Call (.Attribute (.Call (.Name "super" p0) [] [] p1) "__init__" p2) (e :: es) [] p3) p4 :: rest) scope dV kV doc pm an (.ref cda) ct cc) hr.depth (KX _ _ lk) rfl lim (PySem.W.codeRec_of KX hcd) rfl hb S.nocell
    (fun y hy => S.par y.1 (List.of_mem_zip hy).1) (fun h1 hns hk => ?_) S.co S.gen S.kind
  have I : Inv (icx P w K mg base N qual scope f (.ref cda) cc A outer s (upd H0 a (exo a C none)) E) [] (L2.start N (.ref a :: ws)) (upd H0 a (exo a C none)) { s with heap := h1, toks := s.toks + (ps.zip us).length } := inv_init S hr.hd e0 hl r hns hk
  have self_at : ∃ m, h1.Ns s.heap.objs.size m ∧ m ar.arg = some (.ref a) := by
    cases r with
    | @cons _ u0 _ ur ra rw' =>
      obtain rfl : u0 = Value.ref a := ra
      refine ⟨_, hns, zip_rev_lookup (i := 0) (by rw [← S.pre]; exact S.nd.sublist (List.take_sublist _ _)) ?_ rfl⟩
      rw [← S.pre, List.getElem?_take_of_lt (by omega)]
      exact hself
  have hps : ar.arg ∈ ps := by
    have : ps[0]? = some ar.arg := by rw [← S.pre, List.getElem?_take_of_lt (by omega)]; exact hself
    exact List.mem_of_getElem? this
  obtain ⟨hp0, g0, d0, t0, os0⟩ := s
  have KX1 : K.In h1 := KX.keeps hk
  obtain ⟨tx, hx1⟩ := exo_at I.hok (upd_same (a := a))
  have IA : PySem.W.InstAt h1 a _ C none := ⟨hx1, rfl, rfl, trivial⟩
  obtain ⟨oD, hD1, hD2⟩ : ∃ oD, h1.get? C = some oD ∧ oD.data = .cls { name := nm, bases := bs, mro := .ref C :: bm, ns := Nc, qualname := q, hasDict := true, slotNames := sn, subclasses := sub, abstract := ab, collection := col, hasDel := false } := ⟨_, KX1 _ _ hC, rfl⟩
  obtain ⟨ms, hms, hmself⟩ := self_at
  obtain ⟨mb, hb1, hb2⟩ := I.mod.blt
  have hint : interactive (PySem.W.ksEnv qual scope hp0.objs.size f (.ref cda) cc) = false := by
    unfold interactive
    show (scope.kind == _ && _) = false
    rw [S.kind]
    rfl
  refine ks_wpAt_execs_cons (ks_wpAt_Expr_any (ks_wpAt_MethodCall (pl := pl) ?_ (hev _)) hint (hsw _))
  refine ks_wpAt_super_base (env := PySem.W.ksEnv qual scope hp0.objs.size f (.ref cda) cc) S.ksup S.kcls (by decide) rfl (KX1 _ _ lk) rfl har rfl (KX1 _ _ hcode) rfl hvs hfile S.top ?_
  refine PySem.W.ks_loadName_global S.kind S.ksup (PySem.Calls.loadGlobal_builtin (env := PySem.W.ksEnv qual scope hp0.objs.size f (.ref cda) cc) (I.mod.glob.keeps I.bk) S.msup (hb1.keeps I.bk) ((hb2 _ (by decide +kernel)).trans PyProof.Rows.Boot.«super») ⟨rfl, ?_⟩)
  refine wpAny_loadName_free S.kind S.kcls rfl ⟨_, KX1 _ _ hcell, rfl⟩ ?_
  refine wpAny_loadName_local S.kind (S.par _ hps) hms hmself ?_
  refine ks_wpAny_isType_cls hD1 hD2 ⟨rfl, ?_⟩
  refine ks_wpAny_call_super hD1 hD2 IA.at_ IA.cls (fun c e => by cases e) (PySem.W.looks_mroIn KX1 S.self) (fun h2 e2 k2 => ?_)
  have KX2 : K.In h2 := KX1.keeps k2
  have I2 := I.kept (t' := t0 + (ps.zip us).length) k2
  have IA2 : PySem.W.InstAt h2 a _ C none := ⟨k2 _ _ hx1, rfl, rfl, trivial⟩
  have hm := S.sup
  unfold PySem.W.ks_superIn at hm
  rw [hcl] at hm
  refine PySem.W.kxs_getMethod PySem.W.kxs_ValueError e2 (PySem.W.looks_opaque KX2 S.opq) (l₀ := .ref C :: bm) (fun A Q E s k q => wpAny_bind ((PySem.W.looks_clsIn KX2 hcl) A _ E s k (wpAny_pure q))) rfl KX2 hm (IA2.type.andThen (PySem.W.looks_subIn KX2 S.isV)) (PySem.W.ks_ne KX2 IA2 hcl) (by decide) ?_
  have I3 := I2.kept (t' := t0 + (ps.zip us).length + 1) (h' := h2.push (PySem.W.kxs_mw "ValueError.__init__" a)) fun b o z => Heap.get?_push_of_some _ z
  have hu : (h2.push (PySem.W.kxs_mw "ValueError.__init__" a)).get? h2.objs.size = some (PySem.W.kxs_mw "ValueError.__init__" a) := Heap.get?_push_at rfl rfl
  have I4 := I3.pins_of (pins' := [(h2.objs.size, PySem.W.kxs_mw "ValueError.__init__" a)]) (fun p hp => by
    rcases List.mem_singleton.mp hp with rfl
    refine ⟨hu, I2.hok.fresh (Nat.le_refl _), (Nat.ne_of_lt I2.lt).symm, I2.nofs (Nat.le_refl _), fun v z => by cases z⟩)
  obtain ⟨ta, hta, htot⟩ := hargs A outer ⟨hp0, g0, d0, t0, os0⟩ (upd H0 a (exo a C none)) E
  show wpAny _ _ (callWith p3 (.ref h2.objs.size) [] (backTo p3 (starEach (e :: es) (PySem.W.ksEnv qual scope hp0.objs.size f (.ref cda) cc))) []) _ _ _
  have hrun := hta.run p3 _ _ _ _ (fun vs H1 => vs.length ≤ 1000 ∧ H1 = upd H0 a (exo a C none)) I4 (htot _ hl hgd _ _ fun vs z => ⟨z, rfl⟩)
  have heE : starEach (e :: es) (icx P w K mg base N qual scope f (.ref cda) cc A outer ⟨hp0, g0, d0, t0, os0⟩ (upd H0 a (exo a C none)) E).env = _ := he hp0.objs.size
  rw [he]
  rw [heE] at hrun
  refine PySem.W.kxs_callWith (i := "ValueError.__init__") (x := a) (by show (false || (backTo p3 (starEach es _)).any (·.1)) = false; rw [hpl]; rfl) (PySem.Calls.evalArgs_plain (wpAny_mono hrun (fun vs s2 hv => ?_) fun _ _ x => x))
  obtain ⟨xs, H2, I5, rv, hz, rfl⟩ := hv
  have pin := (I5.pin (h2.objs.size, PySem.W.kxs_mw "ValueError.__init__" a) (List.mem_append_right _ (List.mem_singleton.mpr rfl))).1
  refine ⟨pin, ?_⟩
  obtain ⟨t5, hx5⟩ := exo_at I5.hok (upd_same (a := a))
  obtain ⟨h5, g5, d5, tk5, os5⟩ := s2
  refine call_mw (I5.kIn _ _ hC) pin hx5 (by show List.length _ ≤ sizeLine; rw [List.nil_append, ← Paired.length rv, sizeLine_eq]; omega) fun h6 t6 k6 hx6 => ?_
  have J := I5.write (t' := tk5) (x := a) (e := a) (o := exo a C none) (by rw [upd_same]; exact True.intro) (.inl rfl) k6 ⟨_, hx6⟩ (exo_ok hx6)
  have eu : upd (upd H0 a (exo a C none)) a (exo a C none) = upd H0 a (exo a C none) := by
    funext b
    by_cases hb : b = a
    · rw [hb, upd_same, upd_same]
    · rw [upd_ne hb, upd_ne hb]
  rw [eu] at J
  have J' := J.pins_of (pins' := []) fun p hp => absurd hp (by simp)
  have J0 : Inv (icx P w K mg base N qual scope f (.ref cda) cc A outer ⟨hp0, g0, d0, t0, os0⟩ (upd H0 a (exo a C none)) E) [] (L2.start N (.ref a :: ws)) (upd H0 a (exo a C none)) ⟨h6, g5, d5, tk5, os5⟩ :=
    ⟨J.ok, J.os, J.bare, J.base, J.loc, J.cell, J.free, J.freeC, fun p hp => absurd (show p ∈ ([] : List (Addr × Obj)) from hp) (by simp), J.hok, J.len⟩
  have hread : tIni K C 1 fs { nx := fun _ H' => Q .non H', rt := Q } (L2.start N (.ref a :: ws)) (upd H0 a (exo a C none)) := by
    refine ⟨a, H0, [], ws, ?_, S.T, n0, .inl ⟨rfl, rfl⟩, by simpa using hfs, by simpa using hlen, fun j v e => ?_, fun H' k => ?_⟩
    · unfold L2.start
      rfl
    · have hj : 1 + j < (V.ref a :: ws).length := by
        have := (List.getElem?_eq_some_iff.mp e).1
        simp
        omega
      unfold L2.start
      rw [List.getElem?_append_left (by simpa using hj), List.getElem?_map, Nat.add_comm, List.getElem?_cons_succ, e]
      rfl
    · rcases k with ⟨z, rfl⟩ | ⟨d, n1, n2, rfl⟩
      · exfalso
        have wl : ws.length = fs.length := by simpa using hlen
        cases fs with
        | nil => exact hne rfl
        | cons y ys =>
          cases ws with
          | nil => simp at wl
          | cons z2 zs => simp at z
      · simpa using hq d n1 n2
  refine wpAt_of_wpAny (wpAny_mono ((ini_sts (hrest A outer ⟨hp0, g0, d0, t0, os0⟩ (upd H0 a (exo a C none)) E)).run [] _ _ _ _ J0 hread) (fun fl s' hs => ?_) fun e s' hs => hs)
  have fin : ∀ {σ' : L2.St} {H' : Hp} {v : V} {u : Value}, Inv (icx P w K mg base N qual scope f (.ref cda) cc A outer ⟨hp0, g0, d0, t0, os0⟩ (upd H0 a (exo a C none)) E) [] σ' H' s' → RelV v u → Q v H' → CE outer P w (upd H0 a (exo a C none)) ⟨hp0, g0, d0, t0, os0⟩ Q u s' :=
    fun {σ' H' v u} J rv q => ⟨v, H', J.os, J.bare, J.base, J.hok, rv, q⟩
  cases fl with
  | ret u =>
    obtain ⟨v, σ', H', J, rv, q⟩ := hs
    exact fin J rv q
  | next =>
    obtain ⟨σ', H', J, q⟩ := hs
    exact fin (v := V.non) (u := Value.none) J rfl q
  | brk =>
    obtain ⟨_, _, _, q⟩ := hs
    exact False.elim q
  | cont =>
    obtain ⟨_, _, _, q⟩ := hs
    exact False.elim q
theorem init_ok {P : Program} {w : World} {K : PySem.W.Frag} {mg : Str → Option Value} {base : Heap} {N ps fs : List Str} {k : Nat} {name qual : Str} {params : Arguments} {scope : Scope} {dV kV doc pm ct oc : Value} {an od : Option Addr} {osl : Array (Option Value)} {f cda cc C : Addr}
    {e : Expr} {es : List Expr} {p0 p1 p2 p3 p4 : Pos} {rest : List Stmt} {ar : Arg}
    (lk : K.lookup f = some ⟨oc, od, .func (PySem.W.ksFn name qual params (.Expr (.Call (.Attribute (.Call (.Name "super" p0) [] [] p1) "__init__" p2) (e :: es) [] p3) p4 :: rest) scope dV kV doc pm an (.ref cda) ct cc), osl⟩)
    (hcd : PySem.W.codeIn K (.ref cda) qual = true) (S : Sup P K mg N ps scope C cda cc) (har : (params.posonlyargs ++ params.args).head? = some ar) (hself : N[0]? = some ar.arg) (hnf : ps.length = fs.length + 1) (hfs : fs.length ≤ 900) (hne : fs ≠ [])
    (hargs : ∀ (A : Around) (outer : List PySem.Env) (s : Shared) (H : Hp) (E : XK), ∃ t, PA (icx P w K mg base N qual scope f (.ref cda) cc A outer s H E) (e :: es) t ∧ Tot ps.length t)
    (hrest : ∀ (A : Around) (outer : List PySem.Env) (s : Shared) (H : Hp) (E : XK), IniSts (icx P w K mg base N qual scope f (.ref cda) cc A outer s H E) C 1 rest fs)
    (he : ∀ L, starEach (e :: es) (PySem.W.ksEnv qual scope L f (.ref cda) cc) = (false, eval e (PySem.W.ksEnv qual scope L f (.ref cda) cc)) :: starEach es (PySem.W.ksEnv qual scope L f (.ref cda) cc) := by intro _; rfl)
    (hpl : ∀ L, (backTo p3 (starEach es (PySem.W.ksEnv qual scope L f (.ref cda) cc))).any (·.1) = false := by intro _; rfl)
    (hsw : ∀ L, swapsWith (.Call (.Attribute (.Call (.Name "super" p0) [] [] p1) "__init__" p2) (e :: es) [] p3) none p4.line (PySem.W.ksEnv qual scope L f (.ref cda) cc) = pure false := by intro _; rfl)
    {pl : Sem Bool} (hev : ∀ L, eval (.Call (.Attribute (.Call (.Name "super" p0) [] [] p1) "__init__" p2) (e :: es) [] p3) (PySem.W.ksEnv qual scope L f (.ref cda) cc) = (do
      let ov ← attributeBase (.Call (.Name "super" p0) [] [] p1) "__init__" (PySem.W.ksEnv qual scope L f (.ref cda) cc) (eval (.Call (.Name "super" p0) [] [] p1) (PySem.W.ksEnv qual scope L f (.ref cda) cc))
      standAt p2.atName
      let (f', first) ← holding [ov] (getMethod ov "__init__" pl)
      callWith p3 f' first (backTo p3 (starEach (e :: es) (PySem.W.ksEnv qual scope L f (.ref cda) cc))) []) := by intro _; rfl) :
    FnOk P w K mg base (L2.CX P w) (k + 1) f (PySem.W.ksFn name qual params (.Expr (.Call (.Attribute (.Call (.Name "super" p0) [] [] p1) "__init__" p2) (e :: es) [] p3) p4 :: rest) scope dV kV doc pm an (.ref cda) ct cc) ps (spIni C fs) := by
  have G : FnOk P w K mg base (L2.CX P w) (k + 1) f (PySem.W.ksFn name qual params (.Expr (.Call (.Attribute (.Call (.Name "super" p0) [] [] p1) "__init__" p2) (e :: es) [] p3) p4 :: rest) scope dV kV doc pm an (.ref cda) ct cc) ps (spIniG (fun _ => True) C fs) :=
    init_okG lk hcd S har hself hnf hfs hne (fun A outer s H E => by
      obtain ⟨t, h1, h2⟩ := hargs A outer s H E
      exact ⟨t, h1, fun vs hl _ H Q hq => h2 _ _ _ (fun i hi => by
        have hi' : i < vs.length := by omega
        refine ⟨vs[i], ?_⟩
        unfold L2.start
        rw [List.getElem?_append_left (by simpa using hi'), List.getElem?_map, List.getElem?_eq_getElem hi']
        rfl) hq⟩) hrest he hpl hsw hev
  exact G.imp fun vs H Q E h => ⟨True.intro, h⟩
end NK

namespace PySem.W
open PySem PySem.Spec PySem.Calls PyProof.Rows
section
variable {prog : Program} {w : World} {A : Around} {E : Value → Shared → Prop} {s : Shared} {K : Frag} {x D : Addr} {ox od : Obj}
end
end PySem.W
namespace NK
open PySem L2

def sRaise (k n : Nat) (ma : MA) : MS := fun env st => (ma env st).st env fun us st1 => if us.length = n then .exc ⟨k, us⟩ env st1 else .bad
section
variable {X : Cx} {T : Tb} {P : Pin} {Wx : WX} {e : Expr} {es : List Expr} {ma : MA} {pos pos' p : Pos}
theorem upd_del {H : Hp} {a d : Addr} {o1 o2 o3 : HO} (ha : H a = none) (hd : d ≠ a) : upd (del (upd (upd H d o1) a o2) a) d o3 = upd H d o3 := by
  funext b
  by_cases hb : b = d
  · rw [hb, upd_same, upd_same]
  · rw [upd_ne hb, upd_ne hb]
    by_cases hc : b = a
    · rw [hc, del_same, ha]
    · rw [del_ne hc, upd_ne hc, upd_ne hb]
theorem psm_raise {k kk n : Nat} {x : Str} {fI : Addr} {fd : FuncData} {ps : List Str} (hc : X.calm = true) (tk : Takes X Wx) (OT : OexC X.K (T.cls k)) (iC : PySem.W.findIn X.K (.ref (T.cls k)) "__init__" = some (some (.ref fI))) (tI : PySem.W.typeIn X.K (.ref fI) = some (.type "function"))
    (F1 : FnOk X.prog X.w X.K X.mg X.base (L2.CX X.prog X.w) kk fI fd ps (spIni (T.cls k) (T.fld k))) (hr : Room (kk + 1) X.A) (hb : Binds X.K fd ps []) (hg : Gl X x) (hm : X.mg x = some (.ref (T.cls k))) (hn : (T.fld k).length = n) (hsz : n ≤ 900) (ha : PAm X T P Wx (e :: es) ma)
    (hdb : (x == ("__debug__" : Str)) = false := by decide) (he : starEach (e :: es) X.env = (false, eval e X.env) :: starEach es X.env := by rfl) (hpl : (backTo pos (starEach es X.env)).any (·.1) = false := by rfl) :
    PSm X T P Wx (.Raise (some (.Call (.Name x p) (e :: es) [] pos)) none pos') (sRaise k n ma) :=
  PS.imp (ps_raise hc tk (pmk_oex OT iC tI F1 hr hb .nil (passes_call tk fun _ _ _ _ h => h.elim) hg hm ha hdb he hpl)) fun D σ H ⟨c, env, st, hH, hE, hR⟩ => by
    refine (ts_bind hH hE hR).mono fun vs H1 ⟨us, c1, st1, l1, hH1, hE1, r1, hR1⟩ => ?_
    split at hR1
    · rename_i hl
      have hvl : vs.length = n := by rw [← r1.length]; exact hl
      refine ⟨by omega, fun a na => ⟨by rw [List.append_nil, List.length_cons, hvl, hn], a, vs, H1, by rw [List.append_nil], na, rfl, fun d nd ne => ⟨rfl, d, _, upd_same, by rw [upd_ne ne, upd_same], nd, ?_⟩⟩⟩
      rw [upd_del na ne]
      refine hR1 (c1.still d _) _ _ σ _ (le_still hH1 nd _) (hH1.still nd _) (hE1.mono (le_still hH1 nd _)) ⟨rfl, d, vs, rfl, ?_, by rw [hvl, hn], r1.mono (le_still hH1 nd _)⟩
      show upd c1.F d _ d = _
      rw [upd_same]
    · exact hR1.elim

theorem zrl : ∀ {ps : List Str} {us : List V} {i : Nat} {x : Str} {u : V}, ps.Nodup → ps[i]? = some x → us[i]? = some u → (ps.zip us).reverse.lookup x = some u := by
  intro ps us i x u nd h1 h2
  have key : ∀ {l : List (Str × V)} {r : List (Str × V)}, (∀ v, (x, v) ∉ l) → (l ++ r).lookup x = r.lookup x := by
    intro l r
    induction l with
    | nil => intro _; rfl
    | cons a l ih =>
      intro h
      obtain ⟨y, v⟩ := a
      have ne : (x == y) = false := by
        rw [beq_eq_false_iff_ne]
        rintro rfl
        exact h v List.mem_cons_self
      simp only [List.cons_append, List.lookup, ne]
      exact ih fun v hv => h v (List.mem_cons_of_mem _ hv)
  induction ps generalizing us i with
  | nil => simp at h1
  | cons p ps ih =>
    cases us with
    | nil => simp at h2
    | cons w us =>
      have nd' := List.nodup_cons.mp nd
      simp only [List.zip_cons_cons, List.reverse_cons]
      cases i with
      | zero =>
        simp at h1 h2
        subst h1 h2
        rw [key fun v hv => nd'.1 (List.of_mem_zip (List.mem_reverse.mp hv)).1]
        simp [List.lookup]
      | succ i =>
        have q := ih (us := us) (i := i) nd'.2 (by simpa using h1) (by simpa using h2)
        have e : ∀ {l r : List (Str × V)}, l.lookup x = some u → (l ++ r).lookup x = some u := by
          intro l r
          induction l with
          | nil => intro h; cases h
          | cons a l ih2 =>
            intro h
            obtain ⟨y, v⟩ := a
            simp only [List.cons_append, List.lookup] at h ⊢
            split
            · rename_i hh; rw [hh] at h; exact h
            · rename_i hh; rw [hh] at h; exact ih2 h
        exact e q
end
end NK

set_option maxHeartbeats 4000000
namespace NK
section
open PySem PySem.Spec PyProof.Rows L2 PpSet
section
variable {X : Cx}
end
end
end NK

set_option maxHeartbeats 2000000
namespace NK
open PySem L2

def valU {κ : Type} [DecidableEq κ] (kvs : List (κ × U)) (k : κ) : Option U := (kvs.find? fun kv => decide (kv.1 = k)).map (·.2)
def putU {κ : Type} [DecidableEq κ] (kvs : List (κ × U)) (k : κ) (v : U) : List (κ × U) :=
  if (kvs.any fun kv => decide (kv.1 = k)) = true then kvs.map (fun kv => if kv.1 = k then (kv.1, v) else kv) else kvs ++ [(k, v)]
def keyU (u : U) : Option Key := match u with
  | .int i => some (.inl i)
  | .str x => some (.inr x)
  | _ => none
section
variable {κ : Type} [DecidableEq κ] {T : Tb} {c : Cn}
theorem RpK.length : ∀ {us : List (κ × U)} {vs : List (κ × V)}, RpK T c us vs → us.length = vs.length
  | _, _, .nil => rfl
  | _, _, .cons _ t => by simp [RpK.length t]
theorem RpK.any : ∀ {us : List (κ × U)} {vs : List (κ × V)} (k : κ), RpK T c us vs → (us.any fun kv => decide (kv.1 = k)) = (vs.any fun kv => decide (kv.1 = k))
  | _, _, _, .nil => rfl
  | _, _, k, .cons _ t => by simp only [List.any_cons, RpK.any k t]
theorem RpK.val : ∀ {us : List (κ × U)} {vs : List (κ × V)} {k : κ}, RpK T c us vs → (∀ u, valU us k = some u → ∃ v, valV vs k = some v ∧ Rp T c u v) ∧ (valU us k = none → valV vs k = none)
  | _, _, _, .nil => ⟨fun u h => by simp [valU] at h, fun _ => rfl⟩
  | _, _, k, .cons (k := k') (u := u0) (v := v0) (us := us) (vs := vs) r t => by
    obtain ⟨h1, h2⟩ := RpK.val (k := k) t
    by_cases e : k' = k
    · subst e
      refine ⟨fun u h => ?_, fun h => ?_⟩
      · simp [valU] at h
        subst h
        exact ⟨v0, by simp [valV], r⟩
      · simp [valU] at h
    · have a : valU ((k', u0) :: us) k = valU us k := by simp [valU, List.find?, e]
      have b : valV ((k', v0) :: vs) k = valV vs k := by simp [valV, List.find?, e]
      rw [a, b]
      exact ⟨h1, h2⟩
theorem RpK.mapPut (k : κ) {u : U} {v : V} (q : Rp T c u v) : ∀ {us : List (κ × U)} {vs : List (κ × V)}, RpK T c us vs → RpK T c (us.map fun kv => if kv.1 = k then (kv.1, u) else kv) (vs.map fun kv => if kv.1 = k then (kv.1, v) else kv)
  | _, _, .nil => .nil
  | _, _, .cons (k := k') r t => by
    simp only [List.map_cons]
    by_cases e : k' = k
    · rw [if_pos e, if_pos e]; exact .cons q (RpK.mapPut k q t)
    · rw [if_neg e, if_neg e]; exact .cons r (RpK.mapPut k q t)
theorem RpK.snoc {k : κ} {u : U} {v : V} (q : Rp T c u v) : ∀ {us : List (κ × U)} {vs : List (κ × V)}, RpK T c us vs → RpK T c (us ++ [(k, u)]) (vs ++ [(k, v)])
  | _, _, .nil => .cons q .nil
  | _, _, .cons r t => .cons r (RpK.snoc q t)
theorem RpK.put {us : List (κ × U)} {vs : List (κ × V)} {u : U} {v : V} (k : κ) (h : RpK T c us vs) (q : Rp T c u v) : RpK T c (putU us k u) (putK vs k v) := by
  unfold putU putK
  rw [h.any k]
  by_cases a : (vs.any fun kv => decide (kv.1 = k)) = true
  · rw [if_pos a, if_pos a]; exact h.mapPut k q
  · rw [if_neg a, if_neg a]; exact h.snoc q
theorem key_at {u : U} {v : V} {k : Key} (r : Rp T c u v) (e : keyU u = some k) : v = kV k := by
  cases u with
  | int i => cases e; cases r; rfl
  | str x => cases e; cases r; rfl
  | _ => cases e
end
def dictAt (u : U) (st : Sto) : Option (Nat × List (Key × U)) := match u with
  | .loc i => match st[i]? with
    | some (.dK kvs) => some (i, kvs)
    | _ => none
  | _ => none
theorem dict_at {T : Tb} {c : Cn} {st : Sto} {H : Hp} (h : RH T c st H) {u : U} {v : V} {i : Nat} {kvs : List (Key × U)} (r : Rp T c u v) (e : dictAt u st = some (i, kvs)) : u = .loc i ∧ st[i]? = some (.dK kvs) ∧ ∃ vs, v = .ref (c.ρ i) ∧ H (c.ρ i) = some (.dK vs) ∧ RpK T c kvs vs := by
  cases u with
  | loc j =>
    obtain ⟨_, rfl⟩ := r.inv_loc
    dsimp only [dictAt] at e
    split at e
    · rename_i kvs' q
      cases e
      obtain ⟨vs, h1, h2⟩ := h.at_dK q
      exact ⟨rfl, q, vs, rfl, h1, h2⟩
    · cases e
  | _ => cases e
def dictRd (u : U) (st : Sto) : Option (List (Key × U)) := match u with
  | .loc i => match st[i]? with
    | some (.dK kvs) => some kvs
    | some (.lk (.dK kvs)) => some kvs
    | _ => none
  | _ => none
theorem dictRd_at {T : Tb} {c : Cn} {st : Sto} {H : Hp} (h : RH T c st H) {u : U} {v : V} {kvs : List (Key × U)} (r : Rp T c u v) (e : dictRd u st = some kvs) : ∃ a vs, v = .ref a ∧ Rd H a (.dK vs) ∧ RpK T c kvs vs := by
  cases u with
  | loc j =>
    obtain ⟨_, rfl⟩ := r.inv_loc
    dsimp only [dictRd] at e
    split at e
    · rename_i kvs' q
      cases e
      obtain ⟨vs, h1, h2⟩ := h.at_dK q
      exact ⟨_, vs, rfl, .inl h1, h2⟩
    · rename_i kvs' q
      cases e
      obtain ⟨y, h1, ⟨od, x, rfl, _, vs, rfl, h2⟩, _⟩ := h.act j _ q (fun z => nomatch z)
      exact ⟨_, vs, rfl, .inr ⟨od, h1⟩, h2⟩
    · cases e
  | _ => cases e
def eDict : ME := fun _ st => .ok (.loc st.length) (st ++ [.dK []])
def fDGet (o i : U) (st : Sto) : Out U := match dictRd o st, keyU i with
  | some kvs, some k => match valU kvs k with
    | some w => .ok w st
    | none => .bad
  | _, _ => .bad
def fDIn (neg : Bool) (i o : U) (st : Sto) : Out U := match dictRd o st, keyU i with
  | some kvs, some k => .ok (.bl ((valU kvs k).isSome != neg)) st
  | _, _ => .bad
def dput (o i w : U) (st : Sto) : Option Sto := match dictAt o st, keyU i with
  | some (n, kvs), some k => if kvs.length < 16777216 then some (st.set n (.dK (putU kvs k w))) else none
  | _, _ => none
def sDPut (mo mi m : ME) : MS := fun env st => (m env st).st env fun w st1 => (mo env st1).st env fun o st2 => (mi env st2).st env fun i st3 => match dput o i w st3 with
  | some st4 => .next env st4
  | none => .bad
section
variable {X : Cx} {T : Tb} {P : Pin} {Wx : WX} {o i e value : Expr} {es : List Expr} {mo mi m ma mb : ME} {mas : MA} {pos pos' apos p p2 : Pos}
theorem pem_dict : PEm X T P Wx (.Dict [] [] pos) eDict := PE.imp pe_dnewK fun σ H Q ⟨c, env, st, hH, hE, hR⟩ p hp => by
  have l := le_new c p
  have hlt : st.length < (c.new p).n := by show _ < c.n + 1; rw [hH.n]; exact Nat.lt_succ_self _
  have e : V.ref p = V.ref ((c.new p).ρ st.length) := by rw [← hH.n, new_self]
  rw [e]
  exact hR _ _ _ l (hH.new hp (o := .dK []) (x := .dK []) ⟨[], rfl, .nil⟩) (.loc hlt)
theorem units1 {k : Nat} {A : Around} (r : Room k A) : A.units + 1 < cLine := by have := r.units; omega
theorem pem_dget (hu : X.A.units + 1 < cLine) (ho : PEm X T P Wx o mo) (hi : PEm X T P Wx i mi) (hs : NoSl i) : PEm X T P Wx (.Subscript o i pos) (eOp fDGet mo mi) := PE.imp (pe_dget hu ho hi hs) fun σ H Q ⟨c, env, st, hH, hE, hR⟩ => by
  refine (tg_bind hH hE hR).mono fun x H1 ⟨u, c1, st1, l1, hH1, hE1, r1, hR1⟩ => ?_
  refine (tg_bind hH1 hE1 hR1).mono fun y H2 ⟨w, c2, st2, l2, hH2, hE2, r2, hR2⟩ => ?_
  unfold fDGet at hR2
  split at hR2
  · rename_i kvs k e1 e2
    obtain ⟨a, vs, rfl, h1, h2⟩ := dictRd_at hH2 (r1.mono l2) e1
    cases key_at r2 e2
    split at hR2
    · rename_i w' e3
      obtain ⟨v, hv, rv⟩ := h2.val.1 _ e3
      exact ⟨_, v, rfl, by rw [← hv]; exact .inl ⟨vs, k, h1, rfl, rfl⟩, hR2.ret hH2 rv⟩
    · exact hR2.elim
  · exact hR2.elim
theorem din_run {neg : Bool} (σ : L2.St) (H : Hp) (Q : VK) (h : teOf T P Wx (eOp (fDIn neg) mi mo) σ H Q) : teOf T P Wx mi σ H fun y H1 => teOf T P Wx mo σ H1 fun x H2 => ∃ a o, x = .ref a ∧ DGet H2 a y o ∧ Q (.bl (o.isSome != neg)) H2 := by
  obtain ⟨c, env, st, hH, hE, hR⟩ := h
  refine (tg_bind hH hE hR).mono fun x H1 ⟨u, c1, st1, l1, hH1, hE1, r1, hR1⟩ => ?_
  refine (tg_bind hH1 hE1 hR1).mono fun y H2 ⟨w, c2, st2, l2, hH2, hE2, r2, hR2⟩ => ?_
  unfold fDIn at hR2
  split at hR2
  · rename_i kvs k e1 e2
    obtain ⟨a, vs, rfl, h1, h2⟩ := dictRd_at hH2 r2 e1
    cases key_at (r1.mono l2) e2
    refine ⟨_, _, rfl, .inl ⟨vs, k, h1, rfl, rfl⟩, ?_⟩
    have e3 : (valU kvs k).isSome = (valV vs k).isSome := by
      cases q : valU kvs k with
      | none => rw [h2.val.2 q]; rfl
      | some u => obtain ⟨v, hv, _⟩ := h2.val.1 _ q; rw [hv]; rfl
    rw [e3] at hR2
    exact hR2.ret hH2 (.bl _)
  · exact hR2.elim
theorem pcm_dnotin (hu : X.A.units + 1 < cLine) (hi : PEm X T P Wx i mi) (ho : PEm X T P Wx o mo) : PC X .NotIn i o (teOf T P Wx (eOp (fDIn true) mi mo)) := ⟨fun pins s σ H Q I h => (pc_dnotin hu hi ho).run pins s σ H Q I ((din_run (neg := true) σ H Q h).mono fun y H1 h => tgOf.mono h fun x H2 ⟨a, o, e, g, q⟩ => ⟨a, o, e, g, by simpa using q⟩)⟩
theorem ptm_pc {op : CmpOp} {a b : Expr} (h : PC X op a b (teOf T P Wx m)) (h1 : behindInMarks op b = false := by first | exact nobehind _ (by decide) (by decide) | rfl) : PTm X T P Wx (.Compare a [op] [b] pos) (NK.tB m) := PT.imp (pt_cmp h h1) (test_run fun _ _ _ h => h)
theorem psm_dput {s : Stmt} (h : PS X s (L2.sDPut (teOf T P Wx mo) (teOf T P Wx mi) (teOf T P Wx m))) : PSm X T P Wx s (NK.sDPut mo mi m) :=
  PS.imp h fun D σ H ⟨c, env, st, hH, hE, hR⟩ => by
    refine (ts_bind hH hE hR).mono fun x H1 ⟨w, c1, st1, l1, hH1, hE1, r1, hR1⟩ => ?_
    refine (ts_bind hH1 hE1 hR1).mono fun y H2 ⟨o, c2, st2, l2, hH2, hE2, r2, hR2⟩ => ?_
    refine (ts_bind hH2 hE2 hR2).mono fun z H3 ⟨i, c3, st3, l3, hH3, hE3, r3, hR3⟩ => ?_
    split at hR3
    · rename_i st4 q
      unfold dput at q
      split at q
      · rename_i n kvs k e1 e2
        obtain ⟨rfl, q0, vs, e0, h1, h2⟩ := dict_at hH3 (r2.mono l3) e1
        cases key_at r3 e2
        split at q
        · rename_i hz
          cases q
          refine ⟨_, _, e0, DPut.k h1 (by rw [szl, ← h2.length]; exact hz), ?_⟩
          exact ResS.go (D := D) hR3 (hH3.set q0 (fun z => nomatch z) ⟨_, rfl, h2.put k ((r1.mono l2).mono l3)⟩) hE3
        · cases q
      · cases q
    · exact hR3.elim

def fLenO : List U → Sto → Out U := fun us st => match us with
  | [.loc i] => match st[i]? with
    | some (.dK kvs) => .ok (.int kvs.length) st
    | some (.iset ks) => .ok (.int ks.length) st
    | _ => .bad
  | _ => .bad
def rLenO (w : World) : List V → Hp → VK → Prop := fun xs H Q => ∃ a, xs = [.ref a] ∧ ((∃ kvs : List (Key × V), H a = some (.dK kvs) ∧ Q (.int kvs.length) H) ∨ ∃ S n, H a = some (SetO w a S n) ∧ Q (.int n) H)
open PySem PyProof.Rows in
theorem call_lenO : CallR X (.builtin "len") (rLenO X.w) := by
  intro pins s σ H xs us Q I r h
  obtain ⟨a, rfl, h⟩ := h
  obtain ⟨u, rfl, rx⟩ := vals1 r
  cases rx
  rcases h with ⟨kvs, h1, q⟩ | ⟨S, n, h1, q⟩
  · exact d_len I (.inl h1) fun t s' I' => ⟨.int kvs.length, H, I', ⟨_, rfl⟩, q⟩
  · obtain ⟨o, es, ep, t, ho, hex, hd, _, _, hl, hf, hn⟩ := (setO_get I h1).setOf (P := X.prog)
    have hsz : (es.size : Int) < 2 ^ 63 := by
      have hl := hl
      have : scanBound = 4096 := rfl
      omega
    exact call_len_set ho hex hd hf hsz ⟨.int n, H, I.tok _, ⟨_, by rw [hn]⟩, q⟩
theorem sim_lenO : CallSim T (rLenO T.w) fLenO := fun Wx c σ st H us xs Q hH r hR => by
  unfold fLenO at hR
  split at hR
  · rename_i i
    obtain ⟨v, vs, rfl, r1, t⟩ := r.inv_cons
    cases t.inv_nil
    obtain ⟨_, rfl⟩ := r1.inv_loc
    split at hR
    · rename_i kvs q
      obtain ⟨vs, h1, h2⟩ := hH.at_dK q
      refine ⟨_, rfl, .inl ⟨vs, h1, ?_⟩⟩
      rw [← h2.length]
      exact hR.ret hH (.int _)
    · rename_i ks q
      obtain ⟨o, h1, h2, _⟩ := hH.act i _ q (fun z => nomatch z)
      have h2' : o = SetO T.w (c.ρ i) (fun k => decide (k ∈ ks)) ks.length := h2
      subst h2'
      exact ⟨_, rfl, .inr ⟨_, _, h1, hR.ret hH (.int _)⟩⟩
    · exact hR.elim
  · exact hR.elim

def isK (k : Nat) (u : U) (st : Sto) : Bool := match asIns u st with
  | some (k', _) => k' == k
  | none => false
def eMeth (k n : Nat) (mf : MF) (dus : List U) (mo : ME) (ma : MA) : ME := fun env st => (mo env st).bind fun o st1 => if isK k o st1 = true then (ma env st1).bind fun us st2 => if (o :: (us ++ dus)).length = n then mf (o :: (us ++ dus)) st2 else .bad else .bad
theorem isK_at {c : Cn} {st : Sto} {H : Hp} (h : RH T c st H) {k : Nat} {u : U} {v : V} (r : Rp T c u v) (e : isK k u st = true) : ∃ a dx vs, v = .ref a ∧ H a = some (.ins (T.cls k) dx ((T.fld k).zip vs)) := by
  unfold isK at e
  split at e
  · rename_i k' us q
    cases beq_iff_eq.mp e
    obtain ⟨a, dx, vs, h1, h2, _⟩ := asIns_at h r q
    exact ⟨a, dx, vs, h1, h2⟩
  · cases e
section
variable {kk k n : Nat} {f C : Addr} {fd : FuncData} {ps : List Str} {mf : MF} {dus : List U} {dvs : List V} {ds : List Value} {x mn : Str} {sp : Sp}
theorem RH.grow {c : Cn} {st : Sto} {H : Hp} (h : RH T c st H) {p : Addr} (hp : H p = none) (o : HO) : RH T c st (L2.upd H p o) := by
  refine ⟨h.n, fun a u e => ?_, fun i ob e d => ?_, h.inj, fun a u e => ⟨by rw [upd_ne (h.lk_new hp e)]; exact (h.lkd a u e).1, (h.lkd a u e).2⟩, fun q hq => (h.tab q hq).mono (fun _ _ z => z) (tbl_upd (.inl hp) ·), h.ntb⟩
  · rw [upd_ne (fun z => by rw [z, h.F_new hp] at e; cases e)]
    exact h.sub a u e
  · obtain ⟨x, h1, h2, h3⟩ := h.act i ob e d
    exact ⟨x, by rw [upd_ne (h.ne_new hp e d)]; exact h1, h2, h3⟩
def eMake (k n : Nat) (mf : MF) (dus : List U) (ma : MA) : ME := fun env st => (ma env st).bind fun us st1 => if (U.loc st1.length :: (us ++ dus)).length = n then (mf (.loc st1.length :: (us ++ dus)) (st1 ++ [.ins k []])).bind fun r st2 => match r with
  | .non => .ok (.loc st1.length) st2
  | _ => .bad else .bad
theorem run_makeSD {CX : CXT} {E : L2.St → XK} {pins : List (Addr × Obj)} {σ : L2.St} {H : Hp} {s : Shared} {Q : VK} {us : List Value} {vs : List V} (M : Mk X.K C f) (F : FnOk X.prog X.w X.K X.mg X.base CX kk f fd ps sp) (hr : Room (kk + 1) X.A) (hb : Binds X.K fd ps ds) (hd : Vals dvs ds)
    (hx : PassesAt CX X σ (E σ)) (I : Inv X pins σ H s) (r : Vals vs us)
    (h : ∀ x dx, H x = none → H dx = none → dx ≠ x → sp (.ref x :: (vs ++ dvs)) (L2.upd (L2.upd H dx (.own x)) x (.ins C dx [])) (fun v H2 => v = .non ∧ Q (.ref x) H2) (E σ)) :
    wpAny (model X.prog X.w) X.A (call (.ref C) us) (EP X pins σ Q) X.xe s := by
  have hq := h (s.heap.objs.size + 1) s.heap.objs.size (I.hok.fresh (Nat.le_succ _)) (I.hok.fresh (Nat.le_refl _)) (Nat.ne_of_lt (Nat.lt_succ_self _))
  have I2 := Inv.made (C := C) I
  have r2 : Vals (V.ref (s.heap.objs.size + 1) :: (vs ++ dvs)) (Value.ref (s.heap.objs.size + 1) :: (us ++ ds)) := .cons rfl (r.append hd)
  have hl : (Value.ref (s.heap.objs.size + 1) :: us ++ ds).length = ps.length := by
    have e := r2.length
    rw [F.len _ _ _ _ hq] at e
    exact e.symm
  refine wpAny_call (L2.make_map (f := f) I.kIn M.makes M.init (beq_iff_eq.mp M.fn) (codeAny_mono (F.run _ X.stack _ _ ⟨Value.ref (s.heap.objs.size + 1) :: us, []⟩ (Value.ref (s.heap.objs.size + 1) :: (us ++ ds)) _ _ (E σ) (hr.make C us [])
    (I2.env0.make C us []) (hb _ (Value.ref (s.heap.objs.size + 1) :: us) I2.kIn hl) r2 hq) fun r s' hq' => ?_))
  cases r with
  | error e => exact hx pins _ _ e s' I2 hq'
  | ok fl =>
    cases fl with
    | ret u =>
      obtain ⟨v, H', I3, rv, ev, q3⟩ := I2.after hq'
      subst ev
      exact ⟨rv, ⟨V.ref (s.heap.objs.size + 1), H', I3, rfl, q3⟩⟩
    | next => exact False.elim hq'
    | brk => exact False.elim hq'
    | cont => exact False.elim hq'
theorem pem_make (tk : Takes X Wx) (M : Mk X.K (T.cls k) f) (F : FnOk X.prog X.w X.K X.mg X.base (L2.CX X.prog X.w) kk f fd ps (spOf T n mf)) (hr : Room (kk + 1) X.A) (hg : Gl X x) (hm : X.mg x = some (.ref (T.cls k))) (hb : Binds X.K fd ps ds) (hd : Vals dvs ds) (hdr : ∀ c, RpL T c dus dvs)
    (ha : PAm X T P Wx (e :: es) mas) (hdb : (x == ("__debug__" : Str)) = false := by decide) (he : starEach (e :: es) X.env = (false, eval e X.env) :: starEach es X.env := by rfl) (hpl : (backTo pos (starEach es X.env)).any (·.1) = false := by rfl) :
    PEm X T P Wx (.Call (.Name x p) (e :: es) [] pos) (eMake k n mf dus mas) := by
  refine ⟨fun pins s σ H Q I ⟨c, env, st, hH, hE, hR⟩ => ?_⟩
  refine wpAny_Call_Name_kw (ld_glob I hg hm ?_ hdb)
  refine PySem.W.callWith_K (h₀ := X.base) I.ok.mod.kin M.kp (thn (ha.run pos pins s σ H _ I (tg_bind hH hE hR)) fun us s1 ⟨vs, H1, I1, r, us', c1, st1, l1, hH1, hE1, r1, hR1⟩ => ⟨I1.kIn, ?_⟩) he hpl
  split at hR1
  · rename_i hl
    refine run_makeSD (E := fun σ cls d H => Wx cls d σ H) M F hr hb hd (passAt tk σ) I1 r fun x dx nx nd ne => ?_
    have hH2 := hH1.grow nd (.own x)
    have nx2 : L2.upd H1 dx (.own x) x = none := by rw [upd_ne (Ne.symm ne)]; exact nx
    have hH3 := hH2.new nx2 (o := .ins k []) (x := .ins (T.cls k) dx []) ⟨dx, [], by simp, Nat.zero_le _, .nil⟩
    have l2 := le_new c1 x
    have hlt : st1.length < (c1.new x).n := by show _ < c1.n + 1; rw [hH1.n]; exact Nat.lt_succ_self _
    have ex : V.ref x = V.ref ((c1.new x).ρ st1.length) := by rw [← hH1.n, new_self]
    have r3 : RpL T (c1.new x) (.loc st1.length :: (us' ++ dus)) (.ref x :: (vs ++ dvs)) := .cons (by rw [ex]; exact .loc hlt) ((r1.mono l2).append (hdr _))
    refine ⟨by rw [← hl]; exact r3.length.symm, c1.new x, _, _, hH3, r3, ?_⟩
    cases q : mf (.loc st1.length :: (us' ++ dus)) (st1 ++ [.ins k []]) with
    | ok u st2 =>
      rw [q] at hR1
      intro c3 v H3 l3 hH4 r4
      cases u with
      | non =>
        cases r4.inv_non
        refine ⟨rfl, ?_⟩
        rw [ex, ← l3.ρ _ hlt]
        exact hR1 c3 _ H3 (l2.trans l3) hH4 (.loc (Nat.lt_of_lt_of_le hlt l3.n))
      | _ => exact hR1.elim
    | exc x2 st2 =>
      rw [q] at hR1
      exact fun c3 cls d H3 l3 hH4 e4 => hR1 c3 cls d H3 (l2.trans l3) hH4 e4
    | bad => rw [q] at hR1; exact hR1.elim
  · exact hR1.elim
end
end
end NK

namespace PySem
open AutoSeq1 (wpAny_loadPart')
theorem nk_enumerate_newT (l : Addr) (items : Array Value) (n : Nat) (dct : Option Addr) (sl : Array (Option Value)) :
    Meets (Builtin.«enumerate.__new__» ⟨[.type "enumerate", .ref l], []⟩) (fun _ R s => s.heap.get? l = some { cls := .type "tuple", dict := dct, data := .seq items n, slots := sl } ∧
      R (.ok (.ret (.ref (s.heap.push { cls := .type "tuple_iterator", data := .fields #[.ref l, .int 0 0] }).objs.size)))
        { s with heap := (s.heap.push { cls := .type "tuple_iterator", data := .fields #[.ref l, .int 0 0] }).push { cls := .type "enumerate", data := .fields #[.none, .bool false, .ref s.heap.objs.size, rawInt 0, .none, .none] } }) :=
  .of_wp fun prog w A R s h => by
    obtain ⟨hp, g, d, tk, os⟩ := s; obtain ⟨hl, h⟩ := h
    have hsub := sub_enumerate
    have hL : Heap.IsTuple (Shared.heap ⟨hp, g, d, tk, os⟩) l items := ⟨_, hl, rfl, n, rfl⟩
    wp_walk using wpAny_loadPart' hl
    refine wpAny_stack_any fun st => wpAny_pure ?_
    split
    · rename_i c _ _ _ _ _
      cases (c == Value.type "enumerate")
      · wp_walk using wpAny_loadPart' hl, wpAny_pyIter_tuple hL
        exact ⟨_, rfl, h⟩
      · wp_walk using wpAny_loadPart' hl, wpAny_pyIter_tuple hL
        exact ⟨_, rfl, h⟩
    · wp_walk using wpAny_loadPart' hl, wpAny_pyIter_tuple hL
      exact ⟨_, rfl, h⟩
section
variable {prog : Program} {w : World} {A : Around} {E : Value → Shared → Prop} {s : Shared}
theorem nk_call_enumerate_tuple {l : Addr} {items : Array Value} {Q : Value → Shared → Prop} (hL : s.heap.IsTuple l items)
    (h : ∀ h', IsEnum h' (s.heap.objs.size + 1) s.heap.objs.size 0 .none → h'.IsTupleIter s.heap.objs.size l 0 → h'.objs.size = s.heap.objs.size + 2 →
      (∀ b o, s.heap.get? b = some o → h'.get? b = some o) → Q (.ref (s.heap.objs.size + 1)) { s with heap := h' }) :
    wpAny (model prog w) A (call (.type "enumerate") [.ref l]) Q E s := by
  obtain ⟨⟨c, dct, dt, sl⟩, hl, hc, n, hd⟩ := hL
  replace hc : c = .type "tuple" := hc
  replace hd : dt = .seq items n := hd
  subst hc hd
  refine callType_new F.called_enumerate (by decide) (F.typeCall_enumerate_1 _) (F.newCall_enumerate_1 _) (fun obj => F.args_object_init_2 obj _) F.entry_enumerate_new
    (nk_enumerate_newT l items n dct sl) ⟨hl, ?_⟩
  have hz : (s.heap.push { cls := .type "tuple_iterator", data := .fields #[.ref l, .int 0 0] }).objs.size = s.heap.objs.size + 1 := Heap.size_push ..
  show _ ∧ _
  rw [hz]
  have he : IsEnum ((s.heap.push { cls := .type "tuple_iterator", data := .fields #[.ref l, .int 0 0] }).push
      { cls := .type "enumerate", data := .fields #[.none, .bool false, .ref s.heap.objs.size, rawInt 0, .none, .none] }) (s.heap.objs.size + 1) s.heap.objs.size 0 .none := by
    have := Heap.get?_push_size (s.heap.push { cls := .type "tuple_iterator", data := .fields #[.ref l, .int 0 0] })
      (o := { cls := .type "enumerate", data := .fields #[.none, .bool false, .ref s.heap.objs.size, rawInt 0, .none, .none] }) rfl
    rw [hz] at this; exact this
  refine ⟨⟨_, he, rfl⟩, h _ he ⟨_, Heap.get?_push_of_some _ (Heap.get?_push_size _ rfl), rfl, rfl⟩ (by rw [Heap.size_push, hz]) fun b o x => Heap.get?_push_of_some _ (Heap.get?_push_of_some _ x)⟩
end
end PySem
namespace NK
section
open PySem PySem.Spec PyProof.Rows L2
def IteT (K : PySem.W.Frag) (a : Addr) : It :=
  ⟨fun i H => ∃ (xs : List V) (x : V), SqT K H a xs ∧ xs[i]? = some x, fun i H v H' => ∃ T x, v = .ref T ∧ H T = none ∧ H' = L2.upd H T (.tup [.int (i : Nat), x]) ∧ ∀ xs, SqT K H a xs → xs[i]? = some x, fun i H => ∃ xs : List V, SqT K H a xs ∧ xs.length ≤ i⟩
theorem tup_inj {X : Cx} {pins : List (Addr × Obj)} {σ : L2.St} {H : Hp} {s : Shared} {a : Addr} {xs ys : List V} (I : Inv X pins σ H s) (h : SqT X.K H a xs) (g : SqT X.K H a ys) : xs = ys := by
  obtain ⟨its, r, t, _⟩ := I.tuple h
  obtain ⟨its', r', t', _⟩ := I.tuple g
  obtain ⟨o, h1, _, n, h2⟩ := t
  obtain ⟨o', h1', _, n', h2'⟩ := t'
  rw [h1] at h1'
  cases h1'
  rw [h2] at h2'
  have e : its = its' := by
    have := congrArg Array.toList (Data.seq.inj h2').1
    simpa using this
  subst e
  exact Vals.inj r r'
theorem turn_enumT {P : Program} {w : World} {K : PySem.W.Frag} {elts : List Expr} {kk : Nat} {tpos : Pos} (a e it : Addr) (hai : a ≠ it) (hae : a ≠ e) :
    Turn P w K (.Tuple elts kk tpos) (IteT K a) [e, it] e (fun i h => (∃ old, IsEnum h e it ((i : Nat) : Int) old) ∧ h.IsTupleIter it a i ∧ e ≠ it) where
  mem := by simp
  obj := fun i h st b hb => by
    obtain ⟨⟨old, he⟩, ⟨o, ho, hc, hd⟩, _⟩ := st
    have e' : b = e ∨ b = it := by simpa using hb
    rcases e' with z | z
    · rw [z]; exact ⟨_, he, fun v q => nomatch q⟩
    · rw [z]; exact ⟨o, ho, fun v q => by rw [hd] at q; cases q⟩
  keep := fun i h h' st k => let ⟨⟨old, he⟩, hi, hne⟩ := st; ⟨⟨old, k e (by simp) _ he⟩, hi.at fun o q => k it (by simp) o q, hne⟩
  item := by
    intro X hP hw hK hc i pins s σ H E I hf st hg
    subst hP hw hK
    obtain ⟨⟨old, he⟩, hit, hne⟩ := st
    obtain ⟨xs, x, hq, hx⟩ := hg
    obtain ⟨its, rv, p, hz⟩ := I.tuple hq
    obtain ⟨u, hu, ru⟩ := rv.get hx
    have hel : e < s.heap.objs.size := Heap.lt_size he
    have hil : it < s.heap.objs.size := by obtain ⟨_, q, _⟩ := hit; exact Heap.lt_size q
    have hlen : i < its.toArray.size := by
      have := (List.getElem?_eq_some_iff.mp hu).1
      simpa using this
    refine wpAny_pyNext_enum_itemD (Draws.tuple (A := X.A.in1) (I.ok.hd hc) it a hai its.toArray) he ⟨hit, p⟩ hlen hne (by simp [hne, Ne.symm hae]) fun x' h' tk hPx ho hs' hT hsz hk => ?_
    have ex : x' = u := by
      have hPx' : its.toArray[i]? = some x' := hPx
      have : its[i]? = some x' := by simpa using hPx'
      rw [hu] at this
      exact (Option.some.inj this).symm
    subst ex
    obtain ⟨hit', _⟩ := hs'
    refine ⟨_, rfl, wpAny_letOwnedTupleGo_enum (s := { s with heap := h', toks := tk + 1 }) ho fun h'' he' sb => ?_⟩
    have hT2 : h''.get? s.heap.objs.size = some { cls := .type "tuple", data := .seq #[.int i tk, x'] } := (sb.2 _ (Nat.ne_of_gt hel)).trans hT
    have new : ObjOk X.prog X.w (L2.upd H s.heap.objs.size (.tup [.int (i : Nat), x])) h'' s.heap.objs.size (.tup [.int (i : Nat), x]) :=
      ⟨by show 2 ≤ sizeLine; decide, [.int i tk, x'], .cons ⟨_, rfl⟩ (.cons ru .nil), ⟨_, hT2, rfl, _, rfl⟩⟩
    have I1 : Inv X pins σ (L2.upd H s.heap.objs.size (.tup [.int (i : Nat), x])) { s with heap := h'', toks := tk + 1 } :=
      I.turnedNew (ch := [e, it]) (fun b ob hb q => (sb.2 b (fun z => hb (by simp [z]))).trans (hk b ob (fun z => hb (by simp [z])) (fun z => hb (by simp [z])) q)) hf (Nat.le_refl _) new
    refine ⟨.ref s.heap.objs.size, _, I1, rfl, ⟨_, x, rfl, I.hok.fresh (Nat.le_refl _), rfl, fun ys hy => by rw [tup_inj I hy hq]; exact hx⟩, ⟨⟨x', ?_⟩, hit'.at fun o q => (sb.2 it (Ne.symm hne)).trans q, hne⟩, fun b hb => ?_⟩
    · have e1 : ((i + 1 : Nat) : Int) = (i : Int) + 1 := by omega
      rw [e1]; exact he'
    · have hb' : b < s.heap.objs.size := by
        have e' : b = e ∨ b = it := by simpa using hb
        rcases e' with z | z
        · rw [z]; exact hel
        · rw [z]; exact hil
      rw [upd_ne (Nat.ne_of_lt hb')]
      exact (hf b hb).1
  done := by
    intro X hP hw hK hc i pins s σ H E I hf st hg
    subst hP hw hK
    obtain ⟨⟨old, he⟩, hit, hne⟩ := st
    obtain ⟨xs, hq, hx⟩ := hg
    obtain ⟨its, rv, p, hz⟩ := I.tuple hq
    obtain ⟨f0, f1, f2, f3, f4, f5⟩ := hf it (by simp)
    have hl := rv.length
    have hTe : s.TypeIs (.ref e) "enumerate" := ⟨_, he, rfl⟩
    unfold pyNext
    refine wpAny_bind (wpAny_attempt (wpAny_callSpecial?_slot (name := Str.ofString "__next__") hTe PySem.F.slot_enumerate_next
      (wpAny_call_entry PySem.F.slot_enumerate_next hTe PySem.F.entry_enumerate_next ?_ (PySem.F.args_enumerate_next_1 _))))
    show wpAny _ _ (field (.ref e) 2 >>= _) _ _ _
    refine wpAny_bind (wpAny_field he rfl (x := .ref it) rfl ?_)
    refine wpAny_bind (wpAny_nextOf_tuple_end (A := X.A.in1) (I.ok.hd hc) hit p (by simp; omega) fun h' x he' hx' => ?_)
    obtain ⟨o, ho, hcx⟩ := hx'
    refine wpAny_bind (wpAny_isInstance (T := "StopIteration") (b := true) ⟨o, ho, hcx⟩ isSubtype_stop ?_)
    exact wpAny_pure ⟨rfl, I.turned (t' := s.toks) (fun b o hb q => he' b o hb q) f0 f1 f3 f4 f5⟩
  self := fun A i s Q E st h => let ⟨⟨_, he⟩, _⟩ := st; wpAny_pyIter_enum he h
def iEnumA2 (K : PySem.W.Frag) (ta : TA) : TI := fun σ H R => ta σ H fun vs H1 => ∃ a xs, vs = [.ref a] ∧ ((SqL K H1 a xs ∧ R (Ite K a) H1) ∨ (SqT K H1 a xs ∧ R (IteT K a) H1))
theorem pi_enumA {X : Cx} {e : Expr} {ta : TA} {p pos tpos : Pos} {elts : List Expr} {kk : Nat} (hg : Gl X "enumerate") (hm : X.mg "enumerate" = none) (ha : PA X [e] ta) (hs : starEach [e] X.env = [(false, eval e X.env)] := by rfl) :
    PI X (.Tuple elts kk tpos) (.Call (.Name "enumerate" p) [e] [] pos) (iEnumA2 X.K ta) := by
  refine ⟨fun pins s σ H R I h => ?_⟩
  refine Call_ (ld_blt I hg hm boot_enumerate (PyProof.Rows.callWith_type1 (thn (ha.run pos pins s σ H _ I h) fun us s1 ⟨vs, H1, I1, r1, q1⟩ => ?_) hs rfl))
  obtain ⟨a, xs, ex, hq⟩ := q1
  subst ex
  have fresh2 : ∀ b ∈ [s1.heap.objs.size + 1, s1.heap.objs.size], FpOk X pins H1 b := fun b hb => by
    have e' : b = s1.heap.objs.size + 1 ∨ b = s1.heap.objs.size := by simpa using hb
    have hle : s1.heap.objs.size ≤ b := by
      rcases e' with z | z
      · rw [z]; exact Nat.le_add_right _ _
      · rw [z]; exact Nat.le_refl _
    exact I1.fpOk hle (I1.hok.fresh hle)
  cases r1 with
  | cons r rr =>
    cases rr
    cases r
    rcases hq with ⟨hq, q⟩ | ⟨hq, q⟩
    · obtain ⟨its, rv, p', hz⟩ := I1.list hq
      refine call_enumerate_list p'.isList fun h' he hit hsz hk => wpAny_pyIter_enum he ?_
      have I2 : Inv X pins σ H1 { s1 with heap := h' } := I1.kept (t' := s1.toks) hk
      exact ⟨s1.heap.objs.size + 1, [s1.heap.objs.size + 1, s1.heap.objs.size], _, _, H1, rfl, I2, turn_enum a (s1.heap.objs.size + 1) s1.heap.objs.size, ⟨⟨.none, he⟩, hit, Nat.succ_ne_self _⟩, fresh2, q⟩
    · obtain ⟨its, rv, p', hz⟩ := I1.tuple hq
      have hal : a < s1.heap.objs.size := by obtain ⟨o, ho, _⟩ := p'; exact Heap.lt_size ho
      refine nk_call_enumerate_tuple p' fun h' he hit hsz hk => wpAny_pyIter_enum he ?_
      have I2 : Inv X pins σ H1 { s1 with heap := h' } := I1.kept (t' := s1.toks) hk
      exact ⟨s1.heap.objs.size + 1, [s1.heap.objs.size + 1, s1.heap.objs.size], _, _, H1, rfl, I2, turn_enumT a (s1.heap.objs.size + 1) s1.heap.objs.size (Nat.ne_of_lt hal) (Nat.ne_of_lt (Nat.lt_succ_of_lt hal)), ⟨⟨.none, he⟩, hit, Nat.succ_ne_self _⟩, fresh2, q⟩
end
section
open PySem L2
def iEnumA (ma : MA) : MI := fun env st => (ma env st).bind fun us st1 => match us with
  | [.tup us] => .ok ⟨enumFrom 0 us, fun _ => True⟩ st1
  | [.lst us] => .ok ⟨enumFrom 0 us, fun _ => True⟩ st1
  | [.scr us] => .ok ⟨enumFrom 0 us, fun _ => True⟩ st1
  | [.loc i] => match st1[i]? with
    | some (.lst us) => .ok ⟨enumFrom 0 us, fun s => s[i]? = some (Ob.lst us)⟩ st1
    | _ => .bad
  | _ => .bad
theorem walk_of_enumT {T : Tb} {c0 : Cn} {a : Addr} {us : List U} {g : Sto → Prop} (h : ∀ c st H, Le c0 c → RH T c st H → g st → ∃ vs, SqT T.K H a vs ∧ RpL T c us vs) : WalkM T c0 (IteT T.K a) (enumFrom 0 us) g := by
  refine ⟨fun H => ∃ vs, SqT T.K H a vs ∧ vs.length = us.length, fun i H v H' => ∃ t x, v = .ref t ∧ H t = none ∧ H' = L2.upd H t (.tup [.int (i : Nat), x]) ∧ ∀ xs, SqT T.K H a xs → xs[i]? = some x, ⟨fun i H hi ⟨vs, h1, h2⟩ => ?_, fun H ⟨vs, h1, h2⟩ => ⟨vs, h1, ?_⟩, fun i H x H' hi _ y => y⟩, fun c st H l hH hg => ?_⟩
  · have hi' : i < vs.length := by rw [h2, ← enum_len 0 us]; exact hi
    exact ⟨vs, vs[i], h1, by simp [hi']⟩
  · rw [enum_len, h2]; exact Nat.le_refl _
  · obtain ⟨vs, h1, r⟩ := h c st H l hH hg
    refine ⟨⟨vs, h1, r.length.symm⟩, fun i x H' hi y => ?_⟩
    obtain ⟨t, z, rfl, ht, rfl, hx⟩ := y
    obtain ⟨u, hu, ru⟩ := r.getV (hx vs h1)
    obtain ⟨n1, n2, n3⟩ := new_pair hH (.int (i : Int)) ru ht
    refine ⟨_, _, enum_get 0 us i u hu, n1, n2, ?_⟩
    rw [Nat.zero_add]
    exact n3
theorem pim_enumA {X : Cx} {T : Tb} {P : Pin} {Wx : WX} {e : Expr} {ma : MA} {p pos tpos : Pos} {elts : List Expr} {kk : Nat} (hK : X.K = T.K) (hg : Gl X "enumerate") (hm : X.mg "enumerate" = none) (ha : PAm X T P Wx [e] ma) (hs : starEach [e] X.env = [(false, eval e X.env)] := by rfl) :
    PIm X T P Wx (.Tuple elts kk tpos) (.Call (.Name "enumerate" p) [e] [] pos) (iEnumA ma) := by
  refine PI.imp (pi_enumA hg hm ha hs) fun σ H R ⟨c, env, st, hH, hE, hR⟩ => ?_
  refine (tg_bind hH hE hR).mono fun vs H1 ⟨us, c1, st1, l1, hH1, hE1, r1, hR1⟩ => ?_
  split at hR1
  · rename_i us'
    obtain ⟨v, vs', rfl, r, t⟩ := r1.inv_cons
    cases t.inv_nil
    obtain ⟨a, ws, rfl, h1, r2⟩ := r.inv_tup
    refine ⟨a, ws, rfl, .inr ⟨by rw [hK]; exact sqT_up hH1 h1, ?_⟩⟩
    rw [hK]
    exact ResG.ret hR1 hH1 (walk_of_enumT fun c2 st2 H2 l2 hH2 _ => ⟨ws, sqT_up hH2 (sqT_mono l2.F h1), r2.mono l2⟩)
  · rename_i us'
    obtain ⟨v, vs', rfl, r, t⟩ := r1.inv_cons
    cases t.inv_nil
    obtain ⟨a, ws, rfl, h1, r2⟩ := r.inv_lst
    refine ⟨a, ws, rfl, .inl ⟨by rw [hK]; exact SqL.of (hH1.sub _ _ h1), ?_⟩⟩
    rw [hK]
    exact ResG.ret hR1 hH1 (walk_of_enum fun c2 st2 H2 l2 hH2 _ => ⟨ws, SqL.of (hH2.sub _ _ (l2.F _ _ h1)), r2.mono l2⟩)
  · rename_i us'
    obtain ⟨v, vs', rfl, r, t⟩ := r1.inv_cons
    cases t.inv_nil
    obtain ⟨a, ws, rfl, h1, r2⟩ := r.inv_scr
    refine ⟨a, ws, rfl, .inl ⟨by rw [hK]; exact sqL_up hH1 h1, ?_⟩⟩
    rw [hK]
    exact ResG.ret hR1 hH1 (walk_of_enum fun c2 st2 H2 l2 hH2 _ => ⟨ws, sqL_up hH2 (sqL_mono l2.F h1), r2.mono l2⟩)
  · rename_i i
    obtain ⟨v, vs', rfl, r, t⟩ := r1.inv_cons
    cases t.inv_nil
    obtain ⟨hi, rfl⟩ := r.inv_loc
    split at hR1
    · rename_i us' es
      obtain ⟨ws, h1, r2⟩ := hH1.at_lst es
      refine ⟨_, ws, rfl, .inl ⟨by rw [hK]; exact SqL.of h1, ?_⟩⟩
      rw [hK]
      refine ResG.ret hR1 hH1 (walk_of_enum fun c2 st2 H2 l2 hH2 hg' => ?_)
      obtain ⟨ws', h2, r3⟩ := hH2.at_lst hg'
      rw [l2.ρ i hi] at h2
      exact ⟨ws', SqL.of h2, r3⟩
    · exact hR1.elim
  · exact hR1.elim
end
end NK

namespace NK
open PySem L2

section
variable {X : Cx} {T : Tb} {P : Pin} {Wx : WX}
end

inductive Tr where
  | b (t : Ty)
  | o (k : Nat)
  deriving DecidableEq
def Tr.v (T : Tb) : Tr → Value
  | .b t => .type t.name
  | .o k => .ref (T.cls k)
def Tr.x (T : Tb) : Tr → V
  | .b t => .ty t.name
  | .o k => .ref (T.cls k)
def trOf (u : U) (st : Sto) : Option Tr := match u with
  | .non => some (.b .none)
  | .bl _ => some (.b .bool)
  | .int _ => some (.b .int)
  | .str _ => some (.b .str)
  | .tup _ => some (.b .tuple)
  | .lst _ => some (.b .list)
  | .scr _ => some (.b .list)
  | .ins k _ => some (.o k)
  | .loc i => match st[i]? with
    | some (.lst _) => some (.b .list)
    | some (.dK _) => some (.b .dict)
    | some (.ins k _) => some (.o k)
    | _ => none
  | _ => none
def isiB : Ty → Ty → Option Bool
  | _, .none => none
  | .bool, .int => some true
  | a, b => some (a == b)
theorem isiB_ok {K : PySem.W.Frag} {a b : Ty} {r : Bool} (h : isiB a b = some r) : PySem.W.kitOne K (.type a.name) (.type b.name) = some r := by
  refine kit_ty ?_
  cases a <;> cases b <;> first | (cases h; decide +kernel) | cases h
abbrev IsL := List ((Tr × Tr) × Bool)
def isOne (l : IsL) (t c : Tr) : Option Bool := match t, c with
  | .b x, .b y => isiB x y
  | t, c => l.lookup (t, c)
def isAny (l : IsL) (t : Tr) : List Tr → Option Bool
  | [] => some false
  | c :: r => match isOne l t c with
    | some true => some true
    | some false => isAny l t r
    | none => none
structure InsC (T : Tb) (k : Nat) : Prop where
  cl : Cls T.K (T.cls k)
  ha : PySem.W.findIn T.K (.ref (T.cls k)) "__class__" = some (some (.builtin "object.__class__"))
  hn : PySem.W.specialIn T.K (.builtin "object.__class__") "__get__" = some (some (.builtin "getset_descriptor.__get__"))
  ht : PySem.W.takesIn T.K (.builtin "object.__class__") = some true
  hm : PySem.W.mroIn T.K (T.cls k) (.type "object") = some true
def TrOk (T : Tb) : Tr → Prop
  | .b _ => True
  | .o k => InsC T k
def IsOk (T : Tb) (l : IsL) : Prop := ∀ p ∈ l, TrOk T p.1.1 ∧ PySem.W.kitOne T.K (p.1.1.v T) (p.1.2.v T) = some p.2
theorem mem_lookup {l : IsL} {k : Tr × Tr} {b : Bool} : l.lookup k = some b → (k, b) ∈ l := by
  induction l with
  | nil => intro h; cases h
  | cons a l ih =>
    intro h
    obtain ⟨y, v⟩ := a
    simp only [List.lookup] at h
    split at h
    · rename_i hh
      cases h
      rw [beq_iff_eq] at hh
      subst hh
      exact List.mem_cons_self
    · exact List.mem_cons_of_mem _ (ih h)
theorem isOne_ok {T : Tb} {l : IsL} (h : IsOk T l) {t c : Tr} {b : Bool} (e : isOne l t c = some b) : TrOk T t ∧ PySem.W.kitOne T.K (t.v T) (c.v T) = some b := by
  unfold isOne at e
  split at e
  · exact ⟨True.intro, isiB_ok e⟩
  · exact h _ (mem_lookup e)
theorem isAny_ok {T : Tb} {l : IsL} (h : IsOk T l) {t : Tr} : ∀ {cs : List Tr} {b : Bool}, cs ≠ [] → isAny l t cs = some b → TrOk T t ∧ PySem.W.kitAny T.K (t.v T) (cs.map (·.v T)) = some b
  | [], _, n, _ => absurd rfl n
  | c :: r, b, _, e => by
    unfold isAny at e
    cases q : isOne l t c with
    | none => rw [q] at e; cases e
    | some b1 =>
      obtain ⟨h1, h2⟩ := isOne_ok h q
      refine ⟨h1, kitAny_cons h2 (fun hb => ?_) fun hb => ?_⟩
      · subst hb
        rw [q] at e
        cases r with
        | nil => cases e; exact kitAny_nil
        | cons d r => exact (isAny_ok h (cs := d :: r) (by simp) e).2
      · subst hb
        rw [q] at e
        exact (Option.some.inj e).symm
section
variable {X : Cx} {T : Tb} {P : Pin} {Wx : WX} {e ce : Expr} {es : List Expr} {me : ME} {p pos p2 : Pos}
theorem tr_at {c : Cn} {st : Sto} {H : Hp} (h : RH T c st H) {u : U} {v : V} {t : Tr} (r : Rp T c u v) (e : trOf u st = some t) (ok : TrOk T t) : TyX T.K H v (t.v T) := by
  have lst : ∀ {a : Addr} {vs : List V}, SqL T.K H a vs → TyX T.K H (.ref a) (.type "list") := fun {a vs} q => by
    rcases q with (q | ⟨o, q⟩) | q
    · exact .base (.lst q)
    · exact .base (.frz q)
    · obtain ⟨o, _, _, q1, q2, _⟩ := q
      exact .kList q1 q2
  have tup : ∀ {a : Addr} {vs : List V}, SqT T.K H a vs → TyX T.K H (.ref a) (.type "tuple") := fun {a vs} q => by
    rcases q with (q | ⟨o, q⟩) | q
    · exact .base (.tup q)
    · exact .fTuple q
    · obtain ⟨o, _, _, q1, q2, _⟩ := q
      exact .kTuple q1 q2
  cases u with
  | non => cases r; cases e; exact .base .non
  | bl b => cases r; cases e; exact .base (.bl b)
  | int b => cases r; cases e; exact .base (.int b)
  | str b => cases r; cases e; exact .base (.str b)
  | tup us => obtain ⟨a, vs, rfl, h1, _⟩ := r.inv_tup; cases e; exact tup (sqT_up h h1)
  | lst us => obtain ⟨a, vs, rfl, h1, _⟩ := r.inv_lst; cases e; exact .base (.lst (h.sub _ _ h1))
  | scr us => obtain ⟨a, vs, rfl, h1, _⟩ := r.inv_scr; cases e; exact lst (sqL_up h h1)
  | ins k us =>
    obtain ⟨a, dx, vs, rfl, h1, _⟩ := r.inv_ins
    cases e
    exact .base (.ins (h.sub _ _ h1) ok.cl ok.ha ok.hn ok.ht ok.hm)
  | loc i =>
    obtain ⟨_, rfl⟩ := r.inv_loc
    dsimp only [trOf] at e
    split at e
    · rename_i us q
      cases e
      obtain ⟨vs, h1, _⟩ := h.at_lst q
      exact .base (.lst h1)
    · rename_i us q
      cases e
      obtain ⟨vs, h1, _⟩ := h.at_dK q
      exact .base (.dK h1)
    · rename_i k us q
      cases e
      obtain ⟨dx, vs, h1, _⟩ := h.at_ins q
      exact .base (.ins h1 ok.cl ok.ha ok.hn ok.ht ok.hm)
    · cases e
  | _ => cases e
def eIsi (l : IsL) (cs : List Tr) (me : ME) : ME := fun env st => (me env st).bind fun u st1 => match trOf u st1 with
  | some t => match isAny l t cs with
    | some b => .ok (.bl b) st1
    | none => .bad
  | none => .bad
theorem clsV (t : Tr) : ClsV (t.x T) (t.v T) := by
  cases t with
  | b t => exact .ty _
  | o k => exact .own _
theorem pem_isi1 {l : IsL} {c : Tr} (ok : IsOk T l) (hK : X.K = T.K) (hg : Gl X "isinstance") (hm : X.mg "isinstance" = none) (he : PEm X T P Wx e me) (hc : PE X ce (tC (c.x T)))
    (hs : starEach [e, ce] X.env = (false, eval e X.env) :: starEach [ce] X.env := by rfl) (hs2 : starEach [ce] X.env = (false, eval ce X.env) :: starEach [] X.env := by rfl) (hpl : (backTo pos (starEach [ce] X.env)).any (·.1) = false := by rfl) :
    PEm X T P Wx (.Call (.Name "isinstance" p) [e, ce] [] pos) (eIsi l [c] me) :=
  PE.imp (pe_callB call_isi hg hm PyProof.Rows.Boot.«isinstance» (pa_cons he (pa_cons hc pa_nil hs2) hs) (by decide) (by decide) hs hpl) fun σ H Q ⟨cn, env, st, hH, hE, hR⟩ => by
    refine (tg_bind hH hE hR).mono fun x H1 ⟨u, c1, st1, l1, hH1, hE1, r1, hR1⟩ => ?_
    split at hR1
    · rename_i t e1
      split at hR1
      · rename_i b e2
        have e3 : isOne l t c = some b := by
          unfold isAny at e2
          split at e2
          · rename_i q; rw [q]; exact e2
          · rename_i q; rw [q]; exact e2
          · cases e2
        obtain ⟨h1, h2⟩ := isOne_ok ok e3
        refine ⟨x, c.x T, t.v T, c.v T, b, rfl, clsV c, ?_, ?_, hR1.ret hH1 (.bl b)⟩
        · rw [hK]; exact tr_at hH1 r1 e1 h1
        · rw [hK]; exact h2
      · exact hR1.elim
    · exact hR1.elim
theorem clsVs : ∀ cs : List Tr, Paired ClsV (cs.map (·.x T)) (cs.map (·.v T))
  | [] => .nil
  | c :: r => .cons (clsV c) (clsVs r)
def tTrs (T : Tb) : List Tr → TA
  | [] => tNil
  | c :: r => tCons (tC (c.x T)) (tTrs T r)
theorem trs_run (cs : List Tr) (σ : L2.St) (H : Hp) (Q : List V → Hp → Prop) (h : Q (cs.map (·.x T)) H) : tTrs T cs σ H Q := by
  induction cs generalizing Q with
  | nil => exact h
  | cons c r ih => exact ih _ h
theorem pem_isiT {l : IsL} {cs : List Tr} {x1} (ok : IsOk T l) (hK : X.K = T.K) (hg : Gl X "isinstance") (hm : X.mg "isinstance" = none) (he : PEm X T P Wx e me) (hc : PA X es (tTrs T cs)) (hne : cs ≠ []) (hsz : cs.length ≤ 1000)
    (hs : starEach [e, .Tuple es x1 p2] X.env = (false, eval e X.env) :: starEach [.Tuple es x1 p2] X.env := by rfl) (hs2 : starEach [.Tuple es x1 p2] X.env = (false, eval (.Tuple es x1 p2) X.env) :: starEach [] X.env := by rfl) (hpl : (backTo pos (starEach [.Tuple es x1 p2] X.env)).any (·.1) = false := by rfl) :
    PEm X T P Wx (.Call (.Name "isinstance" p) [e, .Tuple es x1 p2] [] pos) (eIsi l cs me) :=
  PE.imp (pe_callB call_isiT hg hm PyProof.Rows.Boot.«isinstance» (pa_cons he (pa_cons (pe_tup hc) pa_nil hs2) hs) (by decide) (by decide) hs hpl) fun σ H Q ⟨cn, env, st, hH, hE, hR⟩ => by
    refine (tg_bind hH hE hR).mono fun x H1 ⟨u, c1, st1, l1, hH1, hE1, r1, hR1⟩ => ?_
    refine trs_run cs σ H1 _ ⟨by rw [List.length_map, sizeLine_eq]; omega, fun tp htp => ?_⟩
    split at hR1
    · rename_i t e1
      split at hR1
      · rename_i b e2
        obtain ⟨h1, h2⟩ := isAny_ok ok hne e2
        have l2 := le_still hH1 htp (.tup (cs.map (·.x T)))
        have hH2 := hH1.still htp (.tup (cs.map (·.x T)))
        refine ⟨x, tp, cs.map (·.x T), t.v T, cs.map (·.v T), b, rfl, upd_same, ?_, ?_, ?_, hR1 _ _ _ l2 hH2 (.bl b)⟩
        · exact clsVs cs
        · rw [hK]; exact tr_at hH2 (r1.mono l2) e1 h1
        · rw [hK]; exact h2
      · exact hR1.elim
    · exact hR1.elim

def rOwn (K : PySem.W.Frag) (C : Addr) (sp : Sp) : R2 := fun x y H Q => ∃ a dx fs t, x = .ref a ∧ H a = some (.ins C dx fs) ∧ TyX K H y t ∧ PySem.W.notFirst K C t = true ∧ sp [x, y] H (fun v H' => ∃ b, v = .bl b ∧ Q (.bl b) H') (fun _ _ _ => False)
theorem op_own {CX : CXT} {C f : Addr} {kk : Nat} {fd : FuncData} {ps : List Str} {sp : Sp} (F : FnOk X.prog X.w X.K X.mg X.base CX kk f fd ps sp) (hr : Room kk X.A)
    (hs : PySem.W.findIn X.K (.ref C) "__eq__" = some (some (.ref f))) (hf : PySem.W.isFn X.K (.ref f) = true) (hb : Binds X.K fd ps []) (hx : Passes CX X (fun _ _ _ => False)) : OpR X (compareOp .Eq) (rOwn X.K C sp) := by
  intro pins s σ H x y v u Q I rx ry hq
  obtain ⟨a, dx, fs, t, rfl, ha, ty, nf, hsp⟩ := hq
  cases rx
  show wpAny (model X.prog X.w) X.A (richCompare .Eq (.ref a) u) (EP X pins σ Q) X.xe s
  obtain ⟨mA, J, _⟩ := ins_get I.hok ha
  obtain ⟨od, J, _⟩ := J.look
  obtain ⟨m, hF⟩ := I.fr
  obtain ⟨PP, Z, pz, _⟩ := kit_of I ry ty
  refine PySem.W.cmp_K (op := .Eq) (tb := t) hr.units0 hF I.ok.mod.kin J (Z.ty _ _ I.kIn pz) nf hs hf ?_
  have r2 : Vals [V.ref a, y] [Value.ref a, u] := .cons rfl (.cons ry .nil)
  have hl := F.len _ _ _ _ hsp
  refine wpAny_call (codeAny_mono (F.run X.A X.stack s H ⟨[.ref a, u], []⟩ [.ref a, u] [.ref a, y] _ _ hr I.env0 (by
    have := hb s [.ref a, u] I.kIn (by simpa using hl)
    simpa using this) r2 hsp) fun r s' hq => ?_)
  cases r with
  | error e => exact hx pins σ H s e s' I hq
  | ok fl =>
    cases fl with
    | ret w =>
      obtain ⟨z, H', I', rz, b, ez, q⟩ := I.after hq
      subst ez
      cases rz
      exact ⟨.bl b, H', I', rfl, q⟩
    | next => exact False.elim hq
    | brk => exact False.elim hq
    | cont => exact False.elim hq
def fEqO (k : Nat) (nf : List Tr) (mf : MF) : U → U → Sto → Out U := fun u w st => if isK k u st = true then (match trOf w st with
  | some t => if t ∈ nf then (match mf [u, w] st with
    | .ok (.bl b) st' => .ok (.bl b) st'
    | _ => .bad) else .bad
  | none => .bad) else .bad
theorem sim_own {k : Nat} {nf : List Tr} {mf : MF} (hnf : ∀ t ∈ nf, TrOk T t ∧ PySem.W.notFirst T.K (T.cls k) (t.v T) = true) : OpSim T (rOwn T.K (T.cls k) (spOf T 2 mf)) (fEqO k nf mf) := fun Wx c σ st H u w x y Q hH r1 r2 hR => by
  unfold fEqO at hR
  split at hR
  · rename_i hk
    obtain ⟨a, dx, vs, rfl, h1⟩ := isK_at hH r1 hk
    split at hR
    · rename_i t et
      split at hR
      · rename_i hm
        obtain ⟨k1, k2⟩ := hnf t hm
        refine ⟨a, dx, _, t.v T, rfl, h1, tr_at hH r2 et k1, k2, rfl, c, [u, w], st, hH, .cons r1 (.cons r2 .nil), ?_⟩
        split at hR
        · rename_i b st' q
          rw [q]
          intro c' v H' l hH' rv
          cases rv.inv_bl
          exact ⟨b, rfl, hR c' _ H' l hH' (.bl b)⟩
        · exact hR.elim
      · exact hR.elim
    · exact hR.elim
  · exact hR.elim

def cutU (us : List U) (lo hi : Option Int) : List U := (us.drop (HT.sIx us.length 0 lo)).take (HT.sIx us.length us.length hi - HT.sIx us.length 0 lo)
def eSl (m : ME) (lo hi : Option ME) : ME := fun env st => (m env st).bind fun x st1 =>
  ((match lo with | none => Out.ok none st1 | some f => (f env st1).bind fun i s => match i with | .int k => .ok (some k) s | _ => .bad) : Out (Option Int)).bind fun l st2 =>
  ((match hi with | none => Out.ok none st2 | some f => (f env st2).bind fun i s => match i with | .int k => .ok (some k) s | _ => .bad) : Out (Option Int)).bind fun h st3 =>
  match lsts x st3 with
  | some us => .ok (.loc st3.length) (st3 ++ [.lst (cutU us l h)])
  | none => .bad
where lsts (u : U) (st : Sto) : Option (List U) := match u with
  | .lst us => some us
  | .scr us => some us
  | .loc i => match st[i]? with
    | some (.lst us) => some us
    | _ => none
  | _ => none
end
end NK

namespace NK
open PySem L2
theorem bt_len : bootBuiltins "len" = some (.builtin "len") := by decide +kernel
theorem bt_abs : bootBuiltins "abs" = some (.builtin "abs") := by decide +kernel
theorem bt_int : bootBuiltins "int" = some (.type "int") := by decide +kernel
theorem bt_bool : bootBuiltins "bool" = some (.type "bool") := by decide +kernel
theorem bt_list : bootBuiltins "list" = some (.type "list") := by decide +kernel
theorem bt_tuple : bootBuiltins "tuple" = some (.type "tuple") := by decide +kernel
theorem gr_name {T : Tb} {P : Pin} {i : Nat} (hp : pinned P i = false) (v : V) (σ : L2.St) (H : Hp) (Q : L2.St → Hp → Prop) (h : tgtOf T P (gN i) v σ H Q) : gName i v σ H Q := by
  obtain ⟨c, env, st, u, env', hH, hE, r, e, k⟩ := h
  cases e
  exact k _ (hE.set r i hp)
section
variable {P : Program} {w : World} {K : PySem.W.Frag} {mg : Str → Option Value} {base : Heap} {T : Tb} {x qual : Str} {params : Arguments} {body : List Stmt} {scope : Scope} {dvs : List V} {kws : List (Str × V)} {f : Addr} {fd : FuncData} {N ps : List Str} {k : Nat} {mb : MS}
open PyProof.Rows (envOfC) in
theorem fund_okm (F : FunD K x qual params body scope dvs kws f fd) (S : FnScope N ps scope)
    (hb : ∀ (cdv : Value) (A : Around) (outer : List PySem.Env) (s : Shared) (H : Hp) (E : XK), Room k (A.deeper (envOfC qual scope s.heap.objs.size f cdv)) →
      PSsm (cxOf (L2.CX P w) P w K mg base N qual scope f cdv A outer s H E) T none (fun cls d _ H => E cls d H) body mb) : FnOk P w K mg base (L2.CX P w) (k + 1) f fd ps (spOf T ps.length (fScope (runF N.length mb))) := by
  refine (F.ok S (fun vs H Q E h => h.1) (fun cdv A outer s H vs Q E hr h => ⟨_, hb cdv A outer s H E hr, ?_⟩) : FnOk P w K mg base (L2.CX P w) (k + 1) f fd ps (spOf T ps.length (runF N.length mb))).imp spOf_scope
  obtain ⟨hl, c, us, st0, hH, r, hR⟩ := h
  refine ⟨c, _, st0, hH, start_RE r, ?_⟩
  unfold runF at hR
  cases q : mb (us.map some ++ List.replicate (N.length - us.length) none) st0 with
  | ret u st' => rw [q] at hR; exact fun c' v H' a b d => hR c' v H' a b d
  | next env st' => rw [q] at hR; exact fun c' σ' H' a b d => hR c' .non H' a b .non
  | exc x' env st' => rw [q] at hR; exact fun c' cls d σ' H' a b _ e => hR c' cls d H' a b e
  | brk env st' => rw [q] at hR; exact hR.elim
  | cont env st' => rw [q] at hR; exact hR.elim
  | bad => rw [q] at hR; exact hR.elim
open PyProof.Rows (envOfC) in
theorem fund_okl (F : FunD K x qual params body scope dvs kws f fd) (S : FnScope N ps scope)
    (hb : ∀ (cdv : Value) (A : Around) (outer : List PySem.Env) (s : Shared) (H : Hp) (E : XK), Room k (A.deeper (envOfC qual scope s.heap.objs.size f cdv)) →
      PSsm (cxOf (L2.CX P w) P w K mg base N qual scope f cdv A outer s H E) T none (fun cls d _ H => E cls d H) body mb) : FnOk P w K mg base (L2.CX P w) (k + 1) f fd ps (spOf T ps.length (runF N.length mb)) := by
  refine F.ok S (fun vs H Q E h => h.1) (fun cdv A outer s H vs Q E hr h => ⟨_, hb cdv A outer s H E hr, ?_⟩)
  obtain ⟨hl, c, us, st0, hH, r, hR⟩ := h
  refine ⟨c, _, st0, hH, start_RE r, ?_⟩
  unfold runF at hR
  cases q : mb (us.map some ++ List.replicate (N.length - us.length) none) st0 with
  | ret u st' => rw [q] at hR; exact fun c' v H' a b d => hR c' v H' a b d
  | next env st' => rw [q] at hR; exact fun c' σ' H' a b d => hR c' .non H' a b .non
  | exc x' env st' => rw [q] at hR; exact fun c' cls d σ' H' a b _ e => hR c' cls d H' a b e
  | brk env st' => rw [q] at hR; exact hR.elim
  | cont env st' => rw [q] at hR; exact hR.elim
  | bad => rw [q] at hR; exact hR.elim
end
def sPar (i j : Nat) (ma : MA) : MS := fun env st => (ma env st).st env fun us st1 => match us with
  | [u, w] => .next ((env.set i (some u)).set j (some w)) st1
  | _ => .bad
theorem psm_par {X : Cx} {T : Tb} {P : Pin} {Wx : WX} {i j : Nat} {x y : Str} {a b : Expr} {ma : MA} {px py pt pos : Pos} {kt k2 pt2} (hc : X.calm = true) (hN : X.N.Nodup) (hi : X.N[i]? = some x) (hj : X.N[j]? = some y) (hij : i ≠ j)
    (hx : X.env.scope.names.lookup x = some .local) (hy : X.env.scope.names.lookup y = some .local) (ha : PAm X T P Wx [a, b] ma)
    (hw : swappedStores [.Tuple [.Name x px, .Name y py] kt pt] (.Tuple [a, b] k2 pt2) X.env = pure (some [x, y])) (hpi : pinned P i = false := by rfl) (hpj : pinned P j = false := by rfl)
    (hs : swapsWithSole [.Tuple [.Name x px, .Name y py] kt pt] (.Tuple [a, b] k2 pt2) pos.line X.env = pure false := by rfl) :
    PSm X T P Wx (.Assign [.Tuple [.Name x px, .Name y py] kt pt] (.Tuple [a, b] k2 pt2) pos) (sPar i j ma) :=
  PS.imp (ps_par hc hN hi hj hij hx hy ha hw hs) fun D σ H ⟨c, env, st, hH, hE, hR⟩ => by
    refine (ts_bind hH hE hR).mono fun vs H1 ⟨us, c1, st1, l1, hH1, hE1, r1, hR1⟩ => ?_
    split at hR1
    · rename_i u w
      obtain ⟨v, vs', rfl, r2, t⟩ := r1.inv_cons
      obtain ⟨v2, vs2, rfl, r3, t2⟩ := t.inv_cons
      cases t2.inv_nil
      exact ⟨v, v2, rfl, ResS.go (D := D) hR1 hH1 ((hE1.set r2 i hpi).set r3 j hpj)⟩
    · exact hR1.elim
theorem cx_false {P : Program} {w : World} {outer : List PySem.Env} {H : Hp} {s : Shared} {e : Value} {s' : Shared} (h : L2.CX P w outer H s (fun _ _ _ => False) e s') : False := by
  obtain ⟨_, _, _, _, _, _, _, _, _, _, _, _, z⟩ := h
  exact z
theorem rpl_ints {T : Tb} {c : Cn} : ∀ ns : List Int, RpL T c (ns.map U.int) (ns.map V.int)
  | [] => .nil
  | n :: ns => .cons (.int n) (rpl_ints ns)
def begF (H : Hp) (a : Addr) : Hp := fun b => if b = a then (match H a with
  | some o => if isTbl o = true then none else some o
  | none => none) else none
theorem begF_in {H : Hp} {a b : Addr} {o : HO} (e : begF H a b = some o) : b = a ∧ H a = some o ∧ isTbl o = false := by
  unfold begF at e
  split at e
  · rename_i hb
    split at e
    · rename_i u hu
      split at e
      · cases e
      · rename_i k
        cases e
        exact ⟨hb, hu, by simpa using k⟩
    · cases e
  · cases e
theorem begF_at {H : Hp} {a : Addr} {o : HO} (e : H a = some o) (k : isTbl o = false) : begF H a a = some o := by
  unfold begF
  rw [if_pos rfl, e]
  simp [k]
theorem beg_sq {K : PySem.W.Frag} {H : Hp} {a : Addr} {vs : List V} (h : SqL K H a vs) : SqL K (begF H a) a vs := by
  rcases h with h | h
  · rcases h with h | ⟨o, h⟩
    · exact .inl (.inl (begF_at h rfl))
    · exact .inl (.inr ⟨o, begF_at h rfl⟩)
  · exact .inr h
theorem beg_rh {T : Tb} {H : Hp} {a : Addr} (ht : ∀ p ∈ T.tabs, H p.1 = some (.tbl #[])) : RH T ⟨fun _ => 0, 0, begF H a, fun _ => none⟩ [] H where
  n := rfl
  sub := fun b o q => by
    obtain ⟨h1, h2, _⟩ := begF_in q
    rw [h1]
    exact h2
  act := fun i o q => by simp at q
  inj := fun i j x y q => by simp at q
  lkd := fun b o q => by cases q
  tab := fun p hp => ⟨#[], ht p hp, True.intro, fun z v e => by
    have e : codeAmong z [] = some v := e
    simp [codeAmong] at e⟩
  ntb := fun b o q => (begF_in q).2.2
end NK

set_option maxHeartbeats 1000000
namespace NK
open PySem L2

section
variable {α β : Type} {a : α} {s : Sto} {x : Ex} {env : Env}
theorem ob {f : α → Sto → Out β} : (Out.ok a s).bind f = f a s := rfl
theorem xb {f : α → Sto → Out β} : (Out.exc x s : Out α).bind f = .exc x s := rfl
theorem os {k : α → Sto → SO} : (Out.ok a s).st env k = k a s := rfl
theorem xs {k : α → Sto → SO} : (Out.exc x s : Out α).st env k = .exc x env s := rfl
theorem nb {k : MS} : (SO.next env s).bind k = k env s := rfl
theorem rb {k : MS} {u : U} : (SO.ret u s).bind k = .ret u s := rfl
theorem kb {k : MS} : (SO.cont env s).bind k = .cont env s := rfl
theorem eb {k : MS} : (SO.exc x env s).bind k = .exc x env s := rfl
end

def Old (st st2 : Sto) : Prop := st2.length = st.length ∧ ∀ i, i < st.length → st2[i]? = st[i]? ∨ ∃ o, st2[i]? = some o ∧ o.under 0 = true
theorem Old.refl (st : Sto) : Old st st := ⟨rfl, fun _ _ => .inl rfl⟩
theorem Old.hand {h h' : Ob} {rest : Sto} (e : h'.under 0 = true) : Old (h :: rest) (h' :: rest) := by
  refine ⟨rfl, fun i _ => ?_⟩
  cases i with
  | zero => exact .inr ⟨h', rfl, e⟩
  | succ i => exact .inl rfl
theorem Old.trans {a b c : Sto} (h : Old a b) (g : Old b c) : Old a c := by
  refine ⟨g.1.trans h.1, fun i hi => ?_⟩
  rcases g.2 i (by rw [h.1]; exact hi) with q | q
  · rw [q]; exact h.2 i hi
  · exact .inr q
theorem Old.ok {st st2 ext : Sto} (h : Old st st2) : oldOk st (st2 ++ ext) := by
  refine ⟨by rw [List.length_append, h.1]; omega, fun i hi => ?_⟩
  rw [List.getElem?_append_left (by rw [h.1]; exact hi)]
  exact h.2 i hi
theorem Old.take {st st2 ext : Sto} (h : Old st st2) : (st2 ++ ext).take st.length = st2 := by rw [← h.1, List.take_left']; rfl
theorem under_up {u : U} (h : u.under 0 = true) (n : Nat) : u.under n = true := U.under_mono (Nat.zero_le n) h
theorem sc_val {u : U} {st st2 : Sto} (ext : Sto) (h : Old st st2) (hu : u.under 0 = true) : scopeOut st (.ok u (st2 ++ ext)) = .ok u st2 := by
  have f : frz u (st2 ++ ext) = .ok u (st2 ++ ext) := by
    cases u with
    | loc i => simp [U.under] at hu
    | _ => rfl
  show ((frz u (st2 ++ ext)).bind _) = _
  rw [f]
  show (open Classical in if u.under st.length = true ∧ oldOk st (st2 ++ ext) then Out.ok u ((st2 ++ ext).take st.length) else .bad) = _
  rw [if_pos ⟨under_up hu _, h.ok⟩, h.take]
theorem sc_same {u : U} {st : Sto} (hu : u.under 0 = true) : scopeOut st (.ok u st) = .ok u st := by
  have := sc_val (u := u) [] (Old.refl st) hu
  rwa [List.append_nil] at this
theorem sc_old {u : U} {st st2 : Sto} (h : Old st st2) (hu : u.under 0 = true) : scopeOut st (.ok u st2) = .ok u st2 := by
  have := sc_val (u := u) [] h hu
  rwa [List.append_nil] at this
theorem set_app {st2 ext : Sto} {j : Nat} {o : Ob} : (st2 ++ ext).set (st2.length + j) o = st2 ++ ext.set j o := by
  have e := List.set_append (s := st2) (t := ext) (i := st2.length + j) (x := o)
  rw [if_neg (by omega), show st2.length + j - st2.length = j by omega] at e
  exact e
theorem sc_loc {us : List U} {st st2 : Sto} (ext : Sto) {j : Nat} (h : Old st st2) (hj : ext[j]? = some (.lst us)) (hu : U.underL 0 us = true) : scopeOut st (.ok (.loc (st.length + j)) (st2 ++ ext)) = .ok (.lst us) st2 := by
  have q : (st2 ++ ext)[st.length + j]? = some (.lst us) := by
    rw [List.getElem?_append_right (by rw [h.1]; omega), h.1]
    rw [show st.length + j - st.length = j by omega]
    exact hj
  have f : frz (.loc (st.length + j)) (st2 ++ ext) = .ok (.lst us) (st2 ++ ext.set j .dead) := by
    dsimp only [frz]
    rw [q]
    dsimp only
    rw [← h.1, set_app]
  show ((frz (.loc (st.length + j)) (st2 ++ ext)).bind _) = _
  rw [f]
  show (open Classical in if (U.lst us).under st.length = true ∧ oldOk st (st2 ++ ext.set j .dead) then Out.ok (U.lst us) ((st2 ++ ext.set j .dead).take st.length) else .bad) = _
  rw [if_pos ⟨under_up (u := .lst us) (by unfold U.under; exact hu) _, h.ok⟩, h.take]
theorem sc_obj {us : List U} {k : Nat} {st st2 : Sto} (ext : Sto) {j : Nat} (h : Old st st2) (hj : ext[j]? = some (.ins k us)) (hu : U.underL 0 us = true) : scopeOut st (.ok (.loc (st.length + j)) (st2 ++ ext)) = .ok (.ins k us) st2 := by
  have q : (st2 ++ ext)[st.length + j]? = some (.ins k us) := by
    rw [List.getElem?_append_right (by rw [h.1]; omega), h.1]
    rw [show st.length + j - st.length = j by omega]
    exact hj
  have f : frz (.loc (st.length + j)) (st2 ++ ext) = .ok (.ins k us) (st2 ++ ext.set j .dead) := by
    dsimp only [frz]
    rw [q]
    dsimp only
    rw [← h.1, set_app]
  show ((frz (.loc (st.length + j)) (st2 ++ ext)).bind _) = _
  rw [f]
  show (open Classical in if (U.ins k us).under st.length = true ∧ oldOk st (st2 ++ ext.set j .dead) then Out.ok (U.ins k us) ((st2 ++ ext.set j .dead).take st.length) else .bad) = _
  rw [if_pos ⟨under_up (u := .ins k us) (by unfold U.under; exact hu) _, h.ok⟩, h.take]
theorem underL_all {n : Nat} : ∀ {us : List U}, (∀ u ∈ us, u.under n = true) → U.underL n us = true
  | [], _ => rfl
  | u :: us, h => by
    unfold U.underL
    rw [h u List.mem_cons_self, underL_all fun w hw => h w (List.mem_cons_of_mem _ hw)]
    rfl
mutual
def datU : U → PyData
  | .bl b => .bool b
  | .int i => .int i
  | .str x => .str x
  | .tup us => .tuple (datL us)
  | .lst us => .list (datL us)
  | _ => .none
def datL : List U → List PyData
  | [] => []
  | u :: us => datU u :: datL us
end
def okU : Nat → U → Bool
  | 0, _ => false
  | n + 1, u => match u with
    | .non => true
    | .bl _ => true
    | .int _ => true
    | .str x => PyData.canLay0 (.str x)
    | .tup us => us.all (okU n)
    | .lst us => us.all (okU n)
    | _ => false
theorem okU_D {st : Sto} : ∀ (n : Nat) (u : U), okU n u = true → toD st n u = some (datU u) ∧ PyData.canLay0 (datU u) = true ∧ PyData.depth (datU u) ≤ n
  | 0, _, h => by cases h
  | n + 1, u, h => by
    have lst : ∀ us : List U, us.all (okU n) = true → allD (toD st n) us = some (datL us) ∧ PyData.canLayAll0 (datL us) = true ∧ PyData.depthAll (datL us) ≤ n := by
      intro us
      induction us with
      | nil => intro _; exact ⟨rfl, rfl, Nat.zero_le _⟩
      | cons w us ih =>
        intro hh
        rw [List.all_cons, Bool.and_eq_true] at hh
        obtain ⟨a1, a2, a3⟩ := okU_D n w hh.1
        obtain ⟨b1, b2, b3⟩ := ih hh.2
        refine ⟨?_, ?_, ?_⟩
        · unfold allD
          rw [a1, b1]
          rfl
        · unfold datL PyData.canLayAll0
          rw [a2, b2]
          rfl
        · unfold datL PyData.depthAll
          exact Nat.max_le.mpr ⟨a3, b3⟩
    cases u with
    | non => exact ⟨rfl, rfl, Nat.zero_le _⟩
    | bl b => exact ⟨rfl, rfl, Nat.zero_le _⟩
    | int i => exact ⟨rfl, rfl, Nat.zero_le _⟩
    | str x => exact ⟨rfl, h, Nat.zero_le _⟩
    | tup us =>
      obtain ⟨a, b, c⟩ := lst us h
      refine ⟨?_, ?_, ?_⟩
      · show (allD (toD st n) us).map _ = _
        rw [a]
        rfl
      · unfold datU PyData.canLay0
        exact b
      · unfold datU PyData.depth
        omega
    | lst us =>
      obtain ⟨a, b, c⟩ := lst us h
      refine ⟨?_, ?_, ?_⟩
      · show (allD (toD st n) us).map _ = _
        rw [a]
        rfl
      · unfold datU PyData.canLay0
        exact b
      · unfold datU PyData.depth
        omega
    | _ => cases h
def eqvU (u w : U) : Bool := PyData.eqv (datU u) (datU w)
theorem okU_shaped {u : U} (h : okU 12 u = true) : SeqAt.shaped (datU u) = true := by
  obtain ⟨_, b, c⟩ := okU_D (st := []) 12 u h
  unfold SeqAt.shaped
  rw [b, Bool.true_and]
  exact decide_eq_true (by omega)
theorem fEqB_ok {g : Bool → Bool} {u w : U} {st : Sto} (hu : okU 12 u = true) (hw : okU 12 w = true) : fEqB g u w st = .ok (.bl (g (eqvU u w))) st := by
  unfold fEqB
  rw [(okU_D 12 u hu).1, (okU_D 12 w hw).1]
  dsimp only
  rw [if_pos ⟨okU_shaped hu, okU_shaped hw⟩]
  rfl
theorem fEq_ok {u w : U} {st : Sto} (hu : okU 12 u = true) (hw : okU 12 w = true) : fEq u w st = .ok (.bl (eqvU u w)) st := fEqB_ok hu hw
theorem fNe_ok {u w : U} {st : Sto} (hu : okU 12 u = true) (hw : okU 12 w = true) : fNe u w st = .ok (.bl (!eqvU u w)) st := fEqB_ok hu hw
theorem eqvU_same {u : U} (h : okU 12 u = true) : eqvU u u = true := PySem.SeqAt.eqv_refl _ (okU_D (st := []) 12 u h).2.1
theorem okU_up : ∀ (n : Nat) (u : U), okU n u = true → okU (n + 1) u = true
  | 0, _, h => by cases h
  | n + 1, u, h => by
    have lst : ∀ us : List U, us.all (okU n) = true → us.all (okU (n + 1)) = true := fun us hh => by
      rw [List.all_eq_true] at hh ⊢
      exact fun w hw => okU_up n w (hh w hw)
    cases u with
    | tup us => exact lst us h
    | lst us => exact lst us h
    | _ => exact h
mutual
theorem okU_under : ∀ (n : Nat) (u : U), okU n u = true → u.under 0 = true
  | 0, _, h => by cases h
  | n + 1, u, h => by
    cases u with
    | tup us => unfold U.under; exact okU_underL n us h
    | lst us => unfold U.under; exact okU_underL n us h
    | non => rfl
    | bl b => rfl
    | int i => rfl
    | str x => rfl
    | _ => cases h
theorem okU_underL : ∀ (n : Nat) (us : List U), us.all (okU n) = true → U.underL 0 us = true
  | _, [], _ => rfl
  | n, u :: us, h => by
    rw [List.all_cons, Bool.and_eq_true] at h
    unfold U.underL
    rw [okU_under n u h.1, okU_underL n us h.2]
    rfl
end
end NK

namespace NK
open PySem L2
section
variable {g : Sto → Prop} {gt : MGt} {b : MS} {u : U} {us : List U} {env env1 env2 : Env} {st st2 : Sto} {x : Ex} {r : U}
theorem forM_nil (hg : g st) : forM g gt b [] env st = .next env st := by unfold forM; rw [if_pos hg]
theorem forM_n (hg : g st) (ht : gt u env st = some env1) (hb : b env1 st = .next env2 st2) : forM g gt b (u :: us) env st = forM g gt b us env2 st2 := by
  rw [forM, if_pos hg, ht]; dsimp only; rw [hb]
theorem forM_r (hg : g st) (ht : gt u env st = some env1) (hb : b env1 st = .ret r st2) : forM g gt b (u :: us) env st = .ret r st2 := by
  rw [forM, if_pos hg, ht]; dsimp only; rw [hb]
theorem forM_x (hg : g st) (ht : gt u env st = some env1) (hb : b env1 st = .exc x env2 st2) : forM g gt b (u :: us) env st = .exc x env2 st2 := by
  rw [forM, if_pos hg, ht]; dsimp only; rw [hb]
end
theorem wipe1 (env : Env) (i : Nat) (u : U) : (wipeE env [i]).set i (some u) = env.set i (some u) := by
  show (env.set i none).set i (some u) = _
  rw [List.set_set]
section
variable {g : Sto → Prop} {i : Nat} {mt : MT} {me : ME} {mi : MI} {env : Env} {st : Sto}
theorem compM_pure (f : U → U) (p : U → Bool) (hg : ∀ acc, g (st ++ [.lst acc])) : ∀ (us acc : List U), acc.length + us.length ≤ 16777216 →
    (∀ u ∈ us, ∀ acc, mt (env.set i (some u)) (st ++ [.lst acc]) = .ok (p u) (st ++ [.lst acc]) ∧ (p u = true → me (env.set i (some u)) (st ++ [.lst acc]) = .ok (f u) (st ++ [.lst acc]))) →
    compM g (gN i) mt me st.length (wipeE env [i]) us (st ++ [.lst acc]) = .ok (.loc st.length) (st ++ [.lst (acc ++ (us.filter p).map f)])
  | [], acc, _, _ => by unfold compM; rw [if_pos (hg acc)]; simp
  | u :: us, acc, hz, h => by
    have ih := compM_pure f p hg us
    obtain ⟨h1, h2⟩ := h u List.mem_cons_self acc
    have h' := fun w hw => h w (List.mem_cons_of_mem _ hw)
    rw [List.length_cons] at hz
    unfold compM
    rw [if_pos (hg acc)]
    show (match mt ((wipeE env [i]).set i (some u)) (st ++ [.lst acc]) with | .ok true st1 => _ | .ok false st1 => _ | _ => Out.bad) = _
    rw [wipe1, h1]
    cases hp : p u with
    | false =>
      dsimp only
      rw [ih acc (by omega) h', List.filter_cons_of_neg (by simp [hp])]
    | true =>
      dsimp only
      rw [h2 hp]
      dsimp only
      have e : (st ++ [Ob.lst acc])[st.length]? = some (.lst acc) := by simp
      rw [e]
      dsimp only
      rw [if_pos (by omega)]
      have e2 : (st ++ [Ob.lst acc]).set st.length (.lst (acc ++ [f u])) = st ++ [.lst (acc ++ [f u])] := by simp
      rw [e2, ih (acc ++ [f u]) (by simp; omega) h', List.filter_cons_of_pos hp]
      simp [List.append_assoc]
theorem comp_pure (f : U → U) (p : U → Bool) {us : List U} (hm : mi env st = .ok ⟨us, g⟩ st) (hg : ∀ acc, g (st ++ [.lst acc])) (hz : us.length ≤ 16777216)
    (h : ∀ u ∈ us, ∀ acc, mt (env.set i (some u)) (st ++ [.lst acc]) = .ok (p u) (st ++ [.lst acc]) ∧ (p u = true → me (env.set i (some u)) (st ++ [.lst acc]) = .ok (f u) (st ++ [.lst acc]))) :
    eComp mi (gN i) mt me [i] env st = .ok (.loc st.length) (st ++ [.lst ((us.filter p).map f)]) := by
  unfold eComp
  rw [hm, ob, compM_pure f p hg us [] (by simpa using hz) h, List.nil_append]
theorem comp_scope (f : U → U) (p : U → Bool) {us : List U} (hm : mi env st = .ok ⟨us, g⟩ st) (hg : ∀ acc, g (st ++ [.lst acc])) (hz : us.length ≤ 16777216)
    (h : ∀ u ∈ us, ∀ acc, mt (env.set i (some u)) (st ++ [.lst acc]) = .ok (p u) (st ++ [.lst acc]) ∧ (p u = true → me (env.set i (some u)) (st ++ [.lst acc]) = .ok (f u) (st ++ [.lst acc])))
    (hu : U.underL 0 ((us.filter p).map f) = true) : eScope (eComp mi (gN i) mt me [i]) env st = .ok (.lst ((us.filter p).map f)) st := by
  unfold eScope
  rw [comp_pure f p hm hg hz h]
  exact sc_loc (j := 0) [.lst _] (Old.refl st) rfl hu
end
end NK

namespace NK
open PySem L2
section
variable {n : Nat} {mb : MS} {us : List U} {env env' : Env} {st st2 ext : Sto} {u : U} {x : Ex}
theorem run_ret (he : us.map some ++ List.replicate (n - us.length) none = env) (h : mb env st = .ret u st2) : runF n mb us st = .ok u st2 := by
  unfold runF; rw [he, h]
theorem run_next (he : us.map some ++ List.replicate (n - us.length) none = env) (h : mb env st = .next env' st2) : runF n mb us st = .ok .non st2 := by
  unfold runF; rw [he, h]
theorem run_exc (he : us.map some ++ List.replicate (n - us.length) none = env) (h : mb env st = .exc x env' st2) : runF n mb us st = .exc x st2 := by
  unfold runF; rw [he, h]
theorem fs_val (he : us.map some ++ List.replicate (n - us.length) none = env) (h : mb env st = .ret u (st2 ++ ext)) (o : Old st st2) (hu : u.under 0 = true) : fScope (runF n mb) us st = .ok u st2 := by
  show scopeOut st (runF n mb us st) = _
  rw [run_ret he h]
  exact sc_val ext o hu
theorem fs_same (he : us.map some ++ List.replicate (n - us.length) none = env) (h : mb env st = .ret u st) (hu : u.under 0 = true) : fScope (runF n mb) us st = .ok u st := by
  show scopeOut st (runF n mb us st) = _
  rw [run_ret he h]
  exact sc_same hu
theorem fs_old (he : us.map some ++ List.replicate (n - us.length) none = env) (h : mb env st = .ret u st2) (o : Old st st2) (hu : u.under 0 = true) : fScope (runF n mb) us st = .ok u st2 := by
  show scopeOut st (runF n mb us st) = _
  rw [run_ret he h]
  exact sc_old o hu
theorem fs_non0 (he : us.map some ++ List.replicate (n - us.length) none = env) (h : mb env st = .next env' st) : fScope (runF n mb) us st = .ok .non st := by
  show scopeOut st (runF n mb us st) = _
  rw [run_next he h]
  exact sc_same rfl
theorem fs_exc (he : us.map some ++ List.replicate (n - us.length) none = env) (h : mb env st = .exc x env' st2) : fScope (runF n mb) us st = .exc x st2 := by
  show scopeOut st (runF n mb us st) = _
  rw [run_exc he h]
  rfl
end
section
variable {i j : Int} {st : Sto} {u : U} {us ws : List U}
theorem fAdd_i : fAdd (.int i) (.int j) st = .ok (.int (i + j)) st := rfl
theorem fSub_i : fSub (.int i) (.int j) st = .ok (.int (i - j)) st := rfl
theorem fNeg_i : fNeg (.int i) st = .ok (.int (-i)) st := rfl
theorem fInt_i : fInt [.int i] st = .ok (.int i) st := rfl
theorem fAbs_i : fAbs [.int i] st = .ok (.int (if i < 0 then -i else i)) st := rfl
theorem fLt_i : fLt (.int i) (.int j) st = .ok (.bl (decide (i < j))) st := rfl
theorem fLe_i : fLe (.int i) (.int j) st = .ok (.bl (decide (i ≤ j))) st := rfl
theorem fGt_i : fGt (.int i) (.int j) st = .ok (.bl (decide (j < i))) st := rfl
theorem fMin_i : fMin2 [.int i, .int j] st = .ok (.int (if j < i then j else i)) st := rfl
theorem fMul_i (h : (-18446744073709551616 < i ∧ i < 18446744073709551616) ∨ (-18446744073709551616 < j ∧ j < 18446744073709551616)) : fMul (.int i) (.int j) st = .ok (.int (i * j)) st := by
  have c : cMul i j = true := by
    unfold cMul
    exact decide_eq_true h
  show (if cMul i j = true then _ else Out.bad) = _
  rw [if_pos c]
theorem fMod_i (h : 0 < j) : fMod (.int i) (.int j) st = .ok (.int (i % j)) st := by
  show (if cMod i j = true then _ else Out.bad) = _
  rw [if_pos (show cMod i j = true from decide_eq_true h)]
theorem fDiv_i (h : 0 < j) (h2 : j < 1000000000000000000000000000000000000000000000000000000000000) : fDiv (.int i) (.int j) st = .ok (.int (i / j)) st := by
  show (if cDiv i j = true then _ else Out.bad) = _
  rw [if_pos (show cDiv i j = true from decide_eq_true ⟨h, h2⟩)]
theorem fIsN_n : fIsN u .non st = .ok (.bl u.isNon) st := by cases u <;> rfl
theorem fNotN_n : fNotN u .non st = .ok (.bl (!u.isNon)) st := by cases u <;> rfl
theorem fIx_tup (h : atI us i = some u) : fIx (.tup us) (.int i) st = .ok u st := by
  unfold fIx
  dsimp only [items]
  rw [h]
theorem fIx_lst (h : atI us i = some u) : fIx (.lst us) (.int i) st = .ok u st := by
  unfold fIx
  dsimp only [items]
  rw [h]
theorem atI_nat {k : Nat} : atI us (k : Int) = us[k]? := by
  unfold atI
  by_cases h : k < us.length
  · simp [ixN, h]
  · simp [ixN, h]
theorem fLen_lst : fLen [.lst us] st = .ok (.int us.length) st := rfl
theorem fLen_tup : fLen [.tup us] st = .ok (.int us.length) st := rfl
theorem fTuple_lst : fTuple [.lst us] st = .ok (.tup us) st := rfl
theorem fTuple_tup : fTuple [.tup us] st = .ok (.tup us) st := rfl
end
end NK

namespace NK
open PySem L2
section
variable {X : Cx} {T : Tb} {P : Pin} {Wx : WX}
open PySem.Spec PyProof.Rows in
end
end NK

set_option maxHeartbeats 2000000
namespace NK
open PySem L2

section
variable {X : Cx} {T : Tb} {P : Pin} {Wx : WX} {o i e value : Expr} {es : List Expr} {mo mi m me : ME} {ma : MA} {pos pos' p2 : Pos}

def rInDT (K : PySem.W.Frag) (neg : Bool) : R2 := fun x y H Q => ∃ d ds, Dp K H x d ∧ (Dp K H y (.list ds) ∨ Dp K H y (.tuple ds)) ∧ SeqAt.shaped d = true ∧ SeqAt.shaped (.list ds) = true ∧ Q (.bl ((ds.any fun z => PyData.eqv z d) != neg)) H
open PySem PySem.Spec PyProof.Rows in
open PySem PySem.Spec PyProof.Rows in
theorem op_notInDT (hu : X.A.units + 65 < cLine) : OpR X (compareOp .NotIn) (rInDT X.K true) := by
  intro pins s σ H x y v u Q I rx ry h
  obtain ⟨d, ds, hd, he, sd, se, q⟩ := h
  obtain ⟨as, r1⟩ := Dp.reads I d x v hd rx
  rw [Bool.bne_true] at q
  rcases he with he | he
  · obtain ⟨bs, r2⟩ := Dp.reads I (.list ds) y u he ry
    exact SeqAt.notIn_list_reads r2 r1 (SeqAt.canLay_of_shaped se) (SeqAt.canLay_of_shaped sd) (room_in_shaped sd hu) ⟨.bl _, H, I, rfl, q⟩
  · obtain ⟨bs, r2⟩ := Dp.reads I (.tuple ds) y u he ry
    exact SeqAt.notIn_tuple_reads r2 r1 (SeqAt.canLay_of_shaped se) (SeqAt.canLay_of_shaped sd) (room_in_shaped sd hu) ⟨.bl _, H, I, rfl, q⟩
def itemsD : PyData → Option (List PyData)
  | .list ds => some ds
  | .tuple ds => some ds
  | _ => none
def fInD (neg : Bool) : U → U → Sto → Out U := fun u w st => match toD st 12 u, (toD st 12 w).bind itemsD with
  | some d, some ds => if SeqAt.shaped d = true ∧ SeqAt.shaped (.list ds) = true then .ok (.bl ((ds.any fun z => PyData.eqv z d) != neg)) st else .bad
  | _, _ => .bad
theorem sim_inD {neg : Bool} : OpSim T (rInDT T.K neg) (fInD neg) := fun Wx c σ st H u w x y Q hH ru rw hR => by
  dsimp only [fInD] at hR
  split at hR
  · rename_i d ds e1 e2
    split at hR
    · rename_i hs
      refine ⟨d, ds, toD_at hH _ _ _ _ ru e1, ?_, hs.1, hs.2, ResG.ret hR hH (.bl _)⟩
      obtain ⟨z, e3, e4⟩ := Option.bind_eq_some_iff.mp e2
      have h := toD_at hH _ _ _ _ rw e3
      cases z with
      | list zs => cases e4; exact .inl h
      | tuple zs => cases e4; exact .inr h
      | _ => cases e4
    · exact hR.elim
  · exact hR.elim

structure PDm (X : Cx) (T : Tb) (P : Pin) (Wx : WX) (pos : Pos) (keys : List (Option Expr)) (values : List Expr) (ks : List Str) (ma : MA) : Prop where
  run : ∃ trs, PPs X pos keys values trs ∧ ∀ σ H Q, taOf T P Wx ma σ H (fun vs H' => Q ((ks.map V.str).zip vs) H') → tPairs trs σ H Q
def keysU : List U → Option (List Key)
  | [] => some []
  | u :: us => match keyU u, keysU us with
    | some k, some ks => some (k :: ks)
    | _, _ => none
theorem keysU_at {c : Cn} : ∀ {us : List U} {vs : List V} {ks : List Key}, RpL T c us vs → keysU us = some ks → vs = ks.map kV
  | _, _, _, .nil, e => by cases e; rfl
  | u :: us, v :: vs, ks, .cons r t, e => by
    dsimp only [keysU] at e
    split at e
    · rename_i k ks' e1 e2
      cases e
      rw [List.map_cons, ← key_at r e1, ← keysU_at t e2]
    · cases e
def dicTAt (u : U) (st : Sto) : Option (Nat × List (List Key × U)) := match u with
  | .loc i => match st[i]? with
    | some (.dT kvs) => some (i, kvs)
    | _ => none
  | _ => none
theorem dicT_at {c : Cn} {st : Sto} {H : Hp} (h : RH T c st H) {u : U} {v : V} {i : Nat} {kvs : List (List Key × U)} (r : Rp T c u v) (e : dicTAt u st = some (i, kvs)) : u = .loc i ∧ st[i]? = some (.dT kvs) ∧ ∃ vs, v = .ref (c.ρ i) ∧ H (c.ρ i) = some (.dT vs) ∧ RpK T c kvs vs := by
  cases u with
  | loc j =>
    obtain ⟨_, rfl⟩ := r.inv_loc
    dsimp only [dicTAt] at e
    split at e
    · rename_i kvs' q
      cases e
      obtain ⟨vs, h1, h2⟩ := h.at_dT q
      exact ⟨rfl, q, vs, rfl, h1, h2⟩
    · cases e
  | _ => cases e
def dicTRd (u : U) (st : Sto) : Option (List (List Key × U)) := match u with
  | .loc i => match st[i]? with
    | some (.dT kvs) => some kvs
    | some (.lk (.dT kvs)) => some kvs
    | _ => none
  | _ => none
theorem dicTRd_at {T : Tb} {c : Cn} {st : Sto} {H : Hp} (h : RH T c st H) {u : U} {v : V} {kvs : List (List Key × U)} (r : Rp T c u v) (e : dicTRd u st = some kvs) : ∃ a vs, v = .ref a ∧ Rd H a (.dT vs) ∧ RpK T c kvs vs := by
  cases u with
  | loc j =>
    obtain ⟨_, rfl⟩ := r.inv_loc
    dsimp only [dicTRd] at e
    split at e
    · rename_i kvs' q
      cases e
      obtain ⟨vs, h1, h2⟩ := h.at_dT q
      exact ⟨_, vs, rfl, .inl h1, h2⟩
    · rename_i kvs' q
      cases e
      obtain ⟨y, h1, ⟨od, x, rfl, _, vs, rfl, h2⟩, _⟩ := h.act j _ q (fun z => nomatch z)
      exact ⟨_, vs, rfl, .inr ⟨od, h1⟩, h2⟩
    · cases e
  | _ => cases e
def eDictT : ME := fun _ st => .ok (.loc st.length) (st ++ [.dT []])
theorem pem_dictT : PEm X T P Wx (.Dict [] [] pos) eDictT := PE.imp pe_dnewT fun σ H Q ⟨c, env, st, hH, hE, hR⟩ p hp => by
  have l := le_new c p
  have hlt : st.length < (c.new p).n := by show _ < c.n + 1; rw [hH.n]; exact Nat.lt_succ_self _
  have e : V.ref p = V.ref ((c.new p).ρ st.length) := by rw [← hH.n, new_self]
  rw [e]
  exact hR _ _ _ l (hH.new hp (o := .dT []) (x := .dT []) ⟨[], rfl, .nil⟩) (.loc hlt)
def keyT (us : List U) : Option (List Key) := if us.length ≤ 100 then keysU us else none
def eDGetT (mo : ME) (ma : MA) : ME := fun env st => (mo env st).bind fun o st1 => (ma env st1).bind fun us st2 => match dicTRd o st2, keyT us with
  | some kvs, some k => match valU kvs k with
    | some w => .ok w st2
    | none => .bad
  | _, _ => .bad
def eDInT (neg : Bool) (ma : MA) (mo : ME) : ME := fun env st => (ma env st).bind fun us st1 => match keyT us with
  | some k => (mo env st1).bind fun o st2 => match dicTRd o st2 with
    | some kvs => .ok (.bl ((valU kvs k).isSome != neg)) st2
    | none => .bad
  | none => .bad
def dputT (o : U) (us : List U) (w : U) (st : Sto) : Option Sto := match dicTAt o st, keyT us with
  | some (n, kvs), some k => if kvs.length < 16777216 then some (st.set n (.dT (putU kvs k w))) else none
  | _, _ => none
def sDPutT (mo : ME) (ma : MA) (m : ME) : MS := fun env st => (m env st).st env fun w st1 => (mo env st1).st env fun o st2 => (ma env st2).st env fun us st3 => match dputT o us w st3 with
  | some st4 => .next env st4
  | none => .bad
end
end NK

namespace NK
open PySem L2

section
variable {X : Cx} {pins : List (Addr × Obj)} {σ : L2.St} {H : Hp} {s : Shared}
open PySem PySem.Spec PyProof.Rows in
variable {C f : Addr} {fd : FuncData} {ps : List Str} {sp : Sp} {n : Nat} {A1 : Around} {E : Value → Shared → Prop}
end

structure ItK (K : PySem.W.Frag) (C fi fl : Addr) : Prop where
  it : PySem.W.findIn K (.ref C) "__iter__" = some (some (.ref fi))
  itF : PySem.W.isFn K (.ref fi) = true
  ln : PySem.W.findIn K (.ref C) "__len__" = some (some (.ref fl))
  lnF : PySem.W.isFn K (.ref fl) = true

section
variable {X : Cx} {pins : List (Addr × Obj)} {σ : L2.St} {H : Hp} {s : Shared} {C fi fl : Addr} {fdI fdL : FuncData} {psI psL : List Str} {fld : Str} {n : Nat} {E : Value → Shared → Prop}
open PySem PySem.Spec PyProof.Rows in
open PySem PySem.Spec PyProof.Rows in
open PySem PySem.Spec PyProof.Rows in
open PySem PySem.Spec PyProof.Rows in
end

section
variable {X : Cx} {T : Tb} {P : Pin} {Wx : WX} {Pg : Program} {w : World} {K : PySem.W.Frag} {mg : Str → Option Value} {base : Heap} {x qual : Str} {params : Arguments} {body : List Stmt} {scope : Scope} {dvs : List V} {kws : List (Str × V)} {f : Addr} {fd : FuncData} {N ps : List Str} {n k j : Nat} {fld : Str}
open PyProof.Rows (envOfC) in
open PyProof.Rows (envOfC) in
end
end NK
namespace NK
open PySem L2
theorem units65 {k : Nat} {A : Around} (r : Room k A) : A.units + 65 < cLine := by have := r.un; omega
end NK
namespace NK
open PySem L2
end NK
namespace NK
open PySem L2
def sPar3 (i j l : Nat) (ma : MA) : MS := fun env st => (ma env st).st env fun us st1 => match us with
  | [u, w, z] => .next (((env.set i (some u)).set j (some w)).set l (some z)) st1
  | _ => .bad
theorem psm_par3 {X : Cx} {T : Tb} {P : Pin} {Wx : WX} {i j l : Nat} {x y z : Str} {a b c : Expr} {ma : MA} {px py pz pt pos : Pos} {kt k2 pt2} (hc : X.calm = true) (hN : X.N.Nodup) (hi : X.N[i]? = some x) (hj : X.N[j]? = some y) (hl : X.N[l]? = some z) (hij : i ≠ j) (hil : i ≠ l) (hjl : j ≠ l)
    (hx : X.env.scope.names.lookup x = some .local) (hy : X.env.scope.names.lookup y = some .local) (hz : X.env.scope.names.lookup z = some .local) (ha : PAm X T P Wx [a, b, c] ma)
    (hw : swappedStores [.Tuple [.Name x px, .Name y py, .Name z pz] kt pt] (.Tuple [a, b, c] k2 pt2) X.env = pure (some [x, y, z])) (hpi : pinned P i = false := by rfl) (hpj : pinned P j = false := by rfl) (hpl : pinned P l = false := by rfl)
    (hs : swapsWithSole [.Tuple [.Name x px, .Name y py, .Name z pz] kt pt] (.Tuple [a, b, c] k2 pt2) pos.line X.env = pure false := by rfl) :
    PSm X T P Wx (.Assign [.Tuple [.Name x px, .Name y py, .Name z pz] kt pt] (.Tuple [a, b, c] k2 pt2) pos) (sPar3 i j l ma) :=
  PS.imp (ps_par3 hc hN hi hj hl hij hil hjl hx hy hz ha hw hs) fun D σ H ⟨c, env, st, hH, hE, hR⟩ => by
    refine (ts_bind hH hE hR).mono fun vs H1 ⟨us, c1, st1, l1, hH1, hE1, r1, hR1⟩ => ?_
    split at hR1
    · rename_i u w z
      obtain ⟨v, vs', rfl, r2, t⟩ := r1.inv_cons
      obtain ⟨v2, vs2, rfl, r3, t2⟩ := t.inv_cons
      obtain ⟨v3, vs3, rfl, r4, t3⟩ := t2.inv_cons
      cases t3.inv_nil
      exact ⟨v, v2, v3, rfl, ResS.go (D := D) hR1 hH1 (((hE1.set r2 i hpi).set r3 j hpj).set r4 l hpl)⟩
    · exact hR1.elim
end NK

namespace NK
open PySem L2
inductive All2 {α β : Type} (R : α → β → Prop) : List α → List β → Prop
  | nil : All2 R [] []
  | cons {a : α} {b : β} {as : List α} {bs : List β} : R a b → All2 R as bs → All2 R (a :: as) (b :: bs)
theorem All2.imp {α β : Type} {R R' : α → β → Prop} (f : ∀ a b, R a b → R' a b) : ∀ {as : List α} {bs : List β}, All2 R as bs → All2 R' as bs
  | _, _, .nil => .nil
  | _, _, .cons h t => .cons (f _ _ h) (All2.imp f t)
theorem All2.len {α β : Type} {R : α → β → Prop} : ∀ {as : List α} {bs : List β}, All2 R as bs → as.length = bs.length
  | _, _, .nil => rfl
  | _, _, .cons _ t => by rw [List.length_cons, List.length_cons, t.len]
theorem All2.append {α β : Type} {R : α → β → Prop} : ∀ {as as' : List α} {bs bs' : List β}, All2 R as bs → All2 R as' bs' → All2 R (as ++ as') (bs ++ bs')
  | _, _, _, _, .nil, g => g
  | _, _, _, _, .cons h t, g => .cons h (t.append g)
section
variable {i j : Int} {st S : Sto} {u : U} {us ws : List U} {x y : Str}
theorem fGe_i : fGe (.int i) (.int j) st = .ok (.bl (decide (j ≤ i))) st := rfl
theorem eqv_ii (i j : Int) : eqvU (.int i) (.int j) = (i == j) := by simp [eqvU, datU, PyData.eqv]
theorem ok_int (i : Int) : okU 12 (.int i) = true := rfl
theorem fEq_ii : fEq (.int i) (.int j) st = .ok (.bl (i == j)) st := by rw [fEq_ok (ok_int i) (ok_int j), eqv_ii]
theorem fNe_ii : fNe (.int i) (.int j) st = .ok (.bl (!(i == j))) st := by rw [fNe_ok (ok_int i) (ok_int j), eqv_ii]
theorem okU_str (h : PyData.strOk x = true) (n : Nat) : okU (n + 1) (U.str x) = true := by
  show PyData.canLay0 (.str _) = true
  simpa only [PyData.canLay0] using h
theorem powN {n : Nat} (hn : n ≤ 1000) : fPow (.int 10) (.int (n : Int)) st = .ok (.int ((10 : Int) ^ n)) st := by
  have c : cPow 10 (n : Int) = true := by
    unfold cPow
    exact decide_eq_true ⟨by omega, by omega, by decide⟩
  show (if cPow 10 (n : Int) = true then Out.ok (U.int ((10 : Int) ^ (n : Int).toNat)) st else .bad) = _
  rw [if_pos c, Int.toNat_natCast]
theorem pow18 : fPow (.int 10) (.int 18) st = .ok (.int 1000000000000000000) st := powN (n := 18) (by decide)
def lstK (xs : List U) (st1 : Sto) : Out U := if xs.length ≤ 16777216 then .ok (.loc st1.length) (st1 ++ [.lst xs]) else .bad
theorem lstK_ok {xs : List U} (h : xs.length ≤ 1000) : lstK xs st = .ok (.loc st.length) (st ++ [.lst xs]) := by
  unfold lstK
  rw [if_pos (Nat.le_trans h (by omega))]
theorem esl {ma : MA} {env : NK.Env} : eScope (eLst ma) env st = scopeOut st ((ma env st).bind lstK) := rfl
theorem sc_lit {k : Nat} (hk : k = st.length) (h : U.underL 0 us = true) : scopeOut st (.ok (.loc k) (st ++ [.lst us])) = .ok (.lst us) st := by
  subst hk
  exact sc_loc (j := 0) [.lst us] (Old.refl st) rfl h
theorem pw62 : (2 : Int) ^ 62 = 4611686018427387904 := by decide
theorem rng_ok {ma : MA} {env : NK.Env} {st st1 : Sto} {n : Nat} (h : ma env st = .ok [.int (n : Int)] st1) (hn : n ≤ 1000) : NK.iRng1 ma env st = .ok ⟨(List.range n).map fun (i : Nat) => .int (0 + (i : Int)), fun _ => True⟩ st1 := by
  unfold NK.iRng1
  rw [h, ob]
  show (if -(2 ^ 62) ≤ (n : Int) ∧ (n : Int) < 2 ^ 62 then _ else _) = _
  rw [pw62, if_pos ⟨by omega, by omega⟩, Int.toNat_natCast]
theorem sFor_ok {mi : MI} {gt : MGt} {b : MS} {env : NK.Env} {S S1 : Sto} {us : List U} {g : Sto → Prop} {r : SO} (hi : mi env S = .ok ⟨us, g⟩ S1) (hf : forM g gt b us env S1 = r) : sFor mi gt b env S = r := by
  unfold sFor
  rw [hi]
  exact hf
theorem filter_all (l : List U) : l.filter (fun _ => true) = l := List.filter_eq_self.mpr fun _ _ => rfl
theorem ofS_inj {a b : String} (h : Str.ofString a = Str.ofString b) : a = b := by
  have h2 := congrArg (fun z : Str => z.cps.toList) h
  rw [Str.ofString_eq_toList, Str.ofString_eq_toList] at h2
  simp only [List.toList_toArray] at h2
  have inj : ∀ (l m : List Char), l.map Char.toNat = m.map Char.toNat → l = m := by
    intro l
    induction l with
    | nil =>
      intro m e
      cases m with
      | nil => rfl
      | cons _ _ => cases e
    | cons c l ih =>
      intro m e
      cases m with
      | nil => cases e
      | cons d m =>
        simp only [List.map_cons, List.cons.injEq] at e
        rw [ih m e.2, Char.ext (UInt32.toNat_inj.mp e.1)]
  exact String.toList_inj.mp (inj _ _ h2)
theorem beq_lit {a b : String} : (Str.ofString a == Str.ofString b) = (a == b) := by
  by_cases h : a = b
  · subst h
    simp
  · have h2 : Str.ofString a ≠ Str.ofString b := fun e => h (ofS_inj e)
    rw [beq_eq_false_iff_ne.mpr h2, beq_eq_false_iff_ne.mpr h]
end
theorem strOk_of (s : String) : PyData.strOk (Str.ofString s) = true := by
  rw [Str.ofString_eq_toList]
  unfold PyData.strOk
  rw [List.all_toArray, List.all_map, List.all_eq_true]
  intro c _
  have := c.valid
  rcases this with q | q
  · exact decide_eq_true (by show c.val.toNat < _; have : c.val.toNat < 0xd800 := q; omega)
  · exact decide_eq_true (by show c.val.toNat < _; exact q.2)
section
variable {S : Sto} {i : Int} {x : Str} {b : Bool} {us : List U} {k : Nat} {j : Nat} {kvs : List (Key × U)}
theorem truth_bl : truth (.bl b) S = some b := rfl
theorem truth_non : truth .non S = some false := rfl
theorem truth_int : truth (.int i) S = some (i != 0) := rfl
theorem truth_tup : truth (.tup us) S = some (!us.isEmpty) := rfl
theorem truth_lst : truth (.lst us) S = some (!us.isEmpty) := rfl
theorem non_non : U.isNon .non = true := rfl
theorem non_bl : U.isNon (.bl b) = false := rfl
theorem non_int : U.isNon (.int i) = false := rfl
theorem non_str : U.isNon (.str x) = false := rfl
theorem non_tup : U.isNon (.tup us) = false := rfl
theorem non_lst : U.isNon (.lst us) = false := rfl
theorem non_ins : U.isNon (.ins k us) = false := rfl
theorem non_loc : U.isNon (.loc j) = false := rfl
end
section
variable {S xs : Sto} {o o' : Ob} {j : Nat}
theorem at0 : (S ++ o :: xs)[S.length]? = some o := by simp
theorem put2 {k : Nat} {us : List U} {w : U} (h : j = us.length) : putFld k j (U.loc S.length) w (S ++ Ob.ins k us :: xs) = some (S ++ Ob.ins k (us ++ [w]) :: xs) := by
  subst h
  simp [putFld]
end
section
variable {κ : Type} [DecidableEq κ]
end
section
variable {κ : Type} [DecidableEq κ]
end
section
variable {S : Sto} {j : Nat} {kvs : List (Key × U)} {tvs : List (List Key × U)} {x y : Str} {w : U} {neg : Bool}
theorem keyT2 : keyT [.str x, .str y] = some [.inr x, .inr y] := rfl
theorem fApp_s {us : List U} (h : S[j]? = some (.lst us)) (hz : us.length < 16777216) : fApp (.loc j) [w] S = .ok .non (S.set j (.lst (us ++ [w]))) := by
  simp only [fApp, h, hz, if_true]
end
section
variable {us ws : List U} {k : Nat} {S : Sto}
end
end NK

namespace NK
open PySem L2

def Cn.wL (c : Cn) (L : Hp) : Cn := { c with L := L }
section
variable {T : Tb} {c : Cn} {L : Hp}
mutual
theorem Rp.wL : ∀ {u : U} {v : V}, Rp T c u v → Rp T (c.wL L) u v
  | _, _, .non => .non
  | _, _, .bl b => .bl b
  | _, _, .int i => .int i
  | _, _, .str x => .str x
  | _, _, .ty n => .ty n
  | _, _, .cls n => .cls n
  | _, _, .tup e r => .tup (c := c.wL L) e (RpL.wL r)
  | _, _, .lst e r => .lst (c := c.wL L) e (RpL.wL r)
  | _, _, .scr e r => .scr (c := c.wL L) e (RpL.wL r)
  | _, _, .ins e l r => .ins (c := c.wL L) e l (RpL.wL r)
  | _, _, .loc hi => .loc (c := c.wL L) hi
theorem RpL.wL : ∀ {us : List U} {vs : List V}, RpL T c us vs → RpL T (c.wL L) us vs
  | _, _, .nil => .nil
  | _, _, .cons r t => .cons (Rp.wL r) (RpL.wL t)
end
theorem RpK.wL {κ : Type} : ∀ {us : List (κ × U)} {vs : List (κ × V)}, RpK T c us vs → RpK T (c.wL L) us vs
  | _, _, .nil => .nil
  | _, _, .cons r t => .cons (Rp.wL r) (RpK.wL t)
theorem RX.wL {x : Ex} {cls : Value} {d : Option Addr} (r : RX T c x cls d) : RX T (c.wL L) x cls d := by
  obtain ⟨e, dx, vs, h1, h2, h3, h4⟩ := r
  exact ⟨e, dx, vs, h1, h2, h3, h4.wL⟩
theorem RE.wL {P : Pin} {env : Env} {σ : St} (r : RE T P c env σ) : RE T P (c.wL L) env σ :=
  ⟨r.len, fun i u e => let ⟨v, h, q⟩ := r.get i u e; ⟨v, h, q.wL⟩, fun p e => ⟨(r.pin p e).1, (r.pin p e).2.wL⟩⟩
theorem RO.wL {o : Ob} {a : Addr} {h : HO} (k : ∀ h', c.L a = some h' → L a = some h') (r : RO T c o a h) : RO T (c.wL L) o a h := by
  induction o generalizing h with
  | lst us => obtain ⟨vs, e, r⟩ := r; exact ⟨vs, e, r.wL⟩
  | tp us => obtain ⟨vs, e, r⟩ := r; exact ⟨vs, e, r.wL⟩
  | dK kvs => obtain ⟨vs, e, r⟩ := r; exact ⟨vs, e, r.wL⟩
  | dT kvs => obtain ⟨vs, e, r⟩ := r; exact ⟨vs, e, r.wL⟩
  | ins j us => obtain ⟨dx, vs, e, z, r⟩ := r; exact ⟨dx, vs, e, z, r.wL⟩
  | iset ks => exact r
  | dead => exact r
  | lk o ih => obtain ⟨od, x, e, q, r⟩ := r; exact ⟨od, x, e, k _ q, ih r⟩
theorem RO.wL1 {o : Ob} {a : Addr} {h : HO} (k : o.isLk = false) (r : RO T c o a h) : RO T (c.wL L) o a h := by
  cases o with
  | lst us => obtain ⟨vs, e, r⟩ := r; exact ⟨vs, e, r.wL⟩
  | tp us => obtain ⟨vs, e, r⟩ := r; exact ⟨vs, e, r.wL⟩
  | dK kvs => obtain ⟨vs, e, r⟩ := r; exact ⟨vs, e, r.wL⟩
  | dT kvs => obtain ⟨vs, e, r⟩ := r; exact ⟨vs, e, r.wL⟩
  | ins j us => obtain ⟨dx, vs, e, z, r⟩ := r; exact ⟨dx, vs, e, z, r.wL⟩
  | iset ks => exact r
  | dead => exact r
  | lk o => cases k
end
section
variable {T : Tb} {c : Cn} {st : Sto} {H : Hp} {i : Nat} {o : Ob} {x : HO}
def Cn.lock (c : Cn) (a : Addr) (h : HO) : Cn := c.wL (upd c.L a h)
noncomputable def Cn.unlock (c : Cn) (a : Addr) : Cn := c.wL (fun b => open Classical in if b = a then none else c.L b)
theorem RH.lk_no (h : RH T c st H) (e : st[i]? = some o) (hd : o ≠ .dead) (k : o.isLk = false) : c.L (c.ρ i) = none := by
  obtain ⟨y, h1, h2, _⟩ := h.act i o e hd
  cases q : c.L (c.ρ i) with
  | none => rfl
  | some u =>
    obtain ⟨q1, od, x', q2⟩ := h.lkd _ _ q
    rw [h1] at q1
    cases q1
    exact absurd q2 (h2.nofrz k od x')
theorem RH.lock (h : RH T c st H) (e : st[i]? = some o) (hd : o ≠ .dead) (k : o.isLk = false) (r : RO T c o (c.ρ i) x) (od : Obj) : RH T (c.lock (c.ρ i) (.frz od x)) (st.set i (.lk o)) (upd H (c.ρ i) (.frz od x)) := by
  have hi : i < st.length := (List.getElem?_eq_some_iff.mp e).1
  have old : ∀ {j : Nat} {a : Ob}, j ≠ i → (st.set i (.lk o))[j]? = some a → st[j]? = some a := fun {j a} hj q => by
    rw [List.getElem?_set_ne (Ne.symm hj)] at q
    exact q
  have self : ∀ {a : Ob}, (st.set i (.lk o))[i]? = some a → a = .lk o := fun {a} q => by
    rw [List.getElem?_set_self hi] at q
    exact (Option.some.inj q).symm
  have ln := h.lk_no e hd k
  refine ⟨by show c.n = _; rw [h.n, List.length_set], fun a u q => ?_, fun j a q da => ?_, fun j l a b ea da eb db q => ?_, fun a u q => ?_, fun q hq => (h.tab q hq).mono (fun _ _ z => z) (tbl_upd (.inr (let ⟨y, h1, h2, _⟩ := h.act i o e hd; ⟨y, h1, h2.notbl⟩)) ·), h.ntb⟩
  · obtain ⟨_, _, _, h3⟩ := h.act i o e hd
    have q' : c.F a = some u := q
    rw [upd_ne (fun z => by rw [z, h3] at q'; cases q')]
    exact h.sub a u q'
  · by_cases hj : j = i
    · subst hj
      cases self q
      obtain ⟨_, _, _, h3⟩ := h.act j o e hd
      exact ⟨.frz od x, upd_same, ⟨od, x, rfl, upd_same, r.wL1 k⟩, h3⟩
    · have q' := old hj q
      obtain ⟨y, h1, h2, h3⟩ := h.act j a q' da
      have ne : c.ρ j ≠ c.ρ i := fun z => hj (h.inj j i a o q' da e hd z)
      refine ⟨y, ?_, h2.wL fun h' z => ?_, h3⟩
      · show upd H (c.ρ i) _ (c.ρ j) = _
        rw [upd_ne ne]
        exact h1
      · show upd c.L (c.ρ i) _ (c.ρ j) = _
        rw [upd_ne ne]
        exact z
  · have q' : c.ρ j = c.ρ l := q
    by_cases hj : j = i
    · by_cases hl : l = i
      · rw [hj, hl]
      · subst hj
        exact h.inj j l o b e hd (old hl eb) db q'
    · by_cases hl : l = i
      · subst hl
        exact h.inj j l a o (old hj ea) da e hd q'
      · exact h.inj j l a b (old hj ea) da (old hl eb) db q'
  · have q' : upd c.L (c.ρ i) (.frz od x) a = some u := q
    by_cases z : a = c.ρ i
    · subst z
      rw [upd_same] at q' ⊢
      cases q'
      exact ⟨rfl, od, x, rfl⟩
    · rw [upd_ne z] at q' ⊢
      exact h.lkd a u q'
theorem RH.unlock (h : RH T c st H) (e : st[i]? = some (.lk o)) (hd : o ≠ .dead) (k : o.isLk = false) : ∃ od y, H (c.ρ i) = some (.frz od y) ∧ c.L (c.ρ i) = some (.frz od y) ∧ RO T c o (c.ρ i) y ∧ RH T (c.unlock (c.ρ i)) (st.set i o) (upd H (c.ρ i) y) := by
  have hi : i < st.length := (List.getElem?_eq_some_iff.mp e).1
  have old : ∀ {j : Nat} {a : Ob}, j ≠ i → (st.set i o)[j]? = some a → st[j]? = some a := fun {j a} hj q => by
    rw [List.getElem?_set_ne (Ne.symm hj)] at q
    exact q
  have self : ∀ {a : Ob}, (st.set i o)[i]? = some a → a = o := fun {a} q => by
    rw [List.getElem?_set_self hi] at q
    exact (Option.some.inj q).symm
  have ld : Ob.lk o ≠ .dead := fun z => nomatch z
  obtain ⟨y, h1, ⟨od, x, rfl, hl, r⟩, h3⟩ := h.act i _ e ld
  refine ⟨od, x, h1, hl, r, by show c.n = _; rw [h.n, List.length_set], fun a u q => ?_, fun j a q da => ?_, fun j l a b ea da eb db q => ?_, fun a u q => ?_, fun q hq => (h.tab q hq).mono (fun _ _ z => z) (tbl_upd (.inr ⟨_, h1, rfl⟩) ·), h.ntb⟩
  · have q' : c.F a = some u := q
    rw [upd_ne (fun z => by rw [z, h3] at q'; cases q')]
    exact h.sub a u q'
  · by_cases hj : j = i
    · subst hj
      cases self q
      exact ⟨x, upd_same, r.wL1 k, h3⟩
    · have q' := old hj q
      obtain ⟨z, k1, k2, k3⟩ := h.act j a q' da
      have ne : c.ρ j ≠ c.ρ i := fun w => hj (h.inj j i a _ q' da e ld w)
      refine ⟨z, ?_, k2.wL fun h' w => ?_, k3⟩
      · show upd H (c.ρ i) _ (c.ρ j) = _
        rw [upd_ne ne]
        exact k1
      · show (open Classical in if c.ρ j = c.ρ i then none else c.L (c.ρ j)) = _
        rw [if_neg ne]
        exact w
  · have q' : c.ρ j = c.ρ l := q
    by_cases hj : j = i
    · by_cases hl : l = i
      · rw [hj, hl]
      · subst hj
        exact h.inj j l _ b e ld (old hl eb) db q'
    · by_cases hl : l = i
      · subst hl
        exact h.inj j l a _ (old hj ea) da e ld q'
      · exact h.inj j l a b (old hj ea) da (old hl eb) db q'
  · have q' : (open Classical in if a = c.ρ i then none else c.L a) = some u := q
    by_cases z : a = c.ρ i
    · rw [if_pos z] at q'
      cases q'
    · rw [if_neg z] at q'
      rw [upd_ne z]
      exact h.lkd a u q'
end

section
variable {X : Cx}
end
section
variable {X : Cx} {T : Tb} {P : Pin} {Wx : WX} {e : Expr} {s : Stmt} {m md : ME} {ms : MS}
end

section
variable {X : Cx} {T : Tb} {P : Pin} {Wx : WX} {tg e : Expr} {m : ME}
theorem RpK.getV {κ : Type} {c : Cn} : ∀ {us : List (κ × U)} {vs : List (κ × V)} {i : Nat} {k : κ} {v : V}, RpK T c us vs → vs[i]? = some (k, v) → ∃ u, us[i]? = some (k, u)
  | _, _, _, _, _, .nil, e => by simp at e
  | _, _, 0, _, _, .cons r _, e => by simp at e; obtain ⟨rfl, rfl⟩ := e; exact ⟨_, rfl⟩
  | _, _, i + 1, k, v, .cons _ t, e => by
    obtain ⟨u, h1⟩ := RpK.getV (i := i) (k := k) (v := v) t (by simpa using e)
    exact ⟨u, by simpa using h1⟩
end
end NK

namespace NK
open PySem PySem.Spec PyProof.Rows L2 GenW
section
variable {prog : Program} {w : World} {A : Around} {R : GenEnd} {Y : Protocol} {n : Nat} {s₀ s : Shared} {fs : List Frame} {env : PySem.Env}
end
section
variable {X : Cx}
end
end NK

namespace NK
open PySem PySem.Spec PyProof.Rows L2
inductive GO where
  | next (ys : List U) (env : Env) (st : Sto)
  | ret (ys : List U) (st : Sto)
  | brk (ys : List U) (env : Env) (st : Sto)
  | cont (ys : List U) (env : Env) (st : Sto)
  | exc (x : Ex) (env : Env) (st : Sto)
  | bad
abbrev MGS := List U → Env → Sto → GO
def ResY (T : Tb) (P : Pin) (Wx : WX) (c : Cn) (r : GO) (D : GEnds) : Prop := match r with
  | .next ys env st => ∀ c' zs σ' H', Le c c' → RH T c' st H' → RE T P c' env σ' → RpL T c' ys zs → D.nx zs σ' H'
  | .ret ys st => ∀ c' zs H', Le c c' → RH T c' st H' → RpL T c' ys zs → D.rt zs .non H'
  | .brk ys env st => ∀ c' zs σ' H', Le c c' → RH T c' st H' → RE T P c' env σ' → RpL T c' ys zs → D.bk zs σ' H'
  | .cont ys env st => ∀ c' zs σ' H', Le c c' → RH T c' st H' → RE T P c' env σ' → RpL T c' ys zs → D.ct zs σ' H'
  | .exc x env st => ∀ c' cls d σ' H', Le c c' → RH T c' st H' → RE T P c' env σ' → RX T c' x cls d → Wx cls d σ' H'
  | .bad => False
theorem GS.imp {X : Cx} {s : Stmt} {t t' : TGn} (h : GS X s t) (k : ∀ D ys σ H, t' D ys σ H → t D ys σ H) : GS X s t' :=
  ⟨fun A S ip R n ys s₀ c fs K J gd lv s σ H D g hn kk hI ht => h.run A S ip R n ys s₀ c fs K J gd lv s σ H D g hn kk hI (k _ _ _ _ ht)⟩
theorem GSs.imp {X : Cx} {s : List Stmt} {t t' : TGn} (h : GSs X s t) (k : ∀ D ys σ H, t' D ys σ H → t D ys σ H) : GSs X s t' :=
  ⟨fun A S ip R n ys s₀ c fs K J gd lv s σ H D g hn kk hI ht => h.run A S ip R n ys s₀ c fs K J gd lv s σ H D g hn kk hI (k _ _ _ _ ht)⟩
section
variable {T : Tb} {P : Pin} {Wx : WX} {c c' : Cn} {r : GO} {D : GEnds}
theorem ResY.later (l : Le c c') (h : ResY T P Wx c r D) : ResY T P Wx c' r D := by
  cases r with
  | next ys env st => exact fun c2 zs σ' H' a b d e => h c2 zs σ' H' (l.trans a) b d e
  | ret ys st => exact fun c2 zs H' a b d => h c2 zs H' (l.trans a) b d
  | brk ys env st => exact fun c2 zs σ' H' a b d e => h c2 zs σ' H' (l.trans a) b d e
  | cont ys env st => exact fun c2 zs σ' H' a b d e => h c2 zs σ' H' (l.trans a) b d e
  | exc x env st => exact fun c2 cls d σ' H' a b e f => h c2 cls d σ' H' (l.trans a) b e f
  | bad => exact h
end
def GO.bind (r : GO) (k : MGS) : GO := match r with
  | .next ys env st => k ys env st
  | r => r
def gNil : MGS := fun ys env st => .next ys env st
section
variable {X : Cx} {T : Tb} {P : Pin} {Wx : WX} {s : Stmt} {rest : List Stmt} {e : Expr} {ma mb : MGS} {ms : MS} {m : ME} {pos yp : Pos}
end
abbrev MGF := List U → Sto → Out (List U)
section
variable {P : Program} {w : World} {K : PySem.W.Frag} {mg : Str → Option Value} {base : Heap} {T : Tb} {x qual : Str} {params : Arguments} {body : List Stmt} {scope : Scope} {dvs : List V} {kws : List (Str × V)} {f : Addr} {fd : FuncData} {N ps : List Str} {k : Nat} {mb : MGS}
end
section
variable {X : Cx} {T : Tb} {P : Pin} {Wx : WX} {k n : Nat} {f : Addr} {fd : FuncData} {ps : List Str} {mf : MGF} {dus : List U} {dvs : List V} {ds : List Value} {x : Str} {p p2 pos pos' : Pos} {e : Expr} {es : List Expr} {ma : MA}
end
end NK

namespace NK
open PySem PySem.Spec PyProof.Rows L2
section
variable {prog : Program} {w : World} {A : Around} {E : Value → Shared → Prop} {s : Shared} {K : PySem.W.Frag} {x C Lf f : Addr} {h₀ : Heap} {m : Str → Option Value} {ox : Obj} {od : Option Obj} {name : Str} {b tb : Value}
end
section
variable {X : Cx} {T : Tb}
end

section
variable {P : Program} {w : World} {K : PySem.W.Frag} {mg : Str → Option Value} {base : Heap} {T : Tb} {x qual pv : Str} {params : Arguments} {body : List Stmt} {scope : Scope} {dvs : List V} {kws : List (Str × V)} {f : Addr} {fd : FuncData} {N ps : List Str} {k : Nat} {mb : MS}
end
section
variable {X : Cx} {T : Tb} {P : Pin} {Wx : WX} {k kk n : Nat} {f : Addr} {mf : MF} {mn : Str} {o e : Expr} {es : List Expr} {mo : ME} {mas : MA} {pos apos : Pos}
end
end NK

namespace NK
open PySem PySem.Spec PyProof.Rows L2
section
variable {X : Cx} {T : Tb} {P : Pin} {Wx : WX} {o e : Expr} {mo me : ME} {ma : MA} {apos pos p2 : Pos}
end
end NK

namespace NK
open PySem PySem.Spec PyProof.Rows L2
section
variable {X : Cx} {T : Tb} {P : Pin} {Wx : WX} {o e : Expr} {mo me m : ME} {ma : MA} {apos pos p2 : Pos}
open Builtin Builtin.Str Builtin.Float in
open Builtin Builtin.Str Builtin.Float in
open Builtin Builtin.Str Builtin.Float in
inductive PJm (X : Cx) (T : Tb) (P : Pin) (Wx : WX) : List Expr → List ME → Prop where
  | nil : PJm X T P Wx [] []
  | cons {e : Expr} {m : ME} {es : List Expr} {ms : List ME} (h : PEm X T P Wx e m) (r : PJm X T P Wx es ms) : PJm X T P Wx (e :: es) (m :: ms)
def firstD (d : PyData) : List PyData → Nat → Option Nat
  | [], _ => none
  | z :: ds, k => if PyData.eqv z d = true then some k else firstD d ds (k + 1)
theorem firstD_at {d : PyData} : ∀ (ds : List PyData) (k j : Nat), firstD d ds k = some j → k ≤ j ∧ ∃ z, ds[j - k]? = some z ∧ PyData.eqv z d = true ∧ ∀ (m : Nat) (z' : PyData), m < j - k → ds[m]? = some z' → PyData.eqv z' d = false
  | [], k, j, h => by cases h
  | z :: ds, k, j, h => by
    unfold firstD at h
    split at h
    · rename_i e
      cases h
      exact ⟨Nat.le_refl _, z, by rw [Nat.sub_self]; rfl, e, fun m z' hm => by omega⟩
    · rename_i e
      obtain ⟨h1, z1, h2, h3, h4⟩ := firstD_at ds (k + 1) j h
      refine ⟨by omega, z1, ?_, h3, fun m z' hm hz => ?_⟩
      · rw [show j - k = (j - (k + 1)) + 1 by omega, List.getElem?_cons_succ]
        exact h2
      · cases m with
        | zero =>
          cases hz
          exact Bool.eq_false_iff.mpr e
        | succ m => exact h4 m z' (by omega) hz
def fIndex : U → List U → Sto → Out U := fun u ws st => match ws with
  | [w] => match toD st 12 u, toD st 12 w with
    | some (.list ds), some d => if SeqAt.shaped d = true ∧ SeqAt.shaped (.list ds) = true then (match firstD d ds 0 with
      | some j => .ok (.int (j : Nat)) st
      | none => .bad) else .bad
    | _, _ => .bad
  | _ => .bad
theorem sim_index : MtSim T (rIndexD T.K) fIndex := fun Wx c σ st H u x us xs Q hH ru r hR => by
  cases r with
  | nil => exact hR.elim
  | @cons w y ws ys r1 t =>
    cases t with
    | cons _ _ => exact hR.elim
    | nil =>
      dsimp only [fIndex] at hR
      split at hR
      · rename_i ds d e1 e2
        split at hR
        · rename_i hs
          split at hR
          · rename_i j hj
            obtain ⟨_, z, h1, h2, h3⟩ := firstD_at ds 0 j hj
            have hd := toD_at hH _ _ _ _ ru e1
            cases hd with
            | lst ha hb =>
              exact ⟨_, y, d, ds, j, z, rfl, rfl, .lst ha hb, toD_at hH _ _ _ _ r1 e2, hs.2, hs.1, h1, h2, h3, ResG.ret hR hH (.int _)⟩
          · exact hR.elim
        · exact hR.elim
      · exact hR.elim
end
end NK

namespace NK
open PySem PySem.Spec PyProof.Rows L2
section
variable {X : Cx} {T : Tb} {P : Pin} {Wx : WX} {e : Expr} {me : ME} {j : Nat} {sps spj pos : Pos}
end
end NK

namespace NK
open PySem L2
section
variable {X : Cx} {pins : List (Addr × Obj)} {σ : L2.St} {H : Hp} {s : Shared} {a b : Addr} {ks : List Key} {kvs : List (List Key × V)} {A : Around} {E : Value → Shared → Prop}
open PySem PySem.Spec PyProof.Rows in
open PySem PySem.Spec PyProof.Rows in
open PySem PySem.Spec PyProof.Rows in
end
section
variable {X : Cx} {T : Tb} {P : Pin} {Wx : WX} {o i : Expr} {mo mi : ME} {pos : Pos}
end
end NK

namespace NK
open PySem L2
end NK

namespace L2
open PySem PySem.Spec PyProof.Rows
inductive HdsAs (X : Cx) (n : Str) : List ExceptHandler → List (Value × (Addr → Value → Option Addr → TS)) → Prop
  | nil : HdsAs X n [] []
  | cons {x : Str} {c : Value} {ts : Addr → Value → Option Addr → TS} {b₀9 : Stmt} {suite9 : List Stmt} {np9 posp9 : Pos} {hds9 : List ExceptHandler} {l : List (Value × (Addr → Value → Option Addr → TS))} (hc9 : Names X x c)
      (hsu9 : ∀ (a9 : Addr) (oe9 : Obj) (cls9 : Value) (d9 : Option Addr) (pn9 : List (Addr × Obj)), Zc cls9 d9 oe9 → (∃ vs9, oe9.data = .fields vs9) → PSs (X.suite a9 ((a9, oe9) :: pn9)) (b₀9 :: suite9) (ts a9 cls9 d9)) (r : HdsAs X n hds9 l) :
      HdsAs X n (.ExceptHandler (some (.Name x np9)) (some n) (b₀9 :: suite9) posp9 :: hds9) ((c, ts) :: l)
section
variable {X : Cx} {n : Str} {i : Nat} {body : List Stmt} {h₀ : ExceptHandler} {hds9 : List ExceptHandler} {l : List (Value × (Addr → Value → Option Addr → TS))} {pos : Pos} {tb : WX → TS} {Wout : WX}
end
end L2
namespace NK
open PySem L2
section
variable {X : Cx} {T : Tb} {P : Pin} {Wx : WX}
end
end NK

namespace NK
open PySem L2 LamX
def FnO (f : Addr) (ob : Obj) : HO := .ext fun h => h.get? f = some ob
def Made (P : Addr) (q : Str) (H H1 : Hp) (k : Addr) : Prop := ∃ ps : Array Value, H P = some (.tbl ps) ∧ ((H1 = H ∧ ∃ z, codeAmong z ps.toList = some (.ref k)) ∨
  (H k = none ∧ ∃ ps' : Array Value, H1 = upd (upd H P (.tbl ps')) k (CodeO k q) ∧ TriplesOk ps'.toList ∧ ∀ z v, codeAmong z ps'.toList = some v → codeAmong z ps.toList = some v ∨ v = .ref k))
def Tabl (P : Addr) (H : Hp) : Prop := ∃ ps : Array Value, H P = some (.tbl ps) ∧ TriplesOk ps.toList ∧ ∀ z v, codeAmong z ps.toList = some v → ∃ a, v = .ref a
structure LamD where
  params : Arguments
  body : Expr
  scope : Scope
def LamD.obj (X : Cx) (d : LamD) (pm : Value) (k : Addr) (ctv : Value) : Obj := PySem.W.kla_obj "<lambda>" (X.env.qual ++ "<lambda>") d.params d.body d.scope (cloFrom X.env.cells d.scope.names []) pm k ctv
def tLamV (X : Cx) (P : Addr) (d : LamD) : TE := fun _ H Q => Tabl P H ∧ ∀ f k pm ctv H1, Made P (X.env.qual ++ "<lambda>") H H1 k → H1 f = none → Q (.ref f) (upd H1 f (FnO f (d.obj X pm k ctv)))
section
variable {X : Cx} {pins : List (Addr × Obj)} {σ : L2.St} {H : Hp} {s : Shared}
theorem inv_fn {h1 : Heap} {tk : Nat} (I : Inv X pins σ H { s with heap := h1, toks := tk }) (ob : Obj) (hfr : ob.isFreed = false) : Inv X pins σ (upd H h1.objs.size (FnO h1.objs.size ob)) { s with heap := h1.push ob, toks := tk } :=
  I.laid (h' := h1.push ob) (t' := tk) (fun b o e => Heap.get?_push_of_some _ e) (Nat.le_refl _) ⟨Heap.get?_push_size _ hfr, ⟨ob, Heap.get?_push_size _ hfr⟩, fun g1 g2 e st => st _ e⟩
open PySem PySem.Spec PyProof.Rows in
theorem pe_lam {d : LamD} {c P : Addr} {pos : Pos} (TB : TabB X.base X.mg c P) (hcode : X.env.code = .ref c) (hdef : defaultsOf d.params X.env = ([], [])) (L : LamS X.env.scope d.scope) : PE X (.Lambda d.params d.body d.scope pos) (tLamV X P d) := by
  refine ⟨fun pins s σ H Q I h => ?_⟩
  obtain ⟨⟨ps, hP, ht, ha⟩, go⟩ := h
  have bP : s.heap.BuiltinsAt X.mg P := TB.bm.keeps I.bk
  have gP : s.heap.get? P = some { cls := .none, data := .fields ps } := I.hok P _ hP
  have cl := closure_ok (L.has I.ok)
  refine PySem.W.kla_eval hdef ?_
  cases hc : codeAmong pos ps.toList with
  | none =>
    refine PySem.W.kla_makeFunction (mg := X.mg) (c := c) (P := P) (ps := ps) cl I.ok.glob (I.mod.glob.keeps I.bk) hcode (TB.code.keeps I.bk) gP ht hc TB.gP bP fun k ctv h1 tk hx hge hlt hrec htb => ?_
    obtain ⟨k2, oc, vs, t, e2, g1, g2, g3⟩ := hrec
    cases e2
    have J := inv_table (t' := tk) (more := #[rawInt pos.line, rawInt pos.col, .ref k]) (h' := h1) I hP (fun b o hb e => hx b o hb e) htb hge ⟨oc, vs, t, g1, g2, g3⟩
    have J2 := inv_fn J (d.obj X ((X.mg "__name__").getD .none) k ctv) rfl
    have nk : H k = none := I.hok.fresh hge
    have el : (ps ++ #[rawInt pos.line, rawInt pos.col, .ref k]).toList = ps.toList ++ [rawInt pos.line, rawInt pos.col, .ref k] := by simp
    refine ⟨.ref h1.objs.size, _, J2, rfl, go h1.objs.size k _ ctv _ ⟨ps, hP, .inr ⟨nk, _, rfl, by rw [el]; exact PySem.TriplesOk_snoc _ _ _ _ ht, fun z v e => ?_⟩⟩ (J.hok.fresh (Nat.le_refl _))⟩
    rw [el] at e
    exact among_app _ ht e
  | some cv =>
    obtain ⟨k, e⟩ := ha pos cv hc
    subst e
    refine PySem.W.kla_makeFunctionHit (mg := X.mg) (c := c) (P := P) (ps := ps) cl I.ok.glob (I.mod.glob.keeps I.bk) hcode (TB.code.keeps I.bk) gP ht hc bP fun ctv h1 tk hx hsz => ?_
    have J : Inv X pins σ H { s with heap := h1, toks := tk } := I.kept hx
    have J2 := inv_fn J (d.obj X ((X.mg "__name__").getD .none) k ctv) rfl
    exact ⟨.ref h1.objs.size, _, J2, rfl, go h1.objs.size k _ ctv _ ⟨ps, hP, .inl ⟨rfl, pos, hc⟩⟩ (J.hok.fresh (Nat.le_refl _))⟩
end
section
variable {T : Tb} {c : Cn} {st : Sto} {H H1 : Hp} {P k : Addr} {q : Str}
theorem tabl_of (h : RH T c st H) (hq : (P, q) ∈ T.tabs) : Tabl P H := by
  obtain ⟨ps, h1, h2, h3⟩ := h.tab _ hq
  exact ⟨ps, h1, h2, fun z v e => let ⟨a, e1, _⟩ := h3 z v e; ⟨a, e1⟩⟩
theorem rh_made (h : RH T c st H) (hq : (P, q) ∈ T.tabs) (hu : ∀ p ∈ T.tabs, p.1 = P → p.2 = q) (m : Made P q H H1 k) :
    ∃ c1, Le c c1 ∧ RH T c1 st H1 ∧ c1.F k = some (CodeO k q) ∧ (∀ i, c1.ρ i = c.ρ i) ∧ ∀ b o, H b = some o → isTbl o = false → H1 b = some o ∧ (c.F b = none → c1.F b = none) := by
  obtain ⟨ps, hP, m⟩ := m
  rcases m with ⟨rfl, z, hz⟩ | ⟨hk, ps', rfl, t', ha⟩
  · obtain ⟨ps2, e1, _, e3⟩ := h.tab _ hq
    have e1 : H1 P = some (.tbl ps2) := e1
    rw [hP] at e1
    cases e1
    obtain ⟨a, ea, hF⟩ := e3 z _ hz
    cases ea
    exact ⟨c, Le.refl c, h, hF, fun _ => rfl, fun b o e _ => ⟨e, fun z => z⟩⟩
  · have l := le_still h hk (CodeO k q)
    have nP : k ≠ P := fun e => by
      rw [e, hP] at hk
      cases hk
    have at_ : ∀ b o, H b = some o → isTbl o = false → upd (upd H P (.tbl ps')) k (CodeO k q) b = some o := fun b o e ko => by
      rw [upd_ne (fun z => by rw [z, hk] at e; cases e), upd_ne (fun z => by rw [z, hP] at e; cases e; cases ko)]
      exact e
    refine ⟨c.still k (CodeO k q), l, ⟨h.n, fun a u e => ?_, fun i ob e d => ?_, h.inj, fun a u e => ?_, fun p hp => ?_, fun a u e => ?_⟩, ?_, fun _ => rfl, fun b o e ko => ⟨at_ b o e ko, fun z => ?_⟩⟩
    · have e1 : upd c.F k (CodeO k q) a = some u := e
      by_cases z : a = k
      · rw [z, upd_same] at e1 ⊢
        exact e1
      · rw [upd_ne z] at e1
        exact at_ a u (h.sub a u e1) (h.ntb a u e1)
    · obtain ⟨x, h1, h2, h3⟩ := h.act i ob e d
      refine ⟨x, at_ _ _ h1 h2.notbl, h2.mono l, ?_⟩
      show upd c.F k (CodeO k q) (c.ρ i) = _
      rw [upd_ne (h.ne_new hk e d)]
      exact h3
    · obtain ⟨e1, od, x, e2⟩ := h.lkd a u e
      exact ⟨at_ a u e1 (by rw [e2]; rfl), od, x, e2⟩
    · obtain ⟨ps2, e1, e2, e3⟩ := h.tab p hp
      by_cases z : p.1 = P
      · rw [z] at e1
        rw [hP] at e1
        cases e1
        refine ⟨ps', ?_, t', fun z1 v e => ?_⟩
        · rw [z, upd_ne (Ne.symm nP), upd_same]
        · rcases ha z1 v e with e4 | e4
          · obtain ⟨a, e5, e6⟩ := e3 z1 v e4
            exact ⟨a, e5, l.F _ _ e6⟩
          · refine ⟨k, e4, ?_⟩
            rw [hu p hp z]
            exact upd_same
      · refine ⟨ps2, ?_, e2, fun z1 v e => ?_⟩
        · rw [upd_ne (fun y => by rw [y, hk] at e1; cases e1), upd_ne z]
          exact e1
        · obtain ⟨a, e5, e6⟩ := e3 z1 v e
          exact ⟨a, e5, l.F _ _ e6⟩
    · have e1 : upd c.F k (CodeO k q) a = some u := e
      by_cases z : a = k
      · rw [z, upd_same] at e1
        cases e1
        rfl
      · rw [upd_ne z] at e1
        exact h.ntb a u e1
    · exact upd_same
    · show upd c.F k (CodeO k q) b = none
      rw [upd_ne (fun y => by rw [y, hk] at e; cases e)]
      exact z
theorem RH.other (h : RH T c st H) {b : Addr} {o x : HO} (hb : H b = some o) (ko : isTbl o = false) (hf : c.F b = none) (hl : ∀ od y, o ≠ .frz od y) (ha : ∀ i a, st[i]? = some a → a ≠ .dead → c.ρ i ≠ b) : RH T c st (upd H b x) :=
  ⟨h.n, fun a u e => by rw [upd_ne (fun z => by rw [z, hf] at e; cases e)]; exact h.sub a u e, fun i a e d => by
    obtain ⟨y, h1, h2, h3⟩ := h.act i a e d
    exact ⟨y, by rw [upd_ne (ha i a e d)]; exact h1, h2, h3⟩, h.inj, fun a u e => by
    obtain ⟨e1, od, y, e2⟩ := h.lkd a u e
    refine ⟨?_, od, y, e2⟩
    rw [upd_ne (fun z => by rw [z, hb] at e1; cases e1; exact hl od y e2)]
    exact e1, fun p hp => (h.tab p hp).mono (fun _ _ z => z) (tbl_upd (.inr ⟨o, hb, ko⟩) ·), h.ntb⟩
def Cn.fix (c : Cn) (b : Addr) (x : HO) : Cn := { c with F := upd c.F b x }
theorem le_fix {b : Addr} {x : HO} (hf : c.F b = none) : Le c (c.fix b x) := ⟨Nat.le_refl _, fun _ _ => rfl, fun a u e => by
  show upd c.F b x a = _
  rw [upd_ne (fun z => by rw [z, hf] at e; cases e)]
  exact e, fun _ _ e => e⟩
theorem RH.fix (h : RH T c st H) {b : Addr} {x : HO} (hb : H b = some x) (ko : isTbl x = false) (hf : c.F b = none) (ha : ∀ i a, st[i]? = some a → a ≠ .dead → c.ρ i ≠ b) : RH T (c.fix b x) st H := by
  have l := le_fix (x := x) hf
  refine ⟨h.n, fun a u e => ?_, fun i a e d => ?_, h.inj, h.lkd, fun p hp => (h.tab p hp).mono l.F (fun _ z => z), fun a u e => ?_⟩
  · have e1 : upd c.F b x a = some u := e
    by_cases z : a = b
    · rw [z, upd_same] at e1
      rw [z, ← e1]
      exact hb
    · rw [upd_ne z] at e1
      exact h.sub a u e1
  · obtain ⟨y, h1, h2, h3⟩ := h.act i a e d
    refine ⟨y, h1, h2.mono l, ?_⟩
    show upd c.F b x (c.ρ i) = _
    rw [upd_ne (ha i a e d)]
    exact h3
  · have e1 : upd c.F b x a = some u := e
    by_cases z : a = b
    · rw [z, upd_same] at e1
      cases e1
      exact ko
    · rw [upd_ne z] at e1
      exact h.ntb a u e1
end
end NK

namespace NK
open PySem L2 LamX
structure LamOk (X : Cx) (T : Tb) (n : Nat) (d : LamD) (m : ME) : Prop where
  L : LamS X.env.scope d.scope
  bind : ∀ (q : Str) (cl : List (Str × Addr)) (pm cv ctv : Value), bindArgs (PySem.W.kla_fn "<lambda>" q d.params d.body d.scope cl pm cv ctv) ⟨[], []⟩ = pure []
  body : ∀ (A : Around) (outer : List PySem.Env) (s : Shared) (H : Hp) (E : XK) (f k : Addr), Room n (A.deeper (lamEnv X d.scope s.heap.objs.size f k)) → PEm (lamCx X A outer s H E d.scope f k) T none (fun cls dd _ H => E cls dd H) d.body m
section
variable {X : Cx} {T : Tb} {Wx : WX}
open PySem PySem.Spec PyProof.Rows in
end
end NK

namespace NK
open PySem L2 LamX
inductive AppsOk (X : Cx) (t : LamD → TS) (tail : List Stmt) : List Stmt → List LamD → Prop
  | nil : AppsOk X t tail tail []
  | cons {s : Stmt} {ss : List Stmt} {d : LamD} {ds : List LamD} : PS X s (t d) → AppsOk X t tail ss ds → AppsOk X t tail (s :: ss) (d :: ds)
def FnAt (X : Cx) (c : Cn) (f : Addr) (d : LamD) : Prop := ∃ k pm ctv, c.F f = some (FnO f (d.obj X pm k ctv)) ∧ c.F k = some (CodeO k (X.env.qual ++ "<lambda>"))
theorem FnAt.mono {X : Cx} {c c' : Cn} (l : Le c c') {f : Addr} {d : LamD} (h : FnAt X c f d) : FnAt X c' f d := let ⟨k, pm, ctv, e1, e2⟩ := h; ⟨k, pm, ctv, l.F _ _ e1, l.F _ _ e2⟩
theorem All2.snoc {α β : Type} {R : α → β → Prop} : ∀ {as : List α} {bs : List β} {a : α} {b : β}, All2 R as bs → R a b → All2 R (as ++ [a]) (bs ++ [b])
  | _, _, _, _, .nil, h => .cons h .nil
  | _, _, _, _, .cons g t, h => .cons g (All2.snoc t h)
theorem All2.at_ {α β : Type} {R : α → β → Prop} : ∀ {as : List α} {bs : List β} {i : Nat} {a : α}, All2 R as bs → as[i]? = some a → ∃ b, bs[i]? = some b ∧ R a b
  | _, _, _, _, .nil, h => by simp at h
  | _, _, 0, _, .cons g _, h => by simp at h; subst h; exact ⟨_, rfl, g⟩
  | _, _, i + 1, a, .cons _ t, h => by
    obtain ⟨b, h1, h2⟩ := All2.at_ (i := i) (a := a) t (by simpa using h)
    exact ⟨b, by simpa using h1, h2⟩
section
variable {X : Cx} {T : Tb} {il ic : Nat} {P : Addr}
end
section
variable {X : Cx} {T : Tb} {Wx : WX} {il ic : Nat}
end
end NK

namespace NK
open PySem L2 LamX
section
variable {lam a : ME} {b : Ex → ME} {isK : List Bool} {i ic : Nat} {env env1 : Env} {st st1 : Sto}
end
section
variable {X : Cx} {T : Tb} {Wx : WX} {il ic i k : Nat} {P C : Addr}
end
end NK

namespace NK
open PySem L2 LamX
section
variable {X : Cx} {T : Tb} {Wx : WX} {il ic i k : Nat} {P C : Addr}
end
section
variable {P : Program} {w : World} {K : PySem.W.Frag} {mg : Str → Option Value} {base : Heap} {T : Tb} {x qual : Str} {params : Arguments} {body : List Stmt} {scope : Scope} {dvs : List V} {kws : List (Str × V)} {f cd : Addr} {fd : FuncData} {N ps : List Str} {k : Nat} {mb : MS}
open PyProof.Rows (envOfC) in
theorem fund_okmC (F : FunD K x qual params body scope dvs kws f fd) (S : FnScope N ps scope) (hc : fd.code = .ref cd)
    (hb : ∀ (A : Around) (outer : List PySem.Env) (s : Shared) (H : Hp) (E : XK), Room k (A.deeper (envOfC qual scope s.heap.objs.size f (.ref cd))) →
      PSsm (cxOf (L2.CX P w) P w K mg base N qual scope f (.ref cd) A outer s H E) T none (fun cls d _ H => E cls d H) body mb) : FnOk P w K mg base (L2.CX P w) (k + 1) f fd ps (spOf T ps.length (fScope (runF N.length mb))) := by
  obtain ⟨oc, od, dV, kV, doc, pm, an, cdv, ct, osl, rfl, lk, hcd, _, _⟩ := F.ex
  have e : cdv = .ref cd := hc
  subst e
  refine (fn_of lk hcd S (fun vs H Q E h => h.1) (fun A outer s H vs Q E hr h => ⟨_, hb A outer s H E hr, ?_⟩) : FnOk P w K mg base (L2.CX P w) (k + 1) f _ ps (spOf T ps.length (runF N.length mb))).imp spOf_scope
  obtain ⟨hl, c, us, st0, hH, r, hR⟩ := h
  refine ⟨c, _, st0, hH, start_RE r, ?_⟩
  unfold runF at hR
  cases q : mb (us.map some ++ List.replicate (N.length - us.length) none) st0 with
  | ret u st' => rw [q] at hR; exact fun c' v H' a b d => hR c' v H' a b d
  | next env st' => rw [q] at hR; exact fun c' σ' H' a b d => hR c' .non H' a b .non
  | exc x' env st' => rw [q] at hR; exact fun c' cls d σ' H' a b _ e => hR c' cls d H' a b e
  | brk env st' => rw [q] at hR; exact hR.elim
  | cont env st' => rw [q] at hR; exact hR.elim
  | bad => rw [q] at hR; exact hR.elim
end
theorem tab_at {K : PySem.W.Frag} {x : Str} {f q P : Addr} {c1 c2 : Value} {d1 d2 : Option Addr} {s1 s2 : Array (Option Value)} {fd : FuncData} {vs : Array Value} (h1 : PySem.W.nsIn K mainGlobals x = some (some (.ref f))) (h2 : K.lookup f = some ⟨c1, d1, .func fd, s1⟩) (h3 : fd.code = .ref q)
    (h4 : K.lookup q = some ⟨c2, d2, .fields vs, s2⟩) (h5 : vs[11]? = some (.ref P)) : PySem.W.tabIn K x = some (q, P) := by
  unfold PySem.W.tabIn
  simp only [h1, h2, h3, h4, h5]
end NK

namespace NK
open PySem L2

section
variable {X : Cx} {T : Tb} {P : Pin} {Wx : WX} {mb : MS} {pos : Pos}
end

section
variable {X : Cx} {T : Tb} {P : Pin} {Wx : WX} {o e : Expr} {mo : ME} {apos cpos : Pos}
end

end NK

namespace NK
open PySem L2
open PySem.Spec PyProof.Rows

section
variable {X : Cx} {T : Tb} {P : Pin} {Wx : WX} {kk k n : Nat} {f C : Addr} {mf : MF} {x : Str} {e : Expr} {es : List Expr} {mas : MA} {p pos : Pos} {sp : Sp}
end

structure Mk0 (K : PySem.W.Frag) (C : Addr) : Prop where
  makes : PySem.W.makesIn K C = true
  init : PySem.W.findIn K (.ref C) "__init__" = some (some (.builtin "object.__init__"))
  kp : PySem.W.keepIn K (.ref C) = true
section
variable {X : Cx} {T : Tb} {P : Pin} {Wx : WX} {k : Nat} {C : Addr} {x : Str} {p pos : Pos}
end

theorem PK.imp {X : Cx} {e : List Keyword} {t t' : TA} (h : PK X e t) (k : ∀ σ H Q, t' σ H Q → t σ H Q) : PK X e t' := ⟨fun pos pins s σ H Q I q => h.run pos pins s σ H Q I (k σ H Q q)⟩
section
variable {X : Cx} {T : Tb} {P : Pin} {Wx : WX} {kk k n np nk : Nat} {f C : Addr} {fd : FuncData} {ps ks : List Str} {mf : MF} {x : Str} {e : Expr} {es : List Expr} {kws : List Keyword} {m mas mks : MA} {me : ME} {p pos kpos : Pos} {sp : Sp} {nm : Option Str}
  {g : List Value → List Value → List Value} {gV : List V → List V → List V} {gU : List U → List U → List U}
end
end NK

namespace NK
open PySem L2
open PySem.Spec PyProof.Rows
open PySem.SeqAt AutoSeq1 MeetsSeq MeetsSeq2 MeetsSeq3 SeqRoads2

section
variable {prog : Program} {w : World} {A : Around} {R : Result → Shared → Prop}
end
section
variable {prog : Program} {w : World} {A : Around} {E : Value → Shared → Prop} {s : Shared}
end

mutual
def apart (l : IsL) : U → U → Bool
  | .int i, .int j => decide (i ≠ j)
  | .str i, .str j => decide (i ≠ j)
  | .bl i, .bl j => decide (i ≠ j)
  | .non, .non => false
  | .non, .int _ => true
  | .non, .str _ => true
  | .int _, .non => true
  | .str _, .non => true
  | .int _, .str _ => true
  | .str _, .int _ => true
  | .tup us, .tup ws => apartL l us ws
  | .ins k us, .ins k' ws => if k = k' then apartL l us ws else l.lookup (.o k, .o k) == some true && l.lookup (.o k', .o k) == some false
  | _, _ => false
def apartL (l : IsL) : List U → List U → Bool
  | [], [] => false
  | [], _ :: _ => true
  | _ :: _, [] => true
  | u :: us, w :: ws => apart l u w || apartL l us ws
end
theorem relV_fun {x y : V} {u : Value} (h : RelV x u) (h' : RelV y u) : x = y := by
  cases x with
  | non => cases (show u = Value.none from h); cases y <;> first | rfl | (obtain ⟨_, e⟩ := h'; cases e; done) | (cases h'; done)
  | bl b => cases (show u = Value.bool b from h); cases y <;> first | (obtain ⟨_, e⟩ := h'; cases e; done) | (cases h'; done) | (cases h'; rfl)
  | int i => obtain ⟨t, rfl⟩ := h; cases y <;> first | (obtain ⟨_, e⟩ := h'; cases e; done) | (obtain ⟨_, e⟩ := h'; cases e; rfl) | (cases h'; done)
  | str i => obtain ⟨t, rfl⟩ := h; cases y <;> first | (obtain ⟨_, e⟩ := h'; cases e; done) | (obtain ⟨_, e⟩ := h'; cases e; rfl) | (cases h'; done)
  | byt i => obtain ⟨t, rfl⟩ := h; cases y <;> first | (obtain ⟨_, e⟩ := h'; cases e; done) | (obtain ⟨_, e⟩ := h'; cases e; rfl) | (cases h'; done)
  | flt i => obtain ⟨t, rfl⟩ := h; cases y <;> first | (obtain ⟨_, e⟩ := h'; cases e; done) | (obtain ⟨_, e⟩ := h'; cases e; rfl) | (cases h'; done)
  | ref a => cases (show u = Value.ref a from h); cases y <;> first | (obtain ⟨_, e⟩ := h'; cases e; done) | (cases h'; done) | (cases h'; rfl)
  | ty n => cases (show u = Value.type n from h); cases y <;> first | (obtain ⟨_, e⟩ := h'; cases e; done) | (cases h'; done) | (cases h'; rfl)
theorem vals_fun : ∀ {xs ys : List V} {us : List Value}, Vals xs us → Vals ys us → xs = ys
  | _, _, _, .nil, .nil => rfl
  | _, _, _, .cons a b, .cons c d => by rw [relV_fun a c, vals_fun b d]
theorem zip_fun : ∀ {ns : List Str} {vs ws : List V}, vs.length ≤ ns.length → ws.length ≤ ns.length → ns.zip vs = ns.zip ws → vs = ws
  | _, [], [], _, _, _ => rfl
  | _ :: _, [], _ :: _, _, _, e => by simp at e
  | _ :: _, _ :: _, [], _, _, e => by simp at e
  | [], _ :: _, _, h, _, _ => by simp at h
  | [], [], _ :: _, _, h, _ => by simp at h
  | n :: ns, v :: vs, w :: ws, h, h', e => by
    simp only [List.zip_cons_cons, List.cons.injEq, Prod.mk.injEq, true_and] at e
    rw [e.1, zip_fun (by simpa using h) (by simpa using h') e.2]
section
variable {X : Cx} {T : Tb} {l : IsL} {c : Cn} {st : Sto} {H : Hp} {pins : List (Addr × Obj)} {σ : L2.St} {s : Shared}
mutual
theorem apart_ne (I : Inv X pins σ H s) (hK : X.K = T.K) (ok : IsOk T l) (hH : RH T c st H) : ∀ {u w : U} {x : V}, apart l u w = true → Rp T c u x → Rp T c w x → False
  | .int i, .int j, x, e, r, r' => by cases r.inv_int; cases r'.inv_int; simp [apart] at e
  | .str i, .str j, x, e, r, r' => by cases r.inv_str; cases r'.inv_str; simp [apart] at e
  | .bl i, .bl j, x, e, r, r' => by cases r.inv_bl; cases r'.inv_bl; simp [apart] at e
  | .non, .int _, x, e, r, r' => by cases r.inv_non; cases r'.inv_int
  | .non, .str _, x, e, r, r' => by cases r.inv_non; cases r'.inv_str
  | .int _, .non, x, e, r, r' => by cases r'.inv_non; cases r.inv_int
  | .str _, .non, x, e, r, r' => by cases r'.inv_non; cases r.inv_str
  | .int _, .str _, x, e, r, r' => by cases r'.inv_str; cases r.inv_int
  | .str _, .int _, x, e, r, r' => by cases r.inv_str; cases r'.inv_int
  | .tup us, .tup ws, x, e, r, r' => by
    obtain ⟨a, vs, rfl, h1, h2⟩ := r.inv_tup
    obtain ⟨b, zs, eb, h3, h4⟩ := r'.inv_tup
    cases eb
    obtain ⟨its, q1, t1, _⟩ := I.tuple (by rw [hK]; exact sqT_up hH h1)
    obtain ⟨its2, q2, t2, _⟩ := I.tuple (by rw [hK]; exact sqT_up hH h3)
    obtain ⟨o, ho, _, n, hd⟩ := t1
    obtain ⟨o', ho', _, n', hd'⟩ := t2
    rw [ho] at ho'
    cases ho'
    rw [hd] at hd'
    injection hd' with hd1 _
    have hd2 : its = its2 := by simpa using hd1
    subst hd2
    cases vals_fun q1 q2
    exact apartL_ne I hK ok hH e h2 h4
  | .ins k us, .ins k' ws, x, e, r, r' => by
    obtain ⟨a, dx, vs, rfl, h1, h2, h3⟩ := r.inv_ins
    obtain ⟨b, dy, zs, eb, h4, h5, h6⟩ := r'.inv_ins
    cases eb
    rw [h1] at h4
    simp only [Option.some.injEq, HO.ins.injEq] at h4
    obtain ⟨ec, _, ez⟩ := h4
    unfold apart at e
    split at e
    · rename_i hk
      subst hk
      cases zip_fun h2 h5 ez
      exact apartL_ne I hK ok hH e h3 h6
    · rename_i hk
      simp only [Bool.and_eq_true, beq_iff_eq] at e
      obtain ⟨_, q1⟩ := ok _ (mem_lookup e.1)
      obtain ⟨_, q2⟩ := ok _ (mem_lookup e.2)
      have q1' : PySem.W.kitOne T.K (.ref (T.cls k)) (.ref (T.cls k)) = some true := q1
      have q2' : PySem.W.kitOne T.K (.ref (T.cls k')) (.ref (T.cls k)) = some false := q2
      rw [← ec, q1'] at q2'
      cases q2'
theorem apartL_ne (I : Inv X pins σ H s) (hK : X.K = T.K) (ok : IsOk T l) (hH : RH T c st H) : ∀ {us ws : List U} {xs : List V}, apartL l us ws = true → RpL T c us xs → RpL T c ws xs → False
  | [], [], _, e, _, _ => by simp [apartL] at e
  | [], _ :: _, _, _, r, r' => by cases r.inv_nil; cases r'
  | _ :: _, [], _, _, r, r' => by cases r'.inv_nil; cases r
  | u :: us, w :: ws, _, e, r, r' => by
    obtain ⟨v, vs, rfl, h1, h2⟩ := r.inv_cons
    obtain ⟨v', vs', e', h3, h4⟩ := r'.inv_cons
    cases e'
    unfold apartL at e
    rcases Bool.or_eq_true_iff.mp e with e | e
    · exact apart_ne I hK ok hH e h1 h3
    · exact apartL_ne I hK ok hH e h2 h4
end
end

def EqN (X : Cx) (T : Tb) (n : Nat) (f : U → U → Sto → Out Bool) : Prop :=
  ∀ (A : Around) (pins : List (Addr × Obj)) (s : Shared) (σ : L2.St) (H : Hp) (c : Cn) (st st' : Sto) (u w : U) (x y : V) (p q : Value) (b : Bool), Sub X n A → Inv X pins σ H s → RelV x p → RelV y q → RH T c st H → Rp T c u x → Rp T c w y → f u w st = .ok b st' →
    wpAny (model X.prog X.w) A (eqBool p q) (fun r s' => r = b ∧ ∃ c' H', Le c c' ∧ RH T c' st' H' ∧ Inv X pins σ H' s') X.xe s
def RcN (X : Cx) (T : Tb) (n : Nat) (f : U → U → Sto → Out Bool) : Prop :=
  ∀ (A : Around) (pins : List (Addr × Obj)) (s : Shared) (σ : L2.St) (H : Hp) (c : Cn) (st st' : Sto) (u w : U) (x y : V) (p q : Value) (b : Bool), Sub X n A → Inv X pins σ H s → RelV x p → RelV y q → RH T c st H → Rp T c u x → Rp T c w y → f u w st = .ok b st' →
    wpAny (model X.prog X.w) A (richCompare .Eq p q) (fun r s' => r = .bool b ∧ ∃ c' H', Le c c' ∧ RH T c' st' H' ∧ Inv X pins σ H' s') X.xe s
section
variable {X : Cx} {T : Tb} {l : IsL} {n m : Nat} {f g : U → U → Sto → Out Bool}
theorem EqN.mono (h : EqN X T n f) (hn : n ≤ m) : EqN X T m f := fun A pins s σ H c st st' u w x y p q b sb => h A pins s σ H c st st' u w x y p q b (sb.mono hn)
theorem RcN.mono (h : RcN X T n f) (hn : n ≤ m) : RcN X T m f := fun A pins s σ H c st st' u w x y p q b sb => h A pins s σ H c st st' u w x y p q b (sb.mono hn)
def altB (k : U → Sto → Bool) (f g : U → U → Sto → Out Bool) : U → U → Sto → Out Bool := fun u w st => if k u st = true then f u w st else g u w st
theorem RcN.alt {k : U → Sto → Bool} (h : RcN X T n f) (h' : RcN X T n g) : RcN X T n (altB k f g) := fun A pins s σ H c st st' u w x y p q b sb I rx ry hH r1 r2 e => by
  unfold altB at e
  split at e
  · exact h A pins s σ H c st st' u w x y p q b sb I rx ry hH r1 r2 e
  · exact h' A pins s σ H c st st' u w x y p q b sb I rx ry hH r1 r2 e
end
end NK

namespace NK
open PySem L2
open PySem.Spec PyProof.Rows

section
variable {X : Cx} {T : Tb}
theorem CallR.or {g : Value} {r r' : List V → Hp → VK → Prop} (h : CallR X g r) (h' : CallR X g r') : CallR X g (fun xs H Q => r xs H Q ∨ r' xs H Q) := fun pins s σ H xs us Q I rx q => q.elim (h pins s σ H xs us Q I rx) (h' pins s σ H xs us Q I rx)
def altC (p : List U → Sto → Bool) (f g : List U → Sto → Out U) : List U → Sto → Out U := fun us st => if p us st = true then f us st else g us st
theorem sim_altC {p : List U → Sto → Bool} {r r' : List V → Hp → VK → Prop} {f g : List U → Sto → Out U} (h : CallSim T r f) (h' : CallSim T r' g) : CallSim T (fun xs H Q => r xs H Q ∨ r' xs H Q) (altC p f g) := fun Wx c σ st H us xs Q hH rx hR => by
  unfold altC at hR
  split at hR
  · exact .inl (h Wx c σ st H us xs Q hH rx hR)
  · exact .inr (h' Wx c σ st H us xs Q hH rx hR)
theorem OpR.or {g : Value → Value → Sem Value} {r r' : R2} (h : OpR X g r) (h' : OpR X g r') : OpR X g (fun x y H Q => r x y H Q ∨ r' x y H Q) := fun pins s σ H x y v u Q I rx ry q => q.elim (h pins s σ H x y v u Q I rx ry) (h' pins s σ H x y v u Q I rx ry)
def altO (p : U → U → Sto → Bool) (f g : U → U → Sto → Out U) : U → U → Sto → Out U := fun u w st => if p u w st = true then f u w st else g u w st
theorem sim_altO {p : U → U → Sto → Bool} {r r' : R2} {f g : U → U → Sto → Out U} (h : OpSim T r f) (h' : OpSim T r' g) : OpSim T (fun x y H Q => r x y H Q ∨ r' x y H Q) (altO p f g) := fun Wx c σ st H u w x y Q hH r1 r2 hR => by
  unfold altO at hR
  split at hR
  · exact .inl (h Wx c σ st H u w x y Q hH r1 r2 hR)
  · exact .inr (h' Wx c σ st H u w x y Q hH r1 r2 hR)
end

section
variable {X : Cx} {T : Tb}
end

section
variable {X : Cx} {T : Tb} {P : Pin} {Wx : WX} {e : Expr} {m : ME} {f x : Str} {pos p : Pos}
structure ConOk (T : Tb) (k : Nat) (f : Str) (u : U) : Prop where
  cl : Cls T.K (T.cls k)
  con : ∃ v u0, Con T.K (T.cls k) f v u0 ∧ ∀ c, Rp T c u v
  nf : f ∉ T.fld k
theorem RpL.reverse {T : Tb} {c : Cn} : ∀ {us : List U} {vs : List V}, RpL T c us vs → RpL T c us.reverse vs.reverse
  | _, _, .nil => .nil
  | _, _, .cons r t => by
    rw [List.reverse_cons, List.reverse_cons]
    exact (RpL.reverse t).append (.one r)
end

end NK

namespace NK
open PySem L2
open PySem.Spec PyProof.Rows
def OpF (X : Cx) (T : Tb) (g : Value → Value → Sem Value) (f : U → U → Sto → Out U) : Prop := ∃ r, OpR X g r ∧ OpSim T r f
def CallF (X : Cx) (T : Tb) (g : Value) (f : List U → Sto → Out U) : Prop := ∃ r, CallR X g r ∧ CallSim T r f
section
variable {X : Cx} {T : Tb} {P : Pin} {Wx : WX} {a b : Expr} {ma mb : ME} {pos : Pos}
theorem OpF.alt {g : Value → Value → Sem Value} {p : U → U → Sto → Bool} {f f' : U → U → Sto → Out U} (h : OpF X T g f) (h' : OpF X T g f') : OpF X T g (altO p f f') :=
  let ⟨_, o, s⟩ := h
  let ⟨_, o', s'⟩ := h'
  ⟨_, OpR.or o o', sim_altO s s'⟩
theorem CallF.alt {g : Value} {p : List U → Sto → Bool} {f f' : List U → Sto → Out U} (h : CallF X T g f) (h' : CallF X T g f') : CallF X T g (altC p f f') :=
  let ⟨_, o, s⟩ := h
  let ⟨_, o', s'⟩ := h'
  ⟨_, CallR.or o o', sim_altC s s'⟩
end
end NK

set_option maxHeartbeats 4000000
namespace NK
open PySem L2
section
variable {X : Cx} {T : Tb} {P : Pin} {Wx : WX} {e : Expr} {mo a b me : ME}
inductive GN (P : Pin) : List Nat → TGs → Prop
  | nil : GN P [] L2.gNil
  | cons {i : Nat} {is : List Nat} {t : TGs} : pinned P i = false → GN P is t → GN P (i :: is) (gCons (gName i) t)
theorem GN.run {is : List Nat} {t : TGs} (h : GN P is t) : ∀ {c : Cn} {env env' : Env} {σ : L2.St} {H : Hp} {us : List U} {vs : List V} {Q : L2.St → Hp → Prop}, RE T P c env σ → RpL T c us vs → setAll is us env = some env' → (∀ σ', RE T P c env' σ' → Q σ' H) → t vs σ H Q := by
  induction h with
  | nil =>
    intro c env env' σ H us vs Q hE r e k
    cases us with
    | nil =>
      cases e
      cases r
      exact ⟨rfl, k _ hE⟩
    | cons _ _ => cases e
  | @cons i is t hp b ih =>
    intro c env env' σ H us vs Q hE r e k
    cases us with
    | nil => cases e
    | cons u us =>
      obtain ⟨v, vs', rfl, r1, r2⟩ := r.inv_cons
      exact ⟨v, vs', rfl, ih (hE.set r1 i hp) r2 e k⟩
theorem gr_tup {K : PySem.W.Frag} {is : List Nat} {t : TGs} (hK : K = T.K) (h : GN P is t) (v : V) (σ : L2.St) (H : Hp) (Q : L2.St → Hp → Prop) (q : tgtOf T P (gT is) v σ H Q) : gTup K is.length t v σ H Q := by
  obtain ⟨c, env, st, u, env', hH, hE, r, e, k⟩ := q
  cases u with
  | tup us =>
    obtain ⟨a, vs, rfl, h1, r1⟩ := r.inv_tup
    refine ⟨a, vs, rfl, by rw [hK]; exact sqT_up hH h1, ?_, h.run hE r1 e k⟩
    rw [← r1.length]
    exact set_len e
  | _ => cases e
variable {o : Expr} {apos pos : Pos}
end
end NK

set_option maxHeartbeats 2000000
namespace NK
open PySem L2

section
variable {X : Cx} {T : Tb} {P : Pin} {Wx : WX} {o i e : Expr} {es : List Expr} {mo mi : ME} {mas : MA} {pos p apos : Pos}
end

section
variable {X : Cx} {T : Tb} {P : Pin} {Wx : WX} {e : Expr} {es : List Expr} {mo : ME} {mas : MA} {pos p : Pos} {kk k n : Nat} {f : Addr} {fd : FuncData} {ps : List Str} {mf : MF} {x : Str}
end
end NK

namespace NK
open PySem L2

structure SupM (P : Program) (K : PySem.W.Frag) (mg : Str → Option Value) (N ps : List Str) (sc : Scope) (D cda cc g : Addr) (m : Str) : Prop where
  kind : sc.kind = .function
  co : sc.isCoroutine = false
  gen : sc.isGenerator = false
  nd : N.Nodup
  pre : N.take ps.length = ps
  par : ∀ x ∈ ps, sc.names.lookup x = some .local
  nocell : ∀ y ∈ sc.names, y.2 ≠ .cell
  free : ∀ y, sc.names.lookup y = some .free → y = ("__class__" : Str)
  ksup : sc.names.lookup ("super" : Str) = some .globalImplicit
  kcls : sc.names.lookup ("__class__" : Str) = some .free
  code : ∃ ccl cdd vs ccs file tf, K.lookup cda = some ⟨ccl, cdd, .fields vs, ccs⟩ ∧ vs[2]? = some (.str file tf) ∧ ((P.main.file : Str) == file) = true
  cell : ∃ cl cld csl, K.lookup cc = some ⟨cl, cld, .cell (some (.ref D)), csl⟩
  sup : PySem.W.ks_superIn K D D m = some (some (.ref g))
  fn : PySem.W.isFn K (.ref g) = true
  fnI : PySem.W.fnIn K g = true
  self : PySem.W.mroIn K D (.ref D) = some true
  opq : PySem.W.nsIn K cStatics "thirdparty.any" = some none
  msup : mg "super" = none
  top : (P.main.scope.names.lookup ("super" : Str)).isSome = false
  nam : (m == ("__class__" : Str)) = false

section
variable {P : Program} {w : World} {K : PySem.W.Frag} {mg : Str → Option Value} {base : Heap} {N ps : List Str} {qual : Str} {scope : Scope} {f cda cc C g : Addr} {m : Str} {A : Around} {outer : List PySem.Env} {s : Shared} {H : Hp} {E : XK} {us : List Value} {vs : List V}
end

end NK

namespace NK
open PySem L2
open PySem.Spec PyProof.Rows

section
variable {X : Cx} {T : Tb} {P : Pin} {Wx : WX} {o i z e : Expr} {es : List Expr} {mo mi mz : ME} {mas : MA} {pos p apos : Pos}
end
section
variable {X : Cx} {T : Tb} {P : Pin} {Wx : WX} {kk k n : Nat} {f C : Addr} {mf : MF} {x : Str} {e : Expr} {es : List Expr} {m : ME} {mas : MA} {p pos sps : Pos} {sp : Sp}
end
end NK

namespace NK
open PySem L2
open PySem.Spec PyProof.Rows
section
variable {X : Cx} {T : Tb} {P : Pin} {Wx : WX} {o e : Expr} {mo me : ME} {pos apos : Pos}
end
section
variable {X : Cx} {T : Tb} {P : Pin} {Wx : WX} {kk n : Nat} {f : Addr} {fd : FuncData} {ps ks : List Str} {mf : MF} {x : Str} {kws : List Keyword} {mks : MA} {p pos : Pos}
end
end NK

namespace NK
open PySem L2
open PySem.Spec PyProof.Rows
section
variable {X : Cx} {T : Tb} {P : Pin} {Wx : WX} {pos : Pos}
end
end NK

namespace NK
open PySem L2
open PySem.Spec PyProof.Rows
section
variable {T : Tb}
end
open PySem.W (AlikeAll max_list_default maxD_ints)
section
variable {X : Cx} {T : Tb} {P : Pin} {Wx : WX}
end

section
variable {P : Program} {w : World} {K : PySem.W.Frag} {mg : Str → Option Value} {base : Heap} {T : Tb} {x qual : Str} {params : Arguments} {body : List Stmt} {scope : Scope} {dvs : List V} {kws : List (Str × V)} {f : Addr} {fd : FuncData} {N ps : List Str} {k : Nat} {mb : MS}
end
def KwTo {α : Type} (D : Addr) : List (Str × Value) → Sem α → Sem α → Prop
  | [], t, r => t = r
  | q :: l, t, r => ∃ (β γ : Type) (k1 : Option Value → Sem β) (k2 : β → Sem γ) (k3 : γ → Sem α) (a : β), t = ((nsGet D q.1 >>= k1) >>= k2) >>= k3 ∧ k1 (some q.2) = pure a ∧ KwTo D l (k2 a >>= k3) r
theorem KwTo.run {α : Type} {K : PySem.W.Frag} {M : Model} {A : Around} {Q : α → Shared → Prop} {Ex : Value → Shared → Prop} {s : Shared} {D : Addr} (X : K.In s.heap) : ∀ {l : List (Str × Value)} {t r : Sem α}, (∀ q ∈ l, PySem.W.nsIn K D q.1 = some (some q.2)) → KwTo D l t r → wpAny M A r Q Ex s → wpAny M A t Q Ex s
  | [], t, r, _, e, h => by rw [show t = r from e]; exact h
  | q :: l, t, r, hl, e, h => by
    obtain ⟨β, γ, k1, k2, k3, a, e1, e2, e3⟩ := e
    have l1 : PySem.W.Looks M s.heap (nsGet D q.1 >>= k1) a := (PySem.W.looks_nsIn X (hl q (List.mem_cons_self ..))).andThen (PySem.W.Looks.of_pure e2)
    rw [e1, bind_assoc]
    exact wpAny_bind (l1.here (KwTo.run X (fun p hp => hl p (List.mem_cons_of_mem _ hp)) e3 h))
section
variable {X : Cx} {T : Tb} {P : Pin} {Wx : WX} {kk n nk : Nat} {f : Addr} {fd : FuncData} {ps ks : List Str} {sel : List (Bool × Nat)} {dU : List U} {dV : List V} {mf : MF} {x : Str} {e : Expr} {es : List Expr} {kws : List Keyword} {mas mks : MA} {p pos : Pos}
end
end NK
namespace NK
end NK
namespace NK
open PySem L2
open PySem.Spec PyProof.Rows
end NK

namespace NK
open PySem PySem.Spec PyProof.Rows L2
def eBinO (k : Nat) (mf : MF) (ma mb : ME) : ME := fun env st => (ma env st).bind fun x st1 => (mb env st1).bind fun y st2 => if isK k x st2 = true ∧ isK k y st2 = true then mf [x, y] st2 else .bad
section
variable {X : Cx} {T : Tb} {P : Pin} {Wx : WX} {a b : Expr} {ma mb : ME} {pos : Pos} {kk k : Nat} {f : Addr} {fd : FuncData} {ps : List Str} {mf : MF} {op : Operator}
theorem cmpBack_of {Q : Value → Shared → Prop} {v : Value} {s : Shared} (hn : v ≠ .notImplemented) (h : Q v s) : PySem.W.CmpBack Q v s := by
  cases v <;> first | exact (hn rfl).elim | exact h
theorem pem_binO (tk : Takes X Wx) (hK : X.K = T.K) (F : FnOk X.prog X.w X.K X.mg X.base (L2.CX X.prog X.w) kk f fd ps (spOf T 2 mf)) (hr : Room kk X.A) (hc : PySem.W.selfFirst X.K (T.cls k) = true)
    (hs : PySem.W.findIn X.K (.ref (T.cls k)) (PySem.dunder op.info.2) = some (some (.ref f))) (hf : PySem.W.isFn X.K (.ref f) = true) (hb : Binds X.K fd ps [])
    (ha : PEm X T P Wx a ma) (hbm : PEm X T P Wx b mb) : PEm X T P Wx (.BinOp a op b pos) (eBinO k mf ma mb) := by
  refine ⟨fun pins s σ H Q I ⟨c, env, st, hH, hE, hR⟩ => ?_⟩
  refine wpAny_BinOp (thn (ha.run pins s σ H _ I (tg_bind hH hE hR)) fun v s1 ⟨x, H1, I1, rx, uo, c1, st1, l1, hH1, hE1, r1, hR1⟩ => thn (hbm.run pins s1 σ H1 _ I1 (tg_bind hH1 hE1 hR1)) fun u s2 ⟨y, H2, I2, ry, uw, c2, st2, l2, hH2, hE2, r2, hR2⟩ => ?_)
  split at hR2
  · rename_i hk
    obtain ⟨a1, dx, vs, rfl, h1⟩ := isK_at hH2 (r1.mono l2) hk.1
    obtain ⟨b1, dy, ws, rfl, h2⟩ := isK_at hH2 r2 hk.2
    obtain rfl : v = Value.ref a1 := rx
    obtain rfl : u = Value.ref b1 := ry
    obtain ⟨mA, J, _⟩ := ins_get I2.hok h1
    obtain ⟨od, J, _⟩ := J.look
    obtain ⟨mB, J2, _⟩ := ins_get I2.hok h2
    obtain ⟨od2, J2, _⟩ := J2.look
    obtain ⟨m, hF⟩ := I2.fr
    have r3 : RpL T c2 ([uo, uw] ++ []) ([.ref a1, .ref b1] ++ []) := .cons (r1.mono l2) (.cons r2 .nil)
    refine PySem.W.binop_K hF I2.ok.mod.kin J J2.type hc hs hf ?_
    refine wpAny_mono (run_fnSD (us := [.ref a1, .ref b1]) (vs := [.ref a1, .ref b1]) (E := fun σ cls d H => Wx cls d σ H) F hr hb .nil (passAt tk σ) I2 (.cons rfl (.cons rfl .nil)) ⟨by rfl, c2, _, st2, hH2, r3, hR2.wish fun cls d H h => h⟩) (fun r s3 hq => ?_) fun _ _ z => z
    refine cmpBack_of (fun z => ?_) hq
    subst z
    obtain ⟨w, H', _, rw', _⟩ := hq
    cases w <;> first | (cases rw'; done) | (obtain ⟨_, q⟩ := rw'; cases q; done)
  · exact hR2.elim
end
def zipU : List U → List U → List U
  | u :: us, w :: ws => .tup [u, w] :: zipU us ws
  | _, _ => []
theorem zip_len : ∀ (us ws : List U), (zipU us ws).length = min us.length ws.length
  | [], _ => by simp [zipU]
  | _ :: _, [] => by simp [zipU]
  | _ :: us, _ :: ws => by simp only [zipU, List.length_cons, zip_len us ws]; omega
theorem zip_get : ∀ (us ws : List U) (i : Nat) (u w : U), us[i]? = some u → ws[i]? = some w → (zipU us ws)[i]? = some (.tup [u, w])
  | [], _, _, _, _, h, _ => by simp at h
  | _ :: _, [], _, _, _, _, h => by simp at h
  | a :: us, b :: ws, 0, u, w, h1, h2 => by
    simp only [List.getElem?_cons_zero, Option.some.injEq] at h1 h2
    subst h1 h2
    rfl
  | a :: us, b :: ws, i + 1, u, w, h1, h2 => by
    simp only [List.getElem?_cons_succ] at h1 h2
    simp only [zipU, List.getElem?_cons_succ]
    exact zip_get us ws i u w h1 h2
def iZip (ma : MA) : MI := fun env st => (ma env st).bind fun us st1 => match us with
  | [.tup us, .tup ws] => .ok ⟨zipU us ws, fun _ => True⟩ st1
  | _ => .bad
theorem walk_of_zipT {T : Tb} {c0 : Cn} {a b : Addr} {us ws : List U} {g : Sto → Prop} (h : ∀ c st H, Le c0 c → RH T c st H → g st → ∃ vs xs, SqT T.K H a vs ∧ RpL T c us vs ∧ SqT T.K H b xs ∧ RpL T c ws xs) : WalkM T c0 (RZ.ItzT T.K a b) (zipU us ws) g := by
  refine ⟨fun H => ∃ vs xs, SqT T.K H a vs ∧ vs.length = us.length ∧ SqT T.K H b xs ∧ xs.length = ws.length, fun i H v H' => ∃ t x y, v = .ref t ∧ H t = none ∧ H' = L2.upd H t (.tup [x, y]) ∧ (∀ xs, SqT T.K H a xs → xs[i]? = some x) ∧ ∀ ys, SqT T.K H b ys → ys[i]? = some y, ⟨fun i H hi ⟨vs, xs, h1, h2, h3, h4⟩ => ?_, fun H ⟨vs, xs, h1, h2, h3, h4⟩ => ⟨vs, xs, h1, h3, ?_⟩, fun i H x H' hi _ y => y⟩, fun c st H l hH hg => ?_⟩
  · rw [zip_len] at hi
    have i1 : i < vs.length := by omega
    have i2 : i < xs.length := by omega
    exact ⟨vs, xs, vs[i], xs[i], h1, h3, by simp [i1], by simp [i2]⟩
  · rw [zip_len]
    omega
  · obtain ⟨vs, xs, h1, r1, h2, r2⟩ := h c st H l hH hg
    refine ⟨⟨vs, xs, h1, r1.length.symm, h2, r2.length.symm⟩, fun i x H' hi y => ?_⟩
    obtain ⟨t, z, z2, rfl, ht, rfl, hx, hy⟩ := y
    obtain ⟨u, hu, ru⟩ := r1.getV (hx vs h1)
    obtain ⟨w, hw, rw'⟩ := r2.getV (hy xs h2)
    obtain ⟨n1, n2, n3⟩ := new_pair hH ru rw' ht
    exact ⟨_, _, zip_get us ws i u w hu hw, n1, n2, n3⟩
theorem pim_zip {X : Cx} {T : Tb} {P : Pin} {Wx : WX} {e e2 : Expr} {ma : MA} {p pos tpos : Pos} {elts : List Expr} {kk : Nat} (hK : X.K = T.K) (hg : Gl X "zip") (hm : X.mg "zip" = none) (ha : PAm X T P Wx [e, e2] ma)
    (hs : starEach [e, e2] X.env = (false, eval e X.env) :: starEach [e2] X.env := by rfl) (hpl : (backTo pos (starEach [e2] X.env)).any (·.1) = false := by rfl) :
    PIm X T P Wx (.Tuple elts kk tpos) (.Call (.Name "zip" p) [e, e2] [] pos) (iZip ma) := by
  refine PI.imp (RZ.pi_zipA hg hm ha hs hpl) fun σ H R ⟨c, env, st, hH, hE, hR⟩ => ?_
  refine (tg_bind hH hE hR).mono fun vs H1 ⟨us, c1, st1, l1, hH1, hE1, r1, hR1⟩ => ?_
  split at hR1
  · rename_i us' ws'
    obtain ⟨v, vs', rfl, r, t⟩ := r1.inv_cons
    obtain ⟨v2, vs2, rfl, r2, t2⟩ := t.inv_cons
    cases t2.inv_nil
    obtain ⟨a, xs, rfl, h1, q1⟩ := r.inv_tup
    obtain ⟨b, ys, rfl, h2, q2⟩ := r2.inv_tup
    refine ⟨a, b, xs, ys, rfl, .inr ⟨by rw [hK]; exact sqT_up hH1 h1, by rw [hK]; exact sqT_up hH1 h2, ?_⟩⟩
    rw [hK]
    exact ResG.ret hR1 hH1 (walk_of_zipT fun c2 st2 H2 l2 hH2 _ => ⟨xs, ys, sqT_up hH2 (sqT_mono l2.F h1), q1.mono l2, sqT_up hH2 (sqT_mono l2.F h2), q2.mono l2⟩)
  · exact hR1.elim
end NK
namespace NK
open PySem PySem.Spec PyProof.Rows L2
def eDSetd (mo mi mz : ME) : ME := fun env st => (mo env st).bind fun o st1 => match dictAt o st1 with
  | some _ => (mi env st1).bind fun i st2 => (mz env st2).bind fun z st3 => match dictAt o st3, keyU i with
    | some (n, kvs), some k => if kvs.length < 16777216 then (match valU kvs k with
      | some w => .ok w st3
      | none => .ok z (st3.set n (.dK (putU kvs k z)))) else .bad
    | _, _ => .bad
  | none => .bad
section
variable {X : Cx} {T : Tb} {P : Pin} {Wx : WX} {o i z : Expr} {mo mi mz : ME} {pos apos : Pos}
theorem pem_dsetd (ho : PEm X T P Wx o mo) (hi : PEm X T P Wx i mi) (hz : PEm X T P Wx z mz) (m : M2 X o "setdefault" apos i z pos := by exact ⟨rfl, rfl, rfl, rfl⟩) : PEm X T P Wx (.Call (.Attribute o "setdefault" apos) [i, z] [] pos) (eDSetd mo mi mz) := PE.imp (pe_dsetd ho hi hz m) fun σ H Q ⟨c, env, st, hH, hE, hR⟩ => by
  refine (tg_bind hH hE hR).mono fun x H1 ⟨u, c1, st1, l1, hH1, hE1, r1, hR1⟩ => ?_
  split at hR1
  · rename_i p0 e0
    obtain ⟨i0, kvs0⟩ := p0
    obtain ⟨rfl, q0, vs0, rfl, h0, _⟩ := dict_at hH1 r1 e0
    refine ⟨_, rfl, .inl ⟨vs0, .inl h0⟩, ?_⟩
    refine (tg_bind hH1 hE1 hR1).mono fun y H2 ⟨w, c2, st2, l2, hH2, hE2, r2, hR2⟩ => ?_
    refine (tg_bind hH2 hE2 hR2).mono fun y3 H3 ⟨w3, c3, st3, l3, hH3, hE3, r3, hR3⟩ => ?_
    split at hR3
    · rename_i n kvs k e1 e2
      obtain ⟨en, q1, vs, eb, h1, h2⟩ := dict_at hH3 ((r1.mono l2).mono l3) e1
      cases en
      rw [V.ref.inj eb]
      cases key_at (r2.mono l3) e2
      split at hR3
      · rename_i hl
        refine ⟨vs, k, h1, rfl, by rw [szl, ← h2.length]; exact hl, fun v hv => ?_, fun hn => ?_⟩
        · cases q : valU kvs k with
          | some u' =>
            obtain ⟨v', hv', rv⟩ := h2.val.1 _ q
            rw [hv] at hv'
            cases hv'
            rw [q] at hR3
            exact hR3.ret hH3 rv
          | none =>
            rw [h2.val.2 q] at hv
            cases hv
        · cases q : valU kvs k with
          | some u' =>
            obtain ⟨v', hv', rv⟩ := h2.val.1 _ q
            rw [hn] at hv'
            cases hv'
          | none =>
            rw [q] at hR3
            exact hR3.ret (hH3.set q1 (fun z => nomatch z) ⟨_, rfl, h2.put k r3⟩) r3
      · exact hR3.elim
    · exact hR3.elim
  · exact hR1.elim
end
end NK

namespace NK
open PySem PySem.Spec PyProof.Rows L2 LamX
section
variable {X : Cx} {pins : List (Addr × Obj)} {σ : L2.St} {H : Hp} {s : Shared}
def KpL (X : Cx) (d : LamD) (f c' : Addr) (G : Hp) : Prop := ∃ pm ctv, G f = some (FnO f (d.obj X pm c' ctv)) ∧ G c' = some (CodeO c' (X.env.qual ++ "<lambda>"))
theorem pe_act2 {CXg : CXT} {Eg : XK} {Ng : List Str} {qg : Str} {sg : Scope} {g f c' : Addr} {cdg : Value} {d : LamD} {k i : Nat} {a : Str} {pn : List (Addr × Obj)} {xe : Value → Shared → Prop} {W : WX} {tb : XK → TE} {p1 p2 : Pos}
    (I : Inv X pins σ H s) (L : LamS X.env.scope d.scope)
    (hbind : ∀ (q : Str) (cl : List (Str × Addr)) (pm cv ctv : Value), bindArgs (PySem.W.kla_fn "<lambda>" q d.params d.body d.scope cl pm cv ctv) ⟨[], []⟩ = pure [])
    (tk : Takes ((cxOf CXg X.prog X.w X.K X.mg X.base Ng qg sg g cdg X.A X.stack s H Eg).tr pn xe) W) (hr : Room (k + 1) (X.A.deeper (envOfC qg sg s.heap.objs.size g cdg)))
    (hbody : ∀ (A : Around) (outer : List PySem.Env) (s : Shared) (H : Hp) (E : XK), Room k (A.deeper (lamEnv X d.scope s.heap.objs.size f c')) → PE (lamCx X A outer s H E d.scope f c') d.body (tb E))
    (hN : Ng[i]? = some a) (hv : Vis sg a) (hd : (a == ("__debug__" : Str)) = false := by decide) (hcd : (a == ("__classdict__" : Str)) = false := by decide) :
    PE ((cxOf CXg X.prog X.w X.K X.mg X.base Ng qg sg g cdg X.A X.stack s H Eg).tr pn xe) (.Call (.Name a p1) [] [] p2)
      (fun σZ HZ Q => σZ[i]? = some (some (.ref f)) ∧ KpL X d f c' HZ ∧ tb (fun cls dd G => W cls dd σZ G) σ HZ Q) := by
  refine ⟨fun pz sz z G Q J ⟨e1, ⟨pm, ctv, eF, e2⟩, e3⟩ => ?_⟩
  refine wpAny_Call_Name_kw (thn ((pe_var (pos := p1) (i := i) hN hv hd hcd).run pz sz z G (fun v G' => v = .ref f ∧ G' = G) J ⟨.ref f, e1, rfl, rfl⟩) fun u s1 ⟨v, G', J1, r1, q1, q2⟩ => ?_)
  subst q1 q2
  obtain rfl : u = Value.ref f := r1
  have of1 : s1.heap.get? f = some (d.obj X pm c' ctv) := (J1.hok f _ eF).1
  refine PySem.W.callWith_F0 ⟨_, _, _, _, of1⟩ ?_
  obtain ⟨⟨oc, vs, t, g1, g2, g3⟩, _, _⟩ := J1.hok c' _ e2
  have un : Un (frs X.stack) [] H G' s.heap s1.heap := J1.base
  have rc : codeAny (model X.prog X.w) (X.A.deeper (envOfC qg sg s.heap.objs.size g cdg)) (.call (.ref f) ⟨[], []⟩) (CR (L2.CX X.prog X.w) (envOfC qg sg s.heap.objs.size g cdg :: X.stack) X.prog X.w G' s1 Q (fun cls dd G => W cls dd z G)) s1 := by
    refine PySem.W.kla_callFunE hr.depth of1 rfl L.co L.gen rfl ⟨c', oc, vs, t, rfl, g1, g2, g3⟩ ?_
    rw [hbind]
    refine wpAny_pure (wpAny_newFunctionEnv (fun y hy => (L.own y hy).2) (fun y hy => absurd hy (by simp)) (fun h1 hns hsb => ⟨J1.nolimit.fresh _ hsb, ?_⟩) L.kind)
    show codeAny _ _ (.expr d.body (lamEnv X d.scope s1.heap.objs.size f c')) _ _
    have J2 : Inv (lamCx X (X.A.deeper (envOfC qg sg s.heap.objs.size g cdg)) (envOfC qg sg s.heap.objs.size g cdg :: X.stack) s1 G' (fun cls dd G => W cls dd z G) d.scope f c') [] σ G' { s1 with heap := h1, toks := s1.toks + ([] : List (Str × Value)).length } :=
      lam_start2 I L J1.env0 hr.hd un hns fun b o e => hsb.extBut b o (Nat.ne_of_lt (Heap.lt_size e)) (Heap.get?_push_of_some _ e)
    refine PySem.W.kla_codeExpr (wpAny_mono ((hbody _ _ s1 G' _ (hr.deeper _)).run [] _ _ G' Q J2 e3) (fun v s2 hq => ?_) fun e s2 hq => hq)
    obtain ⟨w1, G1, J3, rv, q⟩ := hq
    exact ⟨w1, G1, J3.os, J3.bare, J3.base, J3.hok, rv, q⟩
  refine wpAny_call (codeAny_mono rc fun r s2 hq => ?_)
  cases r with
  | error e => exact passAt tk z pz G' s1 e s2 J1 hq
  | ok fl =>
    cases fl with
    | ret u => exact J1.after hq
    | next => exact False.elim hq
    | brk => exact False.elim hq
    | cont => exact False.elim hq
end
section
variable {X : Cx}
def GivesTo2 (X : Cx) (Ng : List Str) (x : Str) (sg : Scope) (g : Addr) (cdg : Value) (bg : List Stmt) (a : Str) (TT : (XK → Hp → VK → Prop) → Hp → VK → Prop) : Prop :=
  ∀ (f : Addr) (Kp : Hp → Prop) (s : Shared) (H : Hp) (Q : VK) (tl : XK → Hp → VK → Prop),
    (∀ (W : WX) (pn : List (Addr × Obj)) (xe : Value → Shared → Prop) (p1 p2 : Pos), Takes ((cxOf C8.CX0 X.prog X.w X.K X.mg X.base Ng x sg g cdg X.A X.stack s H C8.E0).tr pn xe) W →
      PE ((cxOf C8.CX0 X.prog X.w X.K X.mg X.base Ng x sg g cdg X.A X.stack s H C8.E0).tr pn xe) (.Call (.Name a p1) [] [] p2) (fun z G Q => z[0]? = some (some (.ref f)) ∧ Kp G ∧ tl (fun cls dd G' => W cls dd z G') G Q)) →
    Kp H → TT tl H Q →
    ∃ t, PSs (cxOf C8.CX0 X.prog X.w X.K X.mg X.base Ng x sg g cdg X.A X.stack s H C8.E0).nox bg t ∧ t { nx := fun _ H' => Q .non H', rt := Q } (L2.start Ng [.ref f]) H
def tLamW (X : Cx) (P : Addr) (d : LamD) (TT : (XK → Hp → VK → Prop) → Hp → VK → Prop) (t : XK → TE) : TE := fun σ H Q => Tabl P H ∧ ∀ f k H1, Made P (X.env.qual ++ "<lambda>") H H1 k → H1 f = none → H1 k = some (CodeO k (X.env.qual ++ "<lambda>")) ∧ ∀ ob : Obj, TT (fun E G Q' => t E σ G Q') (upd H1 f (FnO f ob)) Q
theorem pe_lamcall2 {TT : (XK → Hp → VK → Prop) → Hp → VK → Prop} {x a : Str} {g c P : Addr} {k : Nat} {pg : Arguments} {bg : List Stmt} {sg : Scope} {dV kV doc pm cdv ct oc : Value} {an od : Option Addr} {osl : Array (Option Value)} {Ng : List Str}
    {d : LamD} {t : XK → TE} {p lpos pos : Pos} (hg : Gl X x) (hm : X.mg x = some (.ref g)) (hk : PySem.W.keepIn X.K (.ref g) = true)
    (lk : X.K.lookup g = some ⟨oc, od, .func (PySem.W.fnOf x x pg bg sg dV kV doc pm an cdv ct), osl⟩) (hcg : PySem.W.codeIn X.K cdv x = true) (hb : L2.Binds X.K (PySem.W.fnOf x x pg bg sg dV kV doc pm an cdv ct) [a] []) (Sg : FnScope Ng [a] sg) (hNg : Ng[0]? = some a) (hva : Vis sg a)
    (hG : GivesTo2 X Ng x sg g cdv bg a TT)
    (TB : TabB X.base X.mg c P) (hcode : X.env.code = .ref c) (hr : Room (k + 2) X.A) (L : LamS X.env.scope d.scope) (hdef : defaultsOf d.params X.env = ([], []))
    (hbind : ∀ (q : Str) (cl : List (Str × Addr)) (pm cv ctv : Value), bindArgs (PySem.W.kla_fn "<lambda>" q d.params d.body d.scope cl pm cv ctv) ⟨[], []⟩ = pure [])
    (hbody : ∀ (A : Around) (outer : List PySem.Env) (s : Shared) (H : Hp) (E : XK) (f c' : Addr), Room k (A.deeper (lamEnv X d.scope s.heap.objs.size f c')) → PE (lamCx X A outer s H E d.scope f c') d.body (t E))
    (hdb : (x == ("__debug__" : Str)) = false := by decide) (hd : (a == ("__debug__" : Str)) = false := by decide) (hcd : (a == ("__classdict__" : Str)) = false := by decide) :
    PE X (.Call (.Name x p) [.Lambda d.params d.body d.scope lpos] [] pos) (tLamW X P d TT t) := by
  refine ⟨fun pins s σ H Q I ⟨hT, h⟩ => ?_⟩
  refine wpAny_Call_Name_kw (ld_glob I hg hm ?_ hdb)
  refine PySem.W.callWith_K (h₀ := X.base) I.ok.mod.kin hk ?_ (by rfl) (by rfl)
  show wpAny _ _ (spliced ((false, eval (.Lambda d.params d.body d.scope lpos) X.env) :: backTo pos (starEach [] X.env))) _ _ s
  refine Calls.spliced_cons (thn ((pe_lam (pos := lpos) TB hcode hdef L).run pins s σ H (fun v G => ∃ f k, v = .ref f ∧ (∃ H1 pm ctv, Made P (X.env.qual ++ "<lambda>") H H1 k ∧ H1 f = none ∧ G = upd H1 f (FnO f (d.obj X pm k ctv))) ∧ KpL X d f k G) I ⟨hT, fun f k pm ctv H1 m hf => ⟨f, k, rfl, ⟨H1, pm, ctv, m, hf, rfl⟩, pm, ctv, upd_same, by rw [upd_ne (ne_of_none (h f k H1 m hf).1 hf)]; exact (h f k H1 m hf).1⟩⟩) fun u s1 ⟨v, G, J, r1, f, c', ev, ⟨H1, pm', ctv', m, hf, eG⟩, kp⟩ => ?_)
  subst ev eG
  obtain rfl : u = Value.ref f := r1
  refine Calls.spliced_nil ⟨J.kIn, ?_⟩
  have rc : codeAny (model X.prog X.w) X.A (.call (.ref g) ⟨[.ref f], []⟩) (CR C8.CX0 X.stack X.prog X.w (upd H1 f (FnO f (d.obj X pm' c' ctv'))) s1 Q C8.E0) s1 :=
    run_ofS (N := Ng) (ps := [a]) (us := [.ref f]) (vs := [.ref f]) lk hcg Sg hr J.env0 (hb s1 [.ref f] J.kIn rfl) (.cons rfl .nil) rfl fun hr' => by
      obtain ⟨t', u1, u2⟩ := hG f (KpL X d f c') s1 _ Q (fun E G Q' => t E σ G Q') (fun W pn xe p1 p2 tk => pe_act2 (i := 0) J L hbind tk hr' (fun A outer s H E hr2 => hbody A outer s H E f c' hr2) hNg hva hd hcd) kp ((h f c' H1 m hf).2 _)
      exact ⟨t', u1.nox, u2⟩
  refine wpAny_call (codeAny_mono rc fun r s2 hq => ?_)
  cases r with
  | error e => exact (show False from hq).elim
  | ok fl =>
    cases fl with
    | ret u => exact J.after hq
    | next => exact False.elim hq
    | brk => exact False.elim hq
    | cont => exact False.elim hq
end
end NK
namespace NK
open PySem PySem.Spec PyProof.Rows L2 LamX
def TTw (K : PySem.W.Frag) (CS : Addr) (fl : Str) : (XK → Hp → VK → Prop) → Hp → VK → Prop := fun tl H Q =>
  ∀ (E : XK) (R : VK), (∀ cls dd G, cls = .ref CS → (∃ d2 fs v, dd = some d2 ∧ G d2 = some (.xd fs) ∧ fs.lookup fl = some v ∧ Q v G) → E cls dd G) → (∀ v G, Q .non G → R v G) → tl E H R
section
variable {X : Cx}
theorem caught_gives {a fnd e n fl x : Str} {sg : Scope} {g CS : Addr} {cdg : Value} {j : Nat} {p1 p2 p3 p4 p5 p6 p7 p8 p9 p10 p11 p12 p13 p14 p15 : Pos} (hge : sg.names.lookup e = some .globalImplicit) (hme : X.mg e = some (.ref CS)) (hde : (e == ("__debug__" : Str)) = false)
    (hex : PySem.W.exmOne X.K (.ref CS) (.ref CS) = some true) (XT : XfC X.K CS) (hno : PySem.W.findIn X.K (.ref CS) fl = some none) (nd : [a, fnd, n].Nodup)
    (hf : sg.names.lookup fnd = some .local) (hn : sg.names.lookup n = some .local) (dn : (n == ("__debug__" : Str)) = false) (cn : (n == ("__classdict__" : Str)) = false) (df : (fnd == ("__debug__" : Str)) = false) (cf : (fnd == ("__classdict__" : Str)) = false) (hk : sg.kind = .function) :
    GivesTo2 X [a, fnd, n] x sg g cdg [.Assign [.Name fnd p1] (.Constant .none j p2) p3, .Try [.Expr (.Call (.Name a p4) [] [] p5) p6] [.ExceptHandler (some (.Name e p7)) (some n) [.Assign [.Name fnd p8] (.Attribute (.Name n p9) fl p10) p11] p12] [] [] p13, .Return (some (.Name fnd p14)) p15] a (TTw X.K CS fl) := by
  intro f Kp s H Q tl act hc h
  have N1 : ([a, fnd, n] : List Str)[1]? = some fnd := rfl
  have N2 : ([a, fnd, n] : List Str)[2]? = some n := rfl
  have hgl : Gl (cxOf C8.CX0 X.prog X.w X.K X.mg X.base [a, fnd, n] x sg g cdg X.A X.stack s H C8.E0).nox e := hge
  refine ⟨_, pss_cons (ps_asg (te := tC .non) (g := gName 1) pe_non (pg_name nd N1 (.inl hf))) (pss_cons (ps_try_as (X := (cxOf C8.CX0 X.prog X.w X.K X.mg X.base [a, fnd, n] x sg g cdg X.A X.stack s H C8.E0).nox) (c := .ref CS) (i := 2) (Wout := fun _ _ _ _ => False)
      (tb := fun W D σ H => σ[0]? = some (some (.ref f)) ∧ Kp H ∧ tl (fun cls dd G => W cls dd σ G) H (fun _ H' => D.nx σ H'))
      (ts := fun a cls d => tAsg (tXf a cls d CS fl (tVar 2)) (gName 1))
      rfl rfl nd N2 ?_ ⟨hgl, hde, .inl hme⟩ LamX.takes0 (fun W pn xe tk _ => ?_) (fun a oe cls d pn hz hv => pss_one (ps_asg (pe_xf XT hno hz hv (pe_var N2 (.inl hn) dn cn)) (pg_name nd N1 (.inl hf))))) (pss_one (ps_ret (pe_var N1 (.inl hf) df cf)))), ?_⟩
  · exact hn
  · refine ⟨fun pins s' σ H' D I ⟨h1, h2, h3⟩ => ?_⟩
    exact (pss_one (ps_expr (pos := p6) (act W pn xe p4 p5 tk))).run pins s' σ H' D I ⟨h1, h2, h3⟩
  · refine ⟨rfl, hc, h _ _ (fun cls dd G e1 ⟨d2, fs, v, e2, e3, e4, e5⟩ => ?_) fun v G hq => ⟨.non, rfl, hq⟩⟩
    subst e1
    exact ⟨true, hex, fun _ b hb => ⟨.ref b, rfl, rfl, rfl, d2, fs, v, e2, e3, e4, v, rfl, e5⟩, fun z => nomatch z⟩
end
end NK
namespace NK
open PySem PySem.Spec PyProof.Rows L2 LamX
def eLamW (kB j : Nat) (ml : ME) : ME := fun env st => match ml env st with
  | .ok _ st1 => .ok .non st1
  | .exc x st1 => if x.k = kB then (match x.us[j]? with
    | some u => .ok u st1
    | none => .bad) else .bad
  | .bad => .bad
section
variable {X : Cx} {T : Tb} {Wx : WX}
theorem pem_lamw {x a fl : Str} {g c P : Addr} {k kB j : Nat} {pg : Arguments} {bg : List Stmt} {sg : Scope} {dV kV doc pm cdv ct oc : Value} {an od : Option Addr} {osl : Array (Option Value)} {Ng : List Str}
    {d : LamD} {ml : ME} {p lpos pos : Pos} (hg : Gl X x) (hm : X.mg x = some (.ref g)) (hk : PySem.W.keepIn X.K (.ref g) = true)
    (lk : X.K.lookup g = some ⟨oc, od, .func (PySem.W.fnOf x x pg bg sg dV kV doc pm an cdv ct), osl⟩) (hcg : PySem.W.codeIn X.K cdv x = true) (hb : L2.Binds X.K (PySem.W.fnOf x x pg bg sg dV kV doc pm an cdv ct) [a] []) (Sg : FnScope Ng [a] sg) (hNg : Ng[0]? = some a) (hva : Vis sg a)
    (hG : GivesTo2 X Ng x sg g cdv bg a (TTw X.K (T.cls kB) fl)) (hfl : (T.fld kB)[j]? = some fl) (nd : (T.fld kB).Nodup)
    (TB : TabB X.base X.mg c P) (hcode : X.env.code = .ref c) (hq : (P, X.env.qual ++ "<lambda>") ∈ T.tabs) (hu : ∀ p ∈ T.tabs, p.1 = P → p.2 = X.env.qual ++ "<lambda>") (hr : Room (k + 2) X.A) (hdef : defaultsOf d.params X.env = ([], []))
    (K : LamOk X T k d ml)
    (hdb : (x == ("__debug__" : Str)) = false := by decide) (hd : (a == ("__debug__" : Str)) = false := by decide) (hcd : (a == ("__classdict__" : Str)) = false := by decide) :
    PEm X T none Wx (.Call (.Name x p) [.Lambda d.params d.body d.scope lpos] [] pos) (eLamW kB j ml) :=
  PE.imp (pe_lamcall2 (t := fun E => teOf T none (fun cls dd _ G => E cls dd G) ml) hg hm hk lk hcg hb Sg hNg hva hG TB hcode hr K.L hdef K.bind (fun A outer s H E f c' h => K.body A outer s H E f c' h) hdb hd hcd) fun σ H Q ⟨c0, env, st, hH, hE, hR⟩ => by
    refine ⟨tabl_of hH hq, fun f k H1 m hf => ?_⟩
    obtain ⟨c1, l1, hH1, hk1, hρ, _⟩ := rh_made hH hq hu m
    refine ⟨hH1.sub _ _ hk1, fun ob E R hE' hR' => ?_⟩
    have l2 := le_still hH1 hf (FnO f ob)
    have hH2 := hH1.still hf (FnO f ob)
    refine ⟨c1.still f (FnO f ob), env, st, hH2, hE.mono (l1.trans l2), ?_⟩
    unfold eLamW at hR
    cases q : ml env st with
    | ok u st1 =>
      rw [q] at hR
      exact fun c2 v G l hG rv => hR' v G (hR c2 .non G ((l1.trans l2).trans l) hG .non)
    | exc x1 st1 =>
      rw [q] at hR
      dsimp only at hR
      split at hR
      · rename_i ek
        intro c2 cls dd G l hG rx
        obtain ⟨e1, d2, vs, e2, e3, e4, e5⟩ := rx
        rw [ek] at e1 e3 e4
        split at hR
        · rename_i u eu
          obtain ⟨v, hv, rv⟩ := e5.get eu
          exact hE' cls dd G e1 ⟨d2, _, v, e2, hG.sub _ _ e3, zrl nd hfl hv, hR c2 v G ((l1.trans l2).trans l) hG rv⟩
        · exact hR.elim
      · exact hR.elim
    | bad =>
      rw [q] at hR
      exact hR.elim
end
end NK

namespace NK
open PySem PySem.Spec PyProof.Rows L2
def eTupL (m : MA) : ME := fun env st => (m env st).bind fun xs st1 => if xs.length ≤ 16777216 then .ok (.loc st1.length) (st1 ++ [.tp xs]) else .bad
def keyL (u : U) (st : Sto) : Option (List Key) := match u with
  | .loc i => match st[i]? with
    | some (.tp us) => keysU us
    | _ => none
  | _ => none
section
variable {T : Tb} {c : Cn} {st : Sto} {H : Hp}
theorem keyL_at (h : RH T c st H) {u : U} {v : V} {k : List Key} (r : Rp T c u v) (e : keyL u st = some k) : ∃ b, v = .ref b ∧ H b = some (.tup (k.map kV)) := by
  cases u with
  | loc i =>
    obtain ⟨hi, rfl⟩ := r.inv_loc
    dsimp only [keyL] at e
    split at e
    · rename_i us q
      obtain ⟨y, h1, ⟨vs, rfl, h2⟩, _⟩ := h.act i _ q (fun z => nomatch z)
      rw [keysU_at h2 e] at h1
      exact ⟨_, rfl, h1⟩
    · cases e
  | _ => cases e
end
section
variable {X : Cx} {T : Tb} {P : Pin} {Wx : WX} {o i e value : Expr} {es : List Expr} {mo mi m m1 m2 : ME} {mas mr : MA} {pos pos' p apos : Pos}
theorem pem_tupL {x1 : _} (h : PAm X T P Wx es mr) : PEm X T P Wx (.Tuple es x1 pos) (eTupL mr) :=
  PE.imp (pe_tup h) fun σ H Q ⟨c, env, st, hH, hE, hR⟩ => by
    refine (tg_bind hH hE hR).mono fun xs H1 ⟨us, c1, st1, l1, hH1, hE1, r1, hR1⟩ => ?_
    by_cases hz : us.length ≤ 16777216
    · rw [if_pos hz] at hR1
      refine ⟨by rw [← r1.length, sizeLine_eq]; exact hz, fun p hp => ?_⟩
      have h2 := hH1.new hp (o := .tp us) (x := .tup xs) ⟨xs, rfl, r1⟩
      refine hR1 _ _ _ (le_new c1 p) h2 ?_
      have e : V.ref p = V.ref ((c1.new p).ρ c1.n) := by rw [new_self]
      rw [e, ← hH1.n]
      exact .loc (Nat.lt_succ_self _)
    · rw [if_neg hz] at hR1
      exact hR1.elim
def eDGetL (mo mi : ME) : ME := fun env st => (mo env st).bind fun o st1 => (mi env st1).bind fun u st2 => match dicTRd o st2, keyL u st2 with
  | some kvs, some k => match valU kvs k with
    | some w => .ok w st2
    | none => .bad
  | _, _ => .bad
theorem pem_dgetL (hu : X.A.units + 1 < cLine) (ho : PEm X T P Wx o mo) (hi : PEm X T P Wx i mi) (hs : NoSl i) : PEm X T P Wx (.Subscript o i pos) (eDGetL mo mi) := PE.imp (pe_dget hu ho hi hs) fun σ H Q ⟨c, env, st, hH, hE, hR⟩ => by
  refine (tg_bind hH hE hR).mono fun x H1 ⟨u, c1, st1, l1, hH1, hE1, r1, hR1⟩ => ?_
  refine (tg_bind hH1 hE1 hR1).mono fun y H2 ⟨w, c2, st2, l2, hH2, hE2, r2, hR2⟩ => ?_
  split at hR2
  · rename_i kvs k e1 e2
    obtain ⟨b, rfl, hb⟩ := keyL_at hH2 r2 e2
    obtain ⟨a, vs, rfl, h1, h2⟩ := dicTRd_at hH2 (r1.mono l2) e1
    split at hR2
    · rename_i w' e3
      obtain ⟨v, hv, rv⟩ := h2.val.1 _ e3
      exact ⟨_, v, rfl, .inr ⟨vs, k, b, h1, rfl, hb, hv.symm⟩, hR2.ret hH2 rv⟩
    · exact hR2.elim
  · exact hR2.elim
def eDInL (neg : Bool) (mi mo : ME) : ME := fun env st => (mi env st).bind fun u st1 => (mo env st1).bind fun o st2 => match dicTRd o st2, keyL u st2 with
  | some kvs, some k => .ok (.bl ((valU kvs k).isSome != neg)) st2
  | _, _ => .bad
theorem dinL_run {neg : Bool} {td : VK → V → V → Hp → Prop} (σ : L2.St) (H : Hp) (Q : VK) (h : teOf T P Wx (eDInL neg mi mo) σ H Q) : teOf T P Wx mi σ H fun y H1 => teOf T P Wx mo σ H1 fun x H2 => ∃ a o, x = .ref a ∧ DGet H2 a y o ∧ Q (.bl (o.isSome != neg)) H2 := by
  obtain ⟨c, env, st, hH, hE, hR⟩ := h
  refine (tg_bind hH hE hR).mono fun x H1 ⟨u, c1, st1, l1, hH1, hE1, r1, hR1⟩ => ?_
  refine (tg_bind hH1 hE1 hR1).mono fun y H2 ⟨w, c2, st2, l2, hH2, hE2, r2, hR2⟩ => ?_
  split at hR2
  · rename_i kvs k e1 e2
    obtain ⟨b, rfl, hb⟩ := keyL_at hH2 (r1.mono l2) e2
    obtain ⟨a, vs, rfl, h1, h2⟩ := dicTRd_at hH2 r2 e1
    refine ⟨_, _, rfl, .inr ⟨vs, k, b, h1, rfl, hb, rfl⟩, ?_⟩
    have e3 : (valU kvs k).isSome = (valV vs k).isSome := by
      cases q : valU kvs k with
      | none => rw [h2.val.2 q]; rfl
      | some u => obtain ⟨v, hv, _⟩ := h2.val.1 _ q; rw [hv]; rfl
    rw [e3] at hR2
    exact hR2.ret hH2 (.bl _)
  · exact hR2.elim
theorem pcm_dnotinL (hu : X.A.units + 1 < cLine) (hi : PEm X T P Wx i mi) (ho : PEm X T P Wx o mo) : PC X .NotIn i o (teOf T P Wx (eDInL true mi mo)) := ⟨fun pins s σ H Q I h => (pc_dnotin hu hi ho).run pins s σ H Q I (tgOf.mono (dinL_run (td := fun _ _ _ _ => True) (neg := true) σ H Q h) fun y H1 h => tgOf.mono h fun x H2 ⟨a, o, e, g, q⟩ => ⟨a, o, e, g, by simpa using q⟩)⟩
def dputL (o i w : U) (st : Sto) : Option Sto := match dicTAt o st, keyL i st with
  | some (n, kvs), some k => if kvs.length < 16777216 then some (st.set n (.dT (putU kvs k w))) else none
  | _, _ => none
def sDPutL (mo mi m : ME) : MS := fun env st => (m env st).st env fun w st1 => (mo env st1).st env fun o st2 => (mi env st2).st env fun i st3 => match dputL o i w st3 with
  | some st4 => .next env st4
  | none => .bad
theorem psm_dputL (hu : X.A.units + 1 < cLine) (ho : PEm X T P Wx o mo) (hi : PEm X T P Wx i mi) (hv : PEm X T P Wx value m) (hs : swapsWith value (some (.Subscript o i pos')) pos.line X.env = pure false) :
    PSm X T P Wx (.Assign [.Subscript o i pos'] value pos) (sDPutL mo mi m) :=
  PS.imp (ps_dput hu ho hi hv hs) fun D σ H ⟨c, env, st, hH, hE, hR⟩ => by
    refine (ts_bind hH hE hR).mono fun x H1 ⟨w, c1, st1, l1, hH1, hE1, r1, hR1⟩ => ?_
    refine (ts_bind hH1 hE1 hR1).mono fun y H2 ⟨o, c2, st2, l2, hH2, hE2, r2, hR2⟩ => ?_
    refine (ts_bind hH2 hE2 hR2).mono fun z H3 ⟨i, c3, st3, l3, hH3, hE3, r3, hR3⟩ => ?_
    split at hR3
    · rename_i st4 q
      unfold dputL at q
      split at q
      · rename_i n kvs k e1 e2
        obtain ⟨b, rfl, hb⟩ := keyL_at hH3 r3 e2
        obtain ⟨rfl, q0, vs, e0, h1, h2⟩ := dicT_at hH3 (r2.mono l3) e1
        split at q
        · rename_i hz
          cases q
          refine ⟨_, _, e0, DPut.t h1 hb (by rw [szl, ← h2.length]; exact hz), ?_⟩
          exact ResS.go (D := D) hR3 (hH3.set q0 (fun z => nomatch z) ⟨_, rfl, h2.put k ((r1.mono l2).mono l3)⟩) hE3
        · cases q
      · cases q
    · exact hR3.elim
def sCase (cd : Env → Sto → Bool) (m1 m2 : MS) : MS := fun env st => if cd env st = true then m1 env st else m2 env st
theorem pssm_case {cd : Env → Sto → Bool} {body : List Stmt} {s1 s2 : MS} (h1 : PSsm X T P Wx body s1) (h2 : PSsm X T P Wx body s2) : PSsm X T P Wx body (sCase cd s1 s2) := ⟨fun pins s σ H D I ⟨c, env, st, hH, hE, hR⟩ => by
  unfold sCase at hR
  split at hR
  · exact h1.run pins s σ H D I ⟨c, env, st, hH, hE, hR⟩
  · exact h2.run pins s σ H D I ⟨c, env, st, hH, hE, hR⟩⟩
def eNever : ME := fun _ _ => .bad
theorem pem_never : PEm X T P Wx e eNever := ⟨fun pins s σ H Q I ⟨c, env, st, hH, hE, hR⟩ => hR.elim⟩
end
def fLenT : List U → Sto → Out U := fun us st => match us with
  | [.loc i] => match st[i]? with
    | some (.dT kvs) => .ok (.int kvs.length) st
    | _ => .bad
  | _ => .bad
def rLenT : List V → Hp → VK → Prop := fun xs H Q => ∃ (a : Addr) (kvs : List (List Key × V)), xs = [.ref a] ∧ H a = some (.dT kvs) ∧ Q (.int kvs.length) H
theorem call_lenT {X : Cx} : CallR X (.builtin "len") rLenT := by
  intro pins s σ H xs us Q I r h
  obtain ⟨a, kvs, rfl, h1, q⟩ := h
  obtain ⟨u, rfl, rx⟩ := vals1 r
  cases rx
  obtain ⟨z, hd, ys, rel, dd⟩ := dt_of I.hok h1
  refine call_len_dictH hd dd (by rw [← Paired.length rel]; rw [sizeLine_eq] at z; omega) ?_
  rw [← Paired.length rel]
  exact ⟨.int kvs.length, H, I.tok _, ⟨_, rfl⟩, q⟩
theorem sim_lenT {T : Tb} : CallSim T rLenT fLenT := fun Wx c σ st H us xs Q hH r hR => by
  unfold fLenT at hR
  split at hR
  · rename_i i
    obtain ⟨v, vs', rfl, r1, t⟩ := r.inv_cons
    cases t.inv_nil
    obtain ⟨hi, rfl⟩ := r1.inv_loc
    split at hR
    · rename_i kvs q
      obtain ⟨y, h1, ⟨vs, rfl, h2⟩, _⟩ := hH.act i _ q (fun z => nomatch z)
      refine ⟨_, vs, rfl, h1, ?_⟩
      rw [h2.length] at hR
      exact hR.ret hH (.int _)
    · exact hR.elim
  · exact hR.elim
end NK

namespace NK
open PySem PySem.Spec PyProof.Rows L2 LamX
def hasL (j : Nat) (env : Env) (st : Sto) : Bool := match env[j]? with
  | some (some u) => match asLst u st with
    | some us => us.any fun w => match w with
      | .loc _ => true
      | _ => false
    | none => false
  | _ => false
section
variable {X : Cx} {T : Tb} {Wx : WX}
theorem pem_lamwF {x a fl : Str} {g c P : Addr} {k kB j : Nat} {pg : Arguments} {bg : List Stmt} {sg : Scope} {fd : FuncData} {Ng : List Str} {lp : Arguments} {lb : Expr} {ls : Scope} {ml : ME} {p lpos pos : Pos}
    (F : FunD X.K x x pg bg sg [] [] g fd) (hg : Gl X x) (hm : X.mg x = some (.ref g)) (hk : PySem.W.keepIn X.K (.ref g) = true) (hb : L2.Binds X.K fd [a] []) (Sg : FnScope Ng [a] sg) (hNg : Ng[0]? = some a) (hva : Vis sg a)
    (hG : ∀ cdv, GivesTo2 X Ng x sg g cdv bg a (TTw X.K (T.cls kB) fl)) (hfl : (T.fld kB)[j]? = some fl) (nd : (T.fld kB).Nodup)
    (TB : TabB X.base X.mg c P) (hcode : X.env.code = .ref c) (hq : (P, X.env.qual ++ "<lambda>") ∈ T.tabs) (hu : ∀ p ∈ T.tabs, p.1 = P → p.2 = X.env.qual ++ "<lambda>") (hr : Room (k + 2) X.A) (hdef : defaultsOf lp X.env = ([], []))
    (K : LamOk X T k ⟨lp, lb, ls⟩ ml)
    (hdb : (x == ("__debug__" : Str)) = false := by decide) (hd : (a == ("__debug__" : Str)) = false := by decide) (hcd : (a == ("__classdict__" : Str)) = false := by decide) :
    PEm X T none Wx (.Call (.Name x p) [.Lambda lp lb ls lpos] [] pos) (eLamW kB j ml) := by
  obtain ⟨oc, od, dV, kV, doc, pm, an, cdv, ct, osl, rfl, l, hc, _, _⟩ := F.ex
  exact pem_lamw (d := ⟨lp, lb, ls⟩) hg hm hk l hc hb Sg hNg hva (hG cdv) hfl nd TB hcode hq hu hr hdef K hdb hd hcd
end
def eLstRg (m : ME) : ME := fun env st => (m env st).bind fun u st1 => match u with
  | .int n => if 0 ≤ n ∧ n ≤ 16777216 then .ok (.loc st1.length) (st1 ++ [.lst ((List.range n.toNat).map fun (i : Nat) => U.int (0 + (i : Int)))]) else .bad
  | _ => .bad
theorem rg_rel {T : Tb} {c : Cn} : ∀ is : List Nat, RpL T c (is.map fun (i : Nat) => U.int (0 + (i : Int))) (is.map fun (i : Nat) => V.int (0 + (i : Int)))
  | [] => .nil
  | _ :: is => .cons (.int _) (rg_rel is)
section
variable {X : Cx} {T : Tb} {P : Pin} {Wx : WX} {a : Expr} {m : ME} {p p2 pos pos2 : Pos}
theorem pem_lstRg (hc : X.calm = true) (hg : Gl X "list") (hm : X.mg "list" = none) (hg2 : Gl X "range") (hm2 : X.mg "range" = none) (ha : PEm X T P Wx a m) (na : starEach [a] X.env = (false, eval a X.env) :: starEach [] X.env := by rfl)
    (nb : starEach [.Call (.Name "range" p2) [a] [] pos2] X.env = (false, eval (.Call (.Name "range" p2) [a] [] pos2) X.env) :: starEach [] X.env := by rfl) :
    PEm X T P Wx (.Call (.Name "list" p) [.Call (.Name "range" p2) [a] [] pos2] [] pos) (eLstRg m) := PE.imp (pe_listRg hc hg hm (prg_1 hg2 hm2 ha na) nb) fun σ H Q ⟨c, env, st, hH, hE, hR⟩ => by
  refine (tg_bind hH hE hR).mono fun x H1 ⟨u, c1, st1, l1, hH1, hE1, r1, hR1⟩ => ?_
  cases u with
  | int n =>
    cases r1.inv_int
    dsimp only at hR1
    split at hR1
    · rename_i hn
      refine ⟨n, rfl, RgOk.of_le (by omega) (by omega) (by omega) (by omega), fun q hq => ?_⟩
      have e : rgV 0 n = (List.range n.toNat).map fun (i : Nat) => V.int (0 + (i : Int)) := by
        unfold rgV
        rw [Int.sub_zero]
      rw [e]
      have h2 := hH1.new hq (o := .lst ((List.range n.toNat).map fun (i : Nat) => U.int (0 + (i : Int)))) (x := .lst ((List.range n.toNat).map fun (i : Nat) => V.int (0 + (i : Int)))) ⟨_, rfl, rg_rel _⟩
      refine hR1 _ _ _ (le_new c1 q) h2 ?_
      have e2 : V.ref q = V.ref ((c1.new q).ρ c1.n) := by rw [new_self]
      rw [e2, ← hH1.n]
      exact .loc (Nat.lt_succ_self _)
    · exact hR1.elim
  | _ => exact hR1.elim
end
end NK

set_option maxHeartbeats 4000000
namespace G
open PySem L2 NK
def top (i : Nat) : Stmt := PySem.Challenge.pw_namesakes_k26_whole_finer_least_above_an.main.body.getD i (.Pass ⟨0, 0, 0, 0⟩)
abbrev PW : Program := PySem.Challenge.pw_namesakes_k26_whole_finer_least_above_an
abbrev s_u_law_hand : Stmt := (top 15)
abbrev s_u_law_mix : Stmt := (top 14)
abbrev s_u_law_draw : Stmt := (top 16)
abbrev s_u_law_pick : Stmt := (top 17)
abbrev s_u_law_mask : Stmt := (top 18)
abbrev s_u_law_on : Stmt := (top 19)
abbrev s_u_law_numbers : Stmt := (top 20)
abbrev s_u_law_near : Stmt := (top 21)
abbrev s_u_law_match_word : Stmt := (top 25)
abbrev s_entries_fault : Stmt := (top 8)
abbrev s_BadPattern___init : Stmt := (inClass (top 3) 0)
abbrev s_Pattern___init : Stmt := (inClass (top 10) 0)
abbrev s_u_law_word : Stmt := (top 26)
abbrev s_BadMatch___init : Stmt := (inClass (top 4) 0)
abbrev s_check_match : Stmt := (top 11)
abbrev s_is_finer : Stmt := (top 12)
abbrev s_class_numbers : Stmt := (top 7)
abbrev s_merged_marks : Stmt := (top 9)
abbrev s_Pattern___or : Stmt := (inClass (top 10) 8)
abbrev s_Pattern___and : Stmt := (inClass (top 10) 9)
abbrev s_u_law_unmatched_right : Stmt := (top 30)
abbrev s_u_law_is : Stmt := (top 27)
abbrev s_u_law_above : Stmt := (top 23)
abbrev s_u_law_beneath : Stmt := (top 24)
abbrev s_Pattern___eq : Stmt := (inClass (top 10) 10)
abbrev s_u_law_finer : Stmt := (top 22)
abbrev s_u_law_pair_right : Stmt := (top 28)
abbrev s_u_law_three_right : Stmt := (top 29)
abbrev s_law : Stmt := (top 31)
end G

namespace G
open PySem L2 NK
-- class CustomError 0
-- class BadPattern 1
-- fields BadPattern index what
-- class BadMatch 2
-- fields BadMatch what
-- class Pattern 3
-- fields Pattern entries
def fldN : Nat → List Str
  | 1 => ["index", "what"]
  | 2 => ["what"]
  | 3 => ["entries"]
  | _ => []
def isl : IsL := [((.o 3, .o 3), true)]
noncomputable def l_u_law_hand_1 : MS := (sAsg (eOp fMod (eCB fInt (aCons (eOp fAdd (eOp fMul (eVar 1) (eC (.int 31))) (eOp fMul (eCB fInt (aCons (eVar 3) aNil)) (eOp fAdd (eVar 2) (eC (.int 7))))) aNil)) (eC (.int 2147483629))) (gN 1))
noncomputable def b_u_law_hand : MS := (sSeq (sAsg (eC (.int 0)) (gN 1))
    (sSeq (sFor (iEnumA (aCons (eVar 0) aNil)) (gT [2, 3]) l_u_law_hand_1)
    (sRet (eLst (aCons (eScope (eComp (iSeq (eVar 0)) (gN 3) NK.tYes (eCB fAbs (aCons (eCB fInt (aCons (eVar 3) aNil)) aNil)) [3])) (aCons (eC (.int 0)) (aCons (eC (.int 0)) (aCons (eVar 1) aNil))))))))
noncomputable def m_u_law_hand : MF := ( (runF 4 b_u_law_hand))
noncomputable def b_u_law_mix : MS := (sSeq (sAsg (eOp fMod (eCB fInt (aCons (eOp fAdd (eOp fAdd (eOp fMul (eVar 0) (eC (.int 48271))) (eOp fMul (eVar 1) (eC (.int 16807)))) (eC (.int 11))) aNil)) (eC (.int 2147483647))) (gN 2))
    (sSeq (sAsg (eOp fMod (eCB fInt (aCons (eOp fAdd (eOp fAdd (eOp fMul (eVar 2) (eVar 2)) (eOp fMul (eOp fDiv (eVar 2) (eC (.int 127))) (eC (.int 40692)))) (eOp fMul (eVar 1) (eC (.int 69621)))) aNil)) (eC (.int 2147483399))) (gN 3))
    (sRet (eOp fDiv (eOp fMod (eCB fInt (aCons (eOp fAdd (eOp fDiv (eOp fMul (eVar 3) (eVar 3)) (eC (.int 1009))) (eVar 2)) aNil)) (eC (.int 2147483563))) (eC (.int 16))))))
noncomputable def m_u_law_mix : MF := fScope (runF 4 b_u_law_mix)
noncomputable def b_u_law_draw : MS := (sSeq (sIf (tAnd (NK.tB (eOp fEq (eOp fIx (eVar 0) (eC (.int 2))) (eC (.int 0)))) (NK.tB (eOp fLt (eOp fIx (eVar 0) (eC (.int 1))) (eCB fLen (aCons (eOp fIx (eVar 0) (eC (.int 0))) aNil))))) (sSeq (sAsg (eOp fIx (eOp fIx (eVar 0) (eC (.int 0))) (eOp fIx (eVar 0) (eC (.int 1)))) (gN 2))
    (sSeq (sSetIx (eVar 0) (eC (.int 1)) (eOp fAdd (eOp fIx (eVar 0) (eC (.int 1))) (eC (.int 1))))
    (sSeq (sIf (NK.tB (eOp fLt (eVar 2) (eOp fPow (eC (.int 10)) (eC (.int 18))))) (sRet (eOp fMod (eCB fInt (aCons (eCall 2 m_u_law_mix [] (aCons (eOp fMod (eCB fInt (aCons (eVar 2) aNil)) (eC (.int 2147483647))) (aCons (eOp fIx (eVar 0) (eC (.int 1))) aNil))) aNil)) (eVar 1))) sNext)
    (sSetIx (eVar 0) (eC (.int 2)) (eVar 2))))) sNext)
    (sSeq (sIf (NK.tB (eOp fGt (eOp fIx (eVar 0) (eC (.int 2))) (eC (.int 0)))) (sSeq (sAsg (eOp fIx (eVar 0) (eC (.int 2))) (gN 3))
    (sSeq (sSetIx (eVar 0) (eC (.int 2)) (eOp fDiv (eVar 3) (eVar 1)))
    (sRet (eOp fMod (eCB fInt (aCons (eVar 3) aNil)) (eVar 1))))) sNext)
    (sSeq (sSetIx (eVar 0) (eC (.int 3)) (eOp fMod (eCB fInt (aCons (eOp fAdd (eOp fIx (eVar 0) (eC (.int 3))) (eC (.int 1))) aNil)) (eC (.int 2147483629))))
    (sRet (eOp fMod (eCB fInt (aCons (eCall 2 m_u_law_mix [] (aCons (eOp fIx (eVar 0) (eC (.int 3))) (aCons (eOp fIx (eVar 0) (eC (.int 1))) aNil))) aNil)) (eVar 1))))))
noncomputable def m_u_law_draw : MF := fScope (runF 4 b_u_law_draw)
noncomputable def b_u_law_pick : MS := (sRet (eOp fIx (eVar 1) (eCall 2 m_u_law_draw [] (aCons (eVar 0) (aCons (eCB fLen (aCons (eVar 1) aNil)) aNil)))))
noncomputable def m_u_law_pick : MF := ( (runF 2 b_u_law_pick))
noncomputable def b_u_law_mask : MS := (sSeq (sAsg (eCall 2 m_u_law_draw [] (aCons (eVar 0) (aCons (eC (.int 10)) aNil))) (gN 1))
    (sSeq (sAsg (eIf (NK.tB (eOp fEq (eVar 1) (eC (.int 9)))) (eCall 2 m_u_law_draw [] (aCons (eVar 0) (aCons (eC (.int 41)) aNil))) (eIf (NK.tB (eOp fEq (eVar 1) (eC (.int 8)))) (eC (.int 40)) (eCall 2 m_u_law_draw [] (aCons (eVar 0) (aCons (eC (.int 8)) aNil))))) (gN 2))
    (sSeq (sAsg (eCall 2 m_u_law_pick [] (aCons (eVar 0) (aCons (eScope (eLst (aCons (eC (.int 1)) (aCons (eC (.int 1)) (aCons (eC (.int 4)) (aCons (eC (.int 2)) aNil)))))) aNil))) (gN 3))
    (sRet (eScope (eComp (iRng1 (aCons (eVar 2) aNil)) (gN 4) NK.tYes (eOr (eOp fEq (eVar 3) (eC (.int 1))) (eOp fGt (eCall 2 m_u_law_draw [] (aCons (eVar 0) (aCons (eVar 3) aNil))) (eC (.int 0)))) [4]))))))
noncomputable def m_u_law_mask : MF := fScope (runF 5 b_u_law_mask)
noncomputable def l_u_law_on_1 : MS := (sSeq (sAsg (eCall 2 m_u_law_draw [] (aCons (eVar 0) (aCons (eOp fAdd (eVar 3) (eC (.int 1))) aNil))) (gN 5))
    (sSeq (sDrop (eBM fApp (eVar 2) (aCons (eIf (tTru (eVar 4)) (eVar 5) (eC .non)) aNil)))
    (sAsg (eIf (tAnd (tTru (eVar 4)) (NK.tB (eOp fEq (eVar 5) (eVar 3)))) (eOp fAdd (eVar 3) (eC (.int 1))) (eVar 3)) (gN 3))))
noncomputable def b_u_law_on : MS := (sSeq (sPar 2 3 (aCons (eLst aNil) (aCons (eC (.int 0)) aNil)))
    (sSeq (sFor (iSeq (eVar 1)) (gN 4) l_u_law_on_1)
    (sRet (eVar 2))))
noncomputable def m_u_law_on : MF := fScope (runF 6 b_u_law_on)
noncomputable def l_u_law_numbers_1 : MS := (sSeq (sIf (tAnd (NK.tB (eOp fNotN (eVar 3) (eC .non))) (NK.tB (eOp (fInD true) (eVar 3) (eVar 1)))) (sDrop (eBM fApp (eVar 1) (aCons (eVar 3) aNil))) sNext)
    (sDrop (eBM fApp (eVar 2) (aCons (eIf (NK.tB (eOp fIsN (eVar 3) (eC .non))) (eC .non) (eBM fIndex (eVar 1) (aCons (eVar 3) aNil))) aNil))))
noncomputable def b_u_law_numbers : MS := (sSeq (sPar 1 2 (aCons (eLst aNil) (aCons (eLst aNil) aNil)))
    (sSeq (sFor (iSeq (eVar 0)) (gN 3) l_u_law_numbers_1)
    (sRet (eVar 2))))
noncomputable def m_u_law_numbers : MF := fScope (runF 4 b_u_law_numbers)
noncomputable def b_u_law_near : MS := (sSeq (sAsg (eScope (eComp (iEnumA (aCons (eVar 1) aNil)) (gT [5, 6]) (NK.tB (eOp fNotN (eVar 6) (eC .non))) (eVar 5) [5, 6])) (gN 2))
    (sSeq (sIf (NK.tB (eOp fEq (eVar 2) (eScope (eLst aNil)))) (sRet (eScope (eCB fList (aCons (eVar 1) aNil)))) sNext)
    (sSeq (sAsg (eTup (aCons (eCall 2 m_u_law_pick [] (aCons (eVar 0) (aCons (eVar 2) aNil))) (aCons (eCall 2 m_u_law_pick [] (aCons (eVar 0) (aCons (eVar 2) aNil))) aNil))) (gT [3, 4]))
    (sSeq (sIf (NK.tB (eOp fEq (eCall 2 m_u_law_draw [] (aCons (eVar 0) (aCons (eC (.int 2)) aNil))) (eC (.int 0)))) (sRet (eCall 1 m_u_law_numbers [] (aCons (eScope (eComp (iSeq (eVar 1)) (gN 6) NK.tYes (eIf (NK.tB (eOp fEq (eVar 6) (eOp fIx (eVar 1) (eVar 4)))) (eOp fIx (eVar 1) (eVar 3)) (eVar 6)) [6])) aNil))) sNext)
    (sRet (eCall 1 m_u_law_numbers [] (aCons (eScope (eComp (iEnumA (aCons (eVar 1) aNil)) (gT [5, 6]) NK.tYes (eIf (NK.tB (eOp fEq (eVar 5) (eVar 3))) (eC (.int 41)) (eVar 6)) [5, 6])) aNil)))))))
noncomputable def m_u_law_near : MF := fScope (runF 7 b_u_law_near)
noncomputable def b_u_law_match_word : MS := (sSeq (sIf (NK.tB (eOp fNe (eCB fLen (aCons (eVar 0) aNil)) (eCB fLen (aCons (eVar 1) aNil)))) (sRet (eC (.str "places"))) sNext)
    (sSeq (sAsg (eScope (eComp (iRng1 (aCons (eCB fLen (aCons (eVar 0) aNil)) aNil)) (gN 3) (NK.tB (eOp fNe (eOp fIsN (eOp fIx (eVar 0) (eVar 3)) (eC .non)) (eOp fIsN (eOp fIx (eVar 1) (eVar 3)) (eC .non)))) (eVar 3) [3])) (gN 2))
    (sRet (eIf (NK.tB (eOp fNe (eVar 2) (eScope (eLst aNil)))) (eC (.str "nobody")) (eC .non)))))
noncomputable def m_u_law_match_word : MF := fScope (runF 4 b_u_law_match_word)
noncomputable def l_entries_fault_1 : MS := (sSeq (sIf (NK.tB (eOp fIsN (eVar 3) (eC .non))) sCont sNext)
    (sSeq (sIf (tOr (tNot (tTru (eIsi isl [(.b .int)] (eVar 3)))) (tOr (tTru (eIsi isl [(.b .bool)] (eVar 3))) (NK.tB (eOp fLt (eVar 3) (eC (.int 0)))))) (sRet (eTup (aCons (eVar 2) (aCons (eC (.str "entry")) aNil)))) sNext)
    (sSeq (sIf (NK.tB (eOp fGt (eVar 3) (eVar 1))) (sRet (eTup (aCons (eVar 2) (aCons (eC (.str "order")) aNil)))) sNext)
    (sIf (NK.tB (eOp fEq (eVar 3) (eVar 1))) (sAsg (eOp fAdd (eVar 1) (eC (.int 1))) (gN 1)) sNext))))
noncomputable def b_entries_fault : MS := (sSeq (sIf (tOr (tNot (tTru (eIsi isl [(.b .list), (.b .tuple)] (eVar 0)))) (NK.tB (eOp fGt (eCB fLen (aCons (eVar 0) aNil)) (eC (.int 40))))) (sRet (eTup (aCons (eC (.int 0)) (aCons (eC (.str "entries")) aNil)))) sNext)
    (sSeq (sAsg (eC (.int 0)) (gN 1))
    (sSeq (sFor (iEnumA (aCons (eVar 0) aNil)) (gT [2, 3]) l_entries_fault_1)
    (sRet (eC .non)))))
noncomputable def m_entries_fault : MF := fScope (runF 4 b_entries_fault)
noncomputable def b_Pattern___init : MS := (sSeq (sAsg (eCall 1 m_entries_fault [] (aCons (eVar 1) aNil)) (gN 2))
    (sSeq (sIf (NK.tB (eOp fNotN (eVar 2) (eC .non))) (sRaise 1 2 (aCons (eOp fIx (eVar 2) (eC (.int 0))) (aCons (eOp fIx (eVar 2) (eC (.int 1))) aNil))) sNext)
    (NK.sFld 3 0 (eVar 0) (eCB fTuple (aCons (eVar 1) aNil)))))
noncomputable def m_Pattern___init : MF := ( (runF 3 b_Pattern___init))
noncomputable def l_check_match_1 : MS := (sIf (NK.tB (eOp fNe (eOp fIsN (eVar 2) (eC .non)) (eOp fIsN (eVar 3) (eC .non)))) (sRaise 2 1 (aCons (eC (.str "nobody")) aNil)) sNext)
noncomputable def b_check_match : MS := (sSeq (sIf (NK.tB (eOp fNe (eCB fLen (aCons (eFld 3 0 (eVar 0)) aNil)) (eCB fLen (aCons (eFld 3 0 (eVar 1)) aNil)))) (sRaise 2 1 (aCons (eC (.str "places")) aNil)) sNext)
    (sFor (iZip (aCons (eFld 3 0 (eVar 0)) (aCons (eFld 3 0 (eVar 1)) aNil))) (gT [2, 3]) l_check_match_1))
noncomputable def m_check_match : MF := fScope (runF 4 b_check_match)
noncomputable def l_is_finer_1 : MS := (sIf (tAnd (NK.tB (eOp fNotN (eVar 3) (eC .non))) (NK.tB (eOp fNe (eDSetd (eVar 2) (eVar 3) (eVar 4)) (eVar 4)))) (sRet (eC (.bl false))) sNext)
noncomputable def b_is_finer : MS := (sSeq (sDrop (eCall 2 m_check_match [] (aCons (eVar 0) (aCons (eVar 1) aNil))))
    (sSeq (sAsg eDict (gN 2))
    (sSeq (sFor (iZip (aCons (eFld 3 0 (eVar 0)) (aCons (eFld 3 0 (eVar 1)) aNil))) (gT [3, 4]) l_is_finer_1)
    (sRet (eC (.bl true))))))
noncomputable def m_is_finer : MF := fScope (runF 5 b_is_finer)
noncomputable def l_class_numbers_1 : MS := (sSeq (sIf (tAnd (NK.tB (eOp fNotN (eVar 3) (eC .non))) (NK.tB (eOp (fDIn true) (eVar 3) (eVar 1)))) (NK.sDPut (eVar 1) (eVar 3) (eCB fLenO (aCons (eVar 1) aNil))) sNext)
    (sDrop (eBM fApp (eVar 2) (aCons (eIf (NK.tB (eOp fIsN (eVar 3) (eC .non))) (eC .non) (eOp fDGet (eVar 1) (eVar 3))) aNil))))
noncomputable def l_class_numbers_2 : MS := (sSeq (sIf (tAnd (NK.tB (eOp fNotN (eVar 3) (eC .non))) (NK.tB (eDInL true (eVar 3) (eVar 1)))) (sDPutL (eVar 1) (eVar 3) (eCB fLenT (aCons (eVar 1) aNil))) sNext)
    (sDrop (eBM fApp (eVar 2) (aCons (eIf (NK.tB (eOp fIsN (eVar 3) (eC .non))) (eC .non) (eDGetL (eVar 1) (eVar 3))) aNil))))
noncomputable def b_class_numbers : MS := (sCase (hasL 0)
    (sSeq (sAsg eDictT (gN 1))
    (sSeq (sAsg (eLst aNil) (gN 2))
    (sSeq (sFor (iSeq (eVar 0)) (gN 3) l_class_numbers_2)
    (sRet (eCB fTuple (aCons (eVar 2) aNil))))))
    (sSeq (sAsg eDict (gN 1))
    (sSeq (sAsg (eLst aNil) (gN 2))
    (sSeq (sFor (iSeq (eVar 0)) (gN 3) l_class_numbers_1)
    (sRet (eCB fTuple (aCons (eVar 2) aNil)))))))
noncomputable def m_class_numbers : MF := fScope (runF 4 b_class_numbers)
noncomputable def l_merged_marks_1 : MS := (sIf (tAnd (NK.tB (eOp fNotN (eOp fIx (eVar 1) (eVar 3)) (eC .non))) (tAnd (NK.tB (eOp fEq (eOp fIx (eVar 1) (eVar 3)) (eOp fIx (eVar 1) (eVar 4)))) (NK.tB (eOp fNe (eOp fIx (eVar 2) (eVar 3)) (eOp fIx (eVar 2) (eVar 4)))))) (sSeq (sAsg (eTup (aCons (eOp fIx (eVar 2) (eVar 3)) (aCons (eOp fIx (eVar 2) (eVar 4)) aNil))) (gT [5, 6]))
    (sAsg (eScope (eComp (iSeq (eVar 2)) (gN 7) NK.tYes (eIf (NK.tB (eOp fEq (eVar 7) (eVar 5))) (eVar 6) (eVar 7)) [7])) (gN 2))) sNext)
noncomputable def l_merged_marks_2 : MS := (sFor (iRng1 (aCons (eVar 3) aNil)) (gN 4) l_merged_marks_1)
noncomputable def b_merged_marks : MS := (sSeq (sAsg (eScope (eCB fList (aCons (eVar 0) aNil))) (gN 2))
    (sSeq (sFor (iRng1 (aCons (eCB fLen (aCons (eVar 2) aNil)) aNil)) (gN 3) l_merged_marks_2)
    (sRet (eVar 2))))
noncomputable def m_merged_marks : MF := fScope (runF 8 b_merged_marks)
noncomputable def b_Pattern___or : MS := (sSeq (sIf (tNot (tTru (eIsi isl [(.o 3)] (eVar 1)))) (sRet eNever) sNext)
    (sSeq (sDrop (eCall 2 m_check_match [] (aCons (eVar 0) (aCons (eVar 1) aNil))))
    (sRet (eScope (eMake 3 2 m_Pattern___init [] (aCons (eCall 1 m_class_numbers [] (aCons (eCall 2 m_merged_marks [] (aCons (eFld 3 0 (eVar 0)) (aCons (eFld 3 0 (eVar 1)) aNil))) aNil)) aNil))))))
noncomputable def m_Pattern___or : MF := fScope (runF 2 b_Pattern___or)
noncomputable def b_Pattern___and : MS := (sSeq (sIf (tNot (tTru (eIsi isl [(.o 3)] (eVar 1)))) (sRet eNever) sNext)
    (sSeq (sDrop (eCall 2 m_check_match [] (aCons (eVar 0) (aCons (eVar 1) aNil))))
    (sSeq (sAsg (eComp (iZip (aCons (eFld 3 0 (eVar 0)) (aCons (eFld 3 0 (eVar 1)) aNil))) (gT [3, 4]) NK.tYes (eIf (NK.tB (eOp fIsN (eVar 3) (eC .non))) (eC .non) (eTupL (aCons (eVar 3) (aCons (eVar 4) aNil)))) [3, 4]) (gN 2))
    (sRet (eScope (eMake 3 2 m_Pattern___init [] (aCons (eCall 1 m_class_numbers [] (aCons (eVar 2) aNil)) aNil)))))))
noncomputable def m_Pattern___and : MF := fScope (runF 5 b_Pattern___and)
noncomputable def b_u_law_unmatched_right : MS := (sSeq (sAsg (eTup (aCons (eScope (eMake 3 2 m_Pattern___init [] (aCons (eVar 0) aNil))) (aCons (eScope (eMake 3 2 m_Pattern___init [] (aCons (eVar 1) aNil))) aNil))) (gT [2, 3]))
    (sSeq (sAsg (eCall 2 m_u_law_match_word [] (aCons (eVar 0) (aCons (eVar 1) aNil))) (gN 4))
    (sSeq (sIf (NK.tB (eOp fNe (eLamW 2 0 (eCall 2 m_is_finer [] (aCons (eVar 2) (aCons (eVar 3) aNil)))) (eVar 4))) (sRet (eC (.bl false))) sNext)
    (sSeq (sIf (NK.tB (eOp fNe (eLamW 2 0 (eBinO 3 m_Pattern___or (eVar 2) (eVar 3))) (eVar 4))) (sRet (eC (.bl false))) sNext)
    (sSeq (sIf (NK.tB (eOp fNe (eLamW 2 0 (eBinO 3 m_Pattern___and (eVar 2) (eVar 3))) (eVar 4))) (sRet (eC (.bl false))) sNext)
    (sRet (eOp fEq (eLamW 2 0 (eCall 2 m_is_finer [] (aCons (eVar 3) (aCons (eVar 2) aNil)))) (eVar 4))))))))
noncomputable def m_u_law_unmatched_right : MF := fScope (runF 5 b_u_law_unmatched_right)
noncomputable def b_u_law_is : MS := (sRet (eAnd (eIsi isl [(.b .bool)] (eVar 0)) (eOp fEq (eVar 0) (eVar 1))))
noncomputable def m_u_law_is : MF := fScope (runF 2 b_u_law_is)
noncomputable def l_u_law_above_1 : MS := (sSeq (sAsg (eAnd (eOp fNotN (eOp fIx (eVar 0) (eVar 3)) (eC .non)) (eOr (eOp fEq (eOp fIx (eVar 0) (eVar 3)) (eOp fIx (eVar 0) (eVar 4))) (eOp fEq (eOp fIx (eVar 1) (eVar 3)) (eOp fIx (eVar 1) (eVar 4))))) (gN 5))
    (sIf (tAnd (tTru (eVar 5)) (NK.tB (eOp fNe (eOp fIx (eVar 2) (eVar 3)) (eOp fIx (eVar 2) (eVar 4))))) (sSeq (sAsg (eTup (aCons (eOp fIx (eVar 2) (eVar 3)) (aCons (eOp fIx (eVar 2) (eVar 4)) aNil))) (gT [6, 7]))
    (sAsg (eScope (eComp (iSeq (eVar 2)) (gN 8) NK.tYes (eIf (NK.tB (eOp fEq (eVar 8) (eVar 6))) (eVar 7) (eVar 8)) [8])) (gN 2))) sNext))
noncomputable def l_u_law_above_2 : MS := (sFor (iRng1 (aCons (eVar 3) aNil)) (gN 4) l_u_law_above_1)
noncomputable def b_u_law_above : MS := (sSeq (sAsg (eScope (eLstRg (eCB fLen (aCons (eVar 0) aNil)))) (gN 2))
    (sSeq (sFor (iRng1 (aCons (eCB fLen (aCons (eVar 0) aNil)) aNil)) (gN 3) l_u_law_above_2)
    (sRet (eCall 1 m_u_law_numbers [] (aCons (eScope (eComp (iRng1 (aCons (eCB fLen (aCons (eVar 0) aNil)) aNil)) (gN 3) NK.tYes (eIf (NK.tB (eOp fIsN (eOp fIx (eVar 0) (eVar 3)) (eC .non))) (eC .non) (eOp fIx (eVar 2) (eVar 3))) [3])) aNil)))))
noncomputable def m_u_law_above : MF := fScope (runF 9 b_u_law_above)
noncomputable def b_u_law_beneath : MS := (sRet (eCall 1 m_u_law_numbers [] (aCons (eScope (eComp (iRng1 (aCons (eCB fLen (aCons (eVar 0) aNil)) aNil)) (gN 2) NK.tYes (eIf (NK.tB (eOp fIsN (eOp fIx (eVar 0) (eVar 2)) (eC .non))) (eC .non) (eTup (aCons (eOp fIx (eVar 0) (eVar 2)) (aCons (eOp fIx (eVar 1) (eVar 2)) aNil)))) [2])) aNil)))
noncomputable def m_u_law_beneath : MF := fScope (runF 3 b_u_law_beneath)
noncomputable def b_Pattern___eq : MS := (sRet (eAnd (eIsi isl [(.o 3)] (eVar 1)) (eOp fEq (eFld 3 0 (eVar 0)) (eFld 3 0 (eVar 1)))))
noncomputable def m_Pattern___eq : MF := fScope (runF 2 b_Pattern___eq)
noncomputable def l_u_law_finer_1 : MS := (sIf (tAnd (NK.tB (eOp fNotN (eVar 3) (eC .non))) (tAnd (NK.tB (eOp fEq (eVar 3) (eOp fIx (eVar 0) (eVar 4)))) (NK.tB (eOp fNe (eOp fIx (eVar 1) (eVar 2)) (eOp fIx (eVar 1) (eVar 4)))))) (sRet (eC (.bl false))) sNext)
noncomputable def l_u_law_finer_2 : MS := (sFor (iRng1 (aCons (eVar 2) aNil)) (gN 4) l_u_law_finer_1)
noncomputable def b_u_law_finer : MS := (sSeq (sFor (iEnumA (aCons (eVar 0) aNil)) (gT [2, 3]) l_u_law_finer_2)
    (sRet (eC (.bl true))))
noncomputable def m_u_law_finer : MF := fScope (runF 5 b_u_law_finer)
noncomputable def b_u_law_pair_right : MS := (sSeq (sPar 2 3 (aCons (eScope (eMake 3 2 m_Pattern___init [] (aCons (eVar 0) aNil))) (aCons (eScope (eMake 3 2 m_Pattern___init [] (aCons (eVar 1) aNil))) aNil)))
    (sSeq (sIf (tOr (tNot (tTru (eCall 2 m_u_law_is [] (aCons (eCall 2 m_is_finer [] (aCons (eVar 2) (aCons (eVar 3) aNil))) (aCons (eCall 2 m_u_law_finer [] (aCons (eVar 0) (aCons (eVar 1) aNil))) aNil))))) (tNot (tTru (eCall 2 m_u_law_is [] (aCons (eCall 2 m_is_finer [] (aCons (eVar 2) (aCons (eVar 2) aNil))) (aCons (eC (.bl true)) aNil)))))) (sRet (eC (.bl false))) sNext)
    (sSeq (sPar 4 5 (aCons (eBinO 3 m_Pattern___or (eVar 2) (eVar 3)) (aCons (eBinO 3 m_Pattern___and (eVar 2) (eVar 3)) aNil)))
    (sSeq (sIf (tOr (NK.tB (eOp fNe (eScope (eCB fList (aCons (eFld 3 0 (eVar 4)) aNil))) (eCall 2 m_u_law_above [] (aCons (eVar 0) (aCons (eVar 1) aNil))))) (NK.tB (eOp fNe (eScope (eCB fList (aCons (eFld 3 0 (eVar 5)) aNil))) (eCall 2 m_u_law_beneath [] (aCons (eVar 0) (aCons (eVar 1) aNil)))))) (sRet (eC (.bl false))) sNext)
    (sSeq (sIf (tOr (tNot (NK.tB (eOp (fEqO 3 [.o 3] m_Pattern___eq) (eBinO 3 m_Pattern___or (eVar 3) (eVar 2)) (eVar 4)))) (tOr (tNot (NK.tB (eOp (fEqO 3 [.o 3] m_Pattern___eq) (eBinO 3 m_Pattern___and (eVar 3) (eVar 2)) (eVar 5)))) (tNot (NK.tB (eOp (fEqO 3 [.o 3] m_Pattern___eq) (eBinO 3 m_Pattern___or (eVar 2) (eVar 2)) (eVar 2)))))) (sRet (eC (.bl false))) sNext)
    (sSeq (sIf (tOr (tNot (NK.tB (eOp (fEqO 3 [.o 3] m_Pattern___eq) (eBinO 3 m_Pattern___and (eVar 2) (eVar 2)) (eVar 2)))) (tOr (tNot (NK.tB (eOp (fEqO 3 [.o 3] m_Pattern___eq) (eBinO 3 m_Pattern___or (eVar 2) (eVar 5)) (eVar 2)))) (tNot (NK.tB (eOp (fEqO 3 [.o 3] m_Pattern___eq) (eBinO 3 m_Pattern___and (eVar 2) (eVar 4)) (eVar 2)))))) (sRet (eC (.bl false))) sNext)
    (sSeq (sIf (tOr (NK.tB (eOp fNe (eCall 2 m_u_law_finer [] (aCons (eVar 0) (aCons (eVar 1) aNil))) (eOp (fEqO 3 [.o 3] m_Pattern___eq) (eVar 4) (eVar 3)))) (NK.tB (eOp fNe (eCall 2 m_u_law_finer [] (aCons (eVar 0) (aCons (eVar 1) aNil))) (eOp (fEqO 3 [.o 3] m_Pattern___eq) (eVar 5) (eVar 2))))) (sRet (eC (.bl false))) sNext)
    (sRet (eAnd (eOp fEq (eScope (eCB fList (aCons (eFld 3 0 (eVar 2)) aNil))) (eVar 0)) (eOp fEq (eScope (eCB fList (aCons (eFld 3 0 (eVar 3)) aNil))) (eVar 1)))))))))))
noncomputable def m_u_law_pair_right : MF := fScope (runF 6 b_u_law_pair_right)
noncomputable def b_u_law_three_right : MS := (sSeq (sPar3 3 4 5 (aCons (eScope (eMake 3 2 m_Pattern___init [] (aCons (eVar 0) aNil))) (aCons (eScope (eMake 3 2 m_Pattern___init [] (aCons (eVar 1) aNil))) (aCons (eScope (eMake 3 2 m_Pattern___init [] (aCons (eVar 2) aNil))) aNil))))
    (sSeq (sIf (NK.tB (eOp fNe (eCall 2 m_is_finer [] (aCons (eBinO 3 m_Pattern___or (eVar 3) (eVar 4)) (aCons (eVar 5) aNil))) (eAnd (eCall 2 m_u_law_finer [] (aCons (eVar 0) (aCons (eVar 2) aNil))) (eCall 2 m_u_law_finer [] (aCons (eVar 1) (aCons (eVar 2) aNil)))))) (sRet (eC (.bl false))) sNext)
    (sSeq (sIf (NK.tB (eOp fNe (eCall 2 m_is_finer [] (aCons (eVar 5) (aCons (eBinO 3 m_Pattern___and (eVar 3) (eVar 4)) aNil))) (eAnd (eCall 2 m_u_law_finer [] (aCons (eVar 2) (aCons (eVar 0) aNil))) (eCall 2 m_u_law_finer [] (aCons (eVar 2) (aCons (eVar 1) aNil)))))) (sRet (eC (.bl false))) sNext)
    (sSeq (sIf (tNot (NK.tB (eOp (fEqO 3 [.o 3] m_Pattern___eq) (eBinO 3 m_Pattern___or (eBinO 3 m_Pattern___or (eVar 3) (eVar 4)) (eVar 5)) (eBinO 3 m_Pattern___or (eVar 3) (eBinO 3 m_Pattern___or (eVar 4) (eVar 5)))))) (sRet (eC (.bl false))) sNext)
    (sRet (eOp (fEqO 3 [.o 3] m_Pattern___eq) (eBinO 3 m_Pattern___and (eBinO 3 m_Pattern___and (eVar 3) (eVar 4)) (eVar 5)) (eBinO 3 m_Pattern___and (eVar 3) (eBinO 3 m_Pattern___and (eVar 4) (eVar 5)))))))))
noncomputable def m_u_law_three_right : MF := fScope (runF 6 b_u_law_three_right)
noncomputable def b_law : MS := (sSeq (sAsg (eCall 1 m_u_law_hand [] (aCons (eVar 0) aNil)) (gN 1))
    (sSeq (sAsg (eCall 1 m_u_law_mask [] (aCons (eVar 1) aNil)) (gN 2))
    (sSeq (sAsg (eCall 2 m_u_law_on [] (aCons (eVar 1) (aCons (eVar 2) aNil))) (gN 3))
    (sSeq (sAsg (eIf (NK.tB (eOp fEq (eCall 2 m_u_law_draw [] (aCons (eVar 1) (aCons (eC (.int 2)) aNil))) (eC (.int 0)))) (eCall 2 m_u_law_near [] (aCons (eVar 1) (aCons (eVar 3) aNil))) (eCall 2 m_u_law_on [] (aCons (eVar 1) (aCons (eVar 2) aNil)))) (gN 4))
    (sSeq (sAsg (eCall 2 m_u_law_pick [] (aCons (eVar 1) (aCons (eScope (eLst (aCons (eCall 2 m_u_law_on [] (aCons (eVar 1) (aCons (eVar 2) aNil))) (aCons (eCall 2 m_u_law_near [] (aCons (eVar 1) (aCons (eVar 4) aNil))) (aCons (eCall 2 m_u_law_above [] (aCons (eVar 3) (aCons (eVar 4) aNil))) (aCons (eCall 2 m_u_law_beneath [] (aCons (eVar 3) (aCons (eVar 4) aNil))) aNil)))))) aNil))) (gN 5))
    (sSeq (sIf (tOr (tNot (tTru (eCall 2 m_u_law_pair_right [] (aCons (eVar 3) (aCons (eVar 4) aNil))))) (tOr (tNot (tTru (eCall 2 m_u_law_pair_right [] (aCons (eVar 4) (aCons (eVar 5) aNil))))) (tNot (tTru (eCall 2 m_u_law_pair_right [] (aCons (eVar 5) (aCons (eVar 3) aNil))))))) (sRet (eC (.bl false))) sNext)
    (sSeq (sIf (tOr (tNot (tTru (eCall 3 m_u_law_three_right [] (aCons (eVar 3) (aCons (eVar 4) (aCons (eVar 5) aNil)))))) (tNot (tTru (eCall 3 m_u_law_three_right [] (aCons (eVar 5) (aCons (eVar 4) (aCons (eVar 3) aNil))))))) (sRet (eC (.bl false))) sNext)
    (sSeq (sAsg (eCall 2 m_u_law_on [] (aCons (eVar 1) (aCons (eCall 1 m_u_law_mask [] (aCons (eVar 1) aNil)) aNil))) (gN 6))
    (sSeq (sAsg (eScope (eComp (iSeq (eVar 2)) (gN 8) NK.tYes (eNot (eVar 8)) [8])) (gN 7))
    (sSeq (sIf (tOr (tNot (tTru (eCall 2 m_u_law_unmatched_right [] (aCons (eVar 3) (aCons (eVar 6) aNil))))) (tNot (tTru (eCall 2 m_u_law_unmatched_right [] (aCons (eVar 4) (aCons (eCall 2 m_u_law_on [] (aCons (eVar 1) (aCons (eVar 7) aNil))) aNil)))))) (sRet (eC (.bl false))) sNext)
    (sRet (eAnd (eCall 2 m_u_law_unmatched_right [] (aCons (eVar 3) (aCons (eVar 4) aNil))) (eCall 2 m_u_law_pair_right [] (aCons (eVar 3) (aCons (eVar 4) aNil)))))))))))))))
noncomputable def m_law : MF := fScope (runF 9 b_law)
end G

namespace G
open PySem L2 NK
structure Ad where
  q_u_law_unmatched_right : Addr
  p_u_law_unmatched_right : Addr
  c_CustomError : Addr
  c_BadPattern : Addr
  c_BadMatch : Addr
  c_Pattern : Addr
  f_u_law_hand : Addr
  d_u_law_hand : FuncData
  f_u_law_mix : Addr
  d_u_law_mix : FuncData
  f_u_law_draw : Addr
  d_u_law_draw : FuncData
  f_u_law_pick : Addr
  d_u_law_pick : FuncData
  f_u_law_mask : Addr
  d_u_law_mask : FuncData
  f_u_law_on : Addr
  d_u_law_on : FuncData
  f_u_law_numbers : Addr
  d_u_law_numbers : FuncData
  f_u_law_near : Addr
  d_u_law_near : FuncData
  f_u_law_match_word : Addr
  d_u_law_match_word : FuncData
  f_entries_fault : Addr
  d_entries_fault : FuncData
  f_BadPattern___init : Addr
  d_BadPattern___init : FuncData
  f_Pattern___init : Addr
  d_Pattern___init : FuncData
  f_u_law_word : Addr
  d_u_law_word : FuncData
  f_BadMatch___init : Addr
  d_BadMatch___init : FuncData
  f_check_match : Addr
  d_check_match : FuncData
  f_is_finer : Addr
  d_is_finer : FuncData
  f_class_numbers : Addr
  d_class_numbers : FuncData
  f_merged_marks : Addr
  d_merged_marks : FuncData
  f_Pattern___or : Addr
  d_Pattern___or : FuncData
  f_Pattern___and : Addr
  d_Pattern___and : FuncData
  f_u_law_unmatched_right : Addr
  d_u_law_unmatched_right : FuncData
  f_u_law_is : Addr
  d_u_law_is : FuncData
  f_u_law_above : Addr
  d_u_law_above : FuncData
  f_u_law_beneath : Addr
  d_u_law_beneath : FuncData
  f_Pattern___eq : Addr
  d_Pattern___eq : FuncData
  f_u_law_finer : Addr
  d_u_law_finer : FuncData
  f_u_law_pair_right : Addr
  d_u_law_pair_right : FuncData
  f_u_law_three_right : Addr
  d_u_law_three_right : FuncData
  f_law : Addr
  d_law : FuncData
  cda_BadPattern : Addr
  cc_BadPattern : Addr
  cda_BadMatch : Addr
  cc_BadMatch : Addr
  v_MOST_PLACES : Value
def tb (w : World) (K : PySem.W.Frag) (a : Ad) : Tb where
  w := w
  K := K
  cls := fun k => match k with
    | 0 => a.c_CustomError
    | 1 => a.c_BadPattern
    | 2 => a.c_BadMatch
    | 3 => a.c_Pattern
    | _ => 0
  fld := fldN
  tabs := [(a.p_u_law_unmatched_right, ("_law_unmatched_right" : Str) ++ (".<locals>." : Str) ++ ("<lambda>" : Str))]
structure Txt (K : PySem.W.Frag) (mg : Str → Option Value) (base : Heap) (a : Ad) : Prop where
  tb_u_law_unmatched_right : LamX.TabB base mg a.q_u_law_unmatched_right a.p_u_law_unmatched_right
  cd_u_law_unmatched_right : a.d_u_law_unmatched_right.code = .ref a.q_u_law_unmatched_right
  z_abs : mg "abs" = none
  z_bool : mg "bool" = none
  z_enumerate : mg "enumerate" = none
  z_int : mg "int" = none
  z_isinstance : mg "isinstance" = none
  z_len : mg "len" = none
  z_list : mg "list" = none
  z_range : mg "range" = none
  z_super : mg "super" = none
  z_tuple : mg "tuple" = none
  z_zip : mg "zip" = none
  g_MOST_PLACES : RelV (.int 40) a.v_MOST_PLACES ∧ mg "MOST_PLACES" = some a.v_MOST_PLACES
  c_CustomError : mg "CustomError" = some (.ref a.c_CustomError)
  c_BadPattern : mg "BadPattern" = some (.ref a.c_BadPattern)
  c_BadMatch : mg "BadMatch" = some (.ref a.c_BadMatch)
  c_Pattern : mg "Pattern" = some (.ref a.c_Pattern)
  F_u_law_hand : FunD K "_law_hand" "_law_hand" (defArgs s_u_law_hand) (defBody s_u_law_hand) (defScope s_u_law_hand) [] [] a.f_u_law_hand a.d_u_law_hand
  b_u_law_hand : Binds K a.d_u_law_hand (["_law_script"] : List Str) []
  m_u_law_hand : mg "_law_hand" = some (.ref a.f_u_law_hand)
  k_u_law_hand : PySem.W.keepIn K (.ref a.f_u_law_hand) = true
  F_u_law_mix : FunD K "_law_mix" "_law_mix" (defArgs s_u_law_mix) (defBody s_u_law_mix) (defScope s_u_law_mix) [] [] a.f_u_law_mix a.d_u_law_mix
  b_u_law_mix : Binds K a.d_u_law_mix (["_law_number", "_law_turn"] : List Str) []
  m_u_law_mix : mg "_law_mix" = some (.ref a.f_u_law_mix)
  k_u_law_mix : PySem.W.keepIn K (.ref a.f_u_law_mix) = true
  F_u_law_draw : FunD K "_law_draw" "_law_draw" (defArgs s_u_law_draw) (defBody s_u_law_draw) (defScope s_u_law_draw) [] [] a.f_u_law_draw a.d_u_law_draw
  b_u_law_draw : Binds K a.d_u_law_draw (["_law_hand_here", "_law_many"] : List Str) []
  m_u_law_draw : mg "_law_draw" = some (.ref a.f_u_law_draw)
  k_u_law_draw : PySem.W.keepIn K (.ref a.f_u_law_draw) = true
  F_u_law_pick : FunD K "_law_pick" "_law_pick" (defArgs s_u_law_pick) (defBody s_u_law_pick) (defScope s_u_law_pick) [] [] a.f_u_law_pick a.d_u_law_pick
  b_u_law_pick : Binds K a.d_u_law_pick (["_law_hand_here", "_law_things"] : List Str) []
  m_u_law_pick : mg "_law_pick" = some (.ref a.f_u_law_pick)
  k_u_law_pick : PySem.W.keepIn K (.ref a.f_u_law_pick) = true
  F_u_law_mask : FunD K "_law_mask" "_law_mask" (defArgs s_u_law_mask) (defBody s_u_law_mask) (defScope s_u_law_mask) [] [] a.f_u_law_mask a.d_u_law_mask
  b_u_law_mask : Binds K a.d_u_law_mask (["_law_hand_here"] : List Str) []
  m_u_law_mask : mg "_law_mask" = some (.ref a.f_u_law_mask)
  k_u_law_mask : PySem.W.keepIn K (.ref a.f_u_law_mask) = true
  F_u_law_on : FunD K "_law_on" "_law_on" (defArgs s_u_law_on) (defBody s_u_law_on) (defScope s_u_law_on) [] [] a.f_u_law_on a.d_u_law_on
  b_u_law_on : Binds K a.d_u_law_on (["_law_hand_here", "_law_mask_here"] : List Str) []
  m_u_law_on : mg "_law_on" = some (.ref a.f_u_law_on)
  k_u_law_on : PySem.W.keepIn K (.ref a.f_u_law_on) = true
  F_u_law_numbers : FunD K "_law_numbers" "_law_numbers" (defArgs s_u_law_numbers) (defBody s_u_law_numbers) (defScope s_u_law_numbers) [] [] a.f_u_law_numbers a.d_u_law_numbers
  b_u_law_numbers : Binds K a.d_u_law_numbers (["_law_things"] : List Str) []
  m_u_law_numbers : mg "_law_numbers" = some (.ref a.f_u_law_numbers)
  k_u_law_numbers : PySem.W.keepIn K (.ref a.f_u_law_numbers) = true
  F_u_law_near : FunD K "_law_near" "_law_near" (defArgs s_u_law_near) (defBody s_u_law_near) (defScope s_u_law_near) [] [] a.f_u_law_near a.d_u_law_near
  b_u_law_near : Binds K a.d_u_law_near (["_law_hand_here", "_law_entries"] : List Str) []
  m_u_law_near : mg "_law_near" = some (.ref a.f_u_law_near)
  k_u_law_near : PySem.W.keepIn K (.ref a.f_u_law_near) = true
  F_u_law_match_word : FunD K "_law_match_word" "_law_match_word" (defArgs s_u_law_match_word) (defBody s_u_law_match_word) (defScope s_u_law_match_word) [] [] a.f_u_law_match_word a.d_u_law_match_word
  b_u_law_match_word : Binds K a.d_u_law_match_word (["_law_one", "_law_other"] : List Str) []
  m_u_law_match_word : mg "_law_match_word" = some (.ref a.f_u_law_match_word)
  k_u_law_match_word : PySem.W.keepIn K (.ref a.f_u_law_match_word) = true
  F_entries_fault : FunD K "entries_fault" "entries_fault" (defArgs s_entries_fault) (defBody s_entries_fault) (defScope s_entries_fault) [] [] a.f_entries_fault a.d_entries_fault
  b_entries_fault : Binds K a.d_entries_fault (["thing"] : List Str) []
  m_entries_fault : mg "entries_fault" = some (.ref a.f_entries_fault)
  k_entries_fault : PySem.W.keepIn K (.ref a.f_entries_fault) = true
  l_BadPattern : ∃ (oc : Value) (od : Option Addr) (osl : Array (Option Value)) (dV kV doc pm : Value) (an : Option Addr) (ct : Value), a.d_BadPattern___init = PySem.W.ksFn "__init__" "BadPattern.__init__" (defArgs s_BadPattern___init) (defBody s_BadPattern___init) (defScope s_BadPattern___init) dV kV doc pm an (.ref a.cda_BadPattern) ct a.cc_BadPattern ∧ K.lookup a.f_BadPattern___init = some ⟨oc, od, .func a.d_BadPattern___init, osl⟩ ∧ PySem.W.codeIn K (.ref a.cda_BadPattern) "BadPattern.__init__" = true
  b_BadPattern___init : Binds K a.d_BadPattern___init (["self", "index", "what"] : List Str) []
  S_BadPattern : Sup PW K mg (["self", "index", "what"] : List Str) (["self", "index", "what"] : List Str) (defScope s_BadPattern___init) a.c_BadPattern a.cda_BadPattern a.cc_BadPattern
  e_BadPattern : OexC K a.c_BadPattern
  ei_BadPattern : PySem.W.findIn K (.ref a.c_BadPattern) "__init__" = some (some (.ref a.f_BadPattern___init))
  et_BadPattern : PySem.W.typeIn K (.ref a.f_BadPattern___init) = some (.type "function")
  x_BadPattern : XfC K a.c_BadPattern
  n_BadPattern_index : PySem.W.findIn K (.ref a.c_BadPattern) "index" = some none
  n_BadPattern_what : PySem.W.findIn K (.ref a.c_BadPattern) "what" = some none
  F_Pattern___init : FunD K "__init__" "Pattern.__init__" (defArgs s_Pattern___init) (defBody s_Pattern___init) (defScope s_Pattern___init) [] [] a.f_Pattern___init a.d_Pattern___init
  b_Pattern___init : Binds K a.d_Pattern___init (["self", "entries"] : List Str) []
  F_u_law_word : FunD K "_law_word" "_law_word" (defArgs s_u_law_word) (defBody s_u_law_word) (defScope s_u_law_word) [] [] a.f_u_law_word a.d_u_law_word
  b_u_law_word : Binds K a.d_u_law_word (["_law_call"] : List Str) []
  m_u_law_word : mg "_law_word" = some (.ref a.f_u_law_word)
  k_u_law_word : PySem.W.keepIn K (.ref a.f_u_law_word) = true
  l_BadMatch : ∃ (oc : Value) (od : Option Addr) (osl : Array (Option Value)) (dV kV doc pm : Value) (an : Option Addr) (ct : Value), a.d_BadMatch___init = PySem.W.ksFn "__init__" "BadMatch.__init__" (defArgs s_BadMatch___init) (defBody s_BadMatch___init) (defScope s_BadMatch___init) dV kV doc pm an (.ref a.cda_BadMatch) ct a.cc_BadMatch ∧ K.lookup a.f_BadMatch___init = some ⟨oc, od, .func a.d_BadMatch___init, osl⟩ ∧ PySem.W.codeIn K (.ref a.cda_BadMatch) "BadMatch.__init__" = true
  b_BadMatch___init : Binds K a.d_BadMatch___init (["self", "what"] : List Str) []
  S_BadMatch : Sup PW K mg (["self", "what"] : List Str) (["self", "what"] : List Str) (defScope s_BadMatch___init) a.c_BadMatch a.cda_BadMatch a.cc_BadMatch
  e_BadMatch : OexC K a.c_BadMatch
  ei_BadMatch : PySem.W.findIn K (.ref a.c_BadMatch) "__init__" = some (some (.ref a.f_BadMatch___init))
  et_BadMatch : PySem.W.typeIn K (.ref a.f_BadMatch___init) = some (.type "function")
  x_BadMatch : XfC K a.c_BadMatch
  n_BadMatch_what : PySem.W.findIn K (.ref a.c_BadMatch) "what" = some none
  F_check_match : FunD K "check_match" "check_match" (defArgs s_check_match) (defBody s_check_match) (defScope s_check_match) [] [] a.f_check_match a.d_check_match
  b_check_match : Binds K a.d_check_match (["one", "other"] : List Str) []
  m_check_match : mg "check_match" = some (.ref a.f_check_match)
  k_check_match : PySem.W.keepIn K (.ref a.f_check_match) = true
  F_is_finer : FunD K "is_finer" "is_finer" (defArgs s_is_finer) (defBody s_is_finer) (defScope s_is_finer) [] [] a.f_is_finer a.d_is_finer
  b_is_finer : Binds K a.d_is_finer (["one", "other"] : List Str) []
  m_is_finer : mg "is_finer" = some (.ref a.f_is_finer)
  k_is_finer : PySem.W.keepIn K (.ref a.f_is_finer) = true
  F_class_numbers : FunD K "class_numbers" "class_numbers" (defArgs s_class_numbers) (defBody s_class_numbers) (defScope s_class_numbers) [] [] a.f_class_numbers a.d_class_numbers
  b_class_numbers : Binds K a.d_class_numbers (["things"] : List Str) []
  m_class_numbers : mg "class_numbers" = some (.ref a.f_class_numbers)
  k_class_numbers : PySem.W.keepIn K (.ref a.f_class_numbers) = true
  F_merged_marks : FunD K "merged_marks" "merged_marks" (defArgs s_merged_marks) (defBody s_merged_marks) (defScope s_merged_marks) [] [] a.f_merged_marks a.d_merged_marks
  b_merged_marks : Binds K a.d_merged_marks (["one", "other"] : List Str) []
  m_merged_marks : mg "merged_marks" = some (.ref a.f_merged_marks)
  k_merged_marks : PySem.W.keepIn K (.ref a.f_merged_marks) = true
  F_Pattern___or : FunD K "__or__" "Pattern.__or__" (defArgs s_Pattern___or) (defBody s_Pattern___or) (defScope s_Pattern___or) [] [] a.f_Pattern___or a.d_Pattern___or
  b_Pattern___or : Binds K a.d_Pattern___or (["self", "other"] : List Str) []
  F_Pattern___and : FunD K "__and__" "Pattern.__and__" (defArgs s_Pattern___and) (defBody s_Pattern___and) (defScope s_Pattern___and) [] [] a.f_Pattern___and a.d_Pattern___and
  b_Pattern___and : Binds K a.d_Pattern___and (["self", "other"] : List Str) []
  F_u_law_unmatched_right : FunD K "_law_unmatched_right" "_law_unmatched_right" (defArgs s_u_law_unmatched_right) (defBody s_u_law_unmatched_right) (defScope s_u_law_unmatched_right) [] [] a.f_u_law_unmatched_right a.d_u_law_unmatched_right
  b_u_law_unmatched_right : Binds K a.d_u_law_unmatched_right (["_law_one", "_law_other"] : List Str) []
  m_u_law_unmatched_right : mg "_law_unmatched_right" = some (.ref a.f_u_law_unmatched_right)
  k_u_law_unmatched_right : PySem.W.keepIn K (.ref a.f_u_law_unmatched_right) = true
  F_u_law_is : FunD K "_law_is" "_law_is" (defArgs s_u_law_is) (defBody s_u_law_is) (defScope s_u_law_is) [] [] a.f_u_law_is a.d_u_law_is
  b_u_law_is : Binds K a.d_u_law_is (["_law_told", "_law_due"] : List Str) []
  m_u_law_is : mg "_law_is" = some (.ref a.f_u_law_is)
  k_u_law_is : PySem.W.keepIn K (.ref a.f_u_law_is) = true
  F_u_law_above : FunD K "_law_above" "_law_above" (defArgs s_u_law_above) (defBody s_u_law_above) (defScope s_u_law_above) [] [] a.f_u_law_above a.d_u_law_above
  b_u_law_above : Binds K a.d_u_law_above (["_law_one", "_law_other"] : List Str) []
  m_u_law_above : mg "_law_above" = some (.ref a.f_u_law_above)
  k_u_law_above : PySem.W.keepIn K (.ref a.f_u_law_above) = true
  F_u_law_beneath : FunD K "_law_beneath" "_law_beneath" (defArgs s_u_law_beneath) (defBody s_u_law_beneath) (defScope s_u_law_beneath) [] [] a.f_u_law_beneath a.d_u_law_beneath
  b_u_law_beneath : Binds K a.d_u_law_beneath (["_law_one", "_law_other"] : List Str) []
  m_u_law_beneath : mg "_law_beneath" = some (.ref a.f_u_law_beneath)
  k_u_law_beneath : PySem.W.keepIn K (.ref a.f_u_law_beneath) = true
  F_Pattern___eq : FunD K "__eq__" "Pattern.__eq__" (defArgs s_Pattern___eq) (defBody s_Pattern___eq) (defScope s_Pattern___eq) [] [] a.f_Pattern___eq a.d_Pattern___eq
  b_Pattern___eq : Binds K a.d_Pattern___eq (["self", "other"] : List Str) []
  F_u_law_finer : FunD K "_law_finer" "_law_finer" (defArgs s_u_law_finer) (defBody s_u_law_finer) (defScope s_u_law_finer) [] [] a.f_u_law_finer a.d_u_law_finer
  b_u_law_finer : Binds K a.d_u_law_finer (["_law_one", "_law_other"] : List Str) []
  m_u_law_finer : mg "_law_finer" = some (.ref a.f_u_law_finer)
  k_u_law_finer : PySem.W.keepIn K (.ref a.f_u_law_finer) = true
  F_u_law_pair_right : FunD K "_law_pair_right" "_law_pair_right" (defArgs s_u_law_pair_right) (defBody s_u_law_pair_right) (defScope s_u_law_pair_right) [] [] a.f_u_law_pair_right a.d_u_law_pair_right
  b_u_law_pair_right : Binds K a.d_u_law_pair_right (["_law_one", "_law_other"] : List Str) []
  m_u_law_pair_right : mg "_law_pair_right" = some (.ref a.f_u_law_pair_right)
  k_u_law_pair_right : PySem.W.keepIn K (.ref a.f_u_law_pair_right) = true
  F_u_law_three_right : FunD K "_law_three_right" "_law_three_right" (defArgs s_u_law_three_right) (defBody s_u_law_three_right) (defScope s_u_law_three_right) [] [] a.f_u_law_three_right a.d_u_law_three_right
  b_u_law_three_right : Binds K a.d_u_law_three_right (["_law_one", "_law_other", "_law_third"] : List Str) []
  m_u_law_three_right : mg "_law_three_right" = some (.ref a.f_u_law_three_right)
  k_u_law_three_right : PySem.W.keepIn K (.ref a.f_u_law_three_right) = true
  F_law : FunD K "law" "law" (defArgs s_law) (defBody s_law) (defScope s_law) [] [] a.f_law a.d_law
  b_law : Binds K a.d_law (["_law_script"] : List Str) []
  m_law : mg "law" = some (.ref a.f_law)
  k_law : PySem.W.keepIn K (.ref a.f_law) = true
  hn : PySem.W.specialIn K (.builtin "object.__class__") "__get__" = some (some (.builtin "getset_descriptor.__get__"))
  ht : PySem.W.takesIn K (.builtin "object.__class__") = some true
  cl_Pattern : Cls K a.c_Pattern
  ha_Pattern : PySem.W.findIn K (.ref a.c_Pattern) "__class__" = some (some (.builtin "object.__class__"))
  hm_Pattern : PySem.W.mroIn K a.c_Pattern (.type "object") = some true
  na_Pattern_entries : NoAttr K a.c_Pattern "entries"
  mk_Pattern : Mk K a.c_Pattern a.f_Pattern___init
  q_Pattern : PySem.W.findIn K (.ref a.c_Pattern) "__eq__" = some (some (.ref a.f_Pattern___eq)) ∧ PySem.W.isFn K (.ref a.f_Pattern___eq) = true
  sf_Pattern : PySem.W.selfFirst K a.c_Pattern = true
  qb_Pattern___or : PySem.W.findIn K (.ref a.c_Pattern) (PySem.dunder Operator.BitOr.info.2) = some (some (.ref a.f_Pattern___or)) ∧ PySem.W.isFn K (.ref a.f_Pattern___or) = true
  qb_Pattern___and : PySem.W.findIn K (.ref a.c_Pattern) (PySem.dunder Operator.BitAnd.info.2) = some (some (.ref a.f_Pattern___and)) ∧ PySem.W.isFn K (.ref a.f_Pattern___and) = true
  qn_Pattern : PySem.W.findIn K (.ref a.c_Pattern) "__ne__" = some (some (.builtin "object.__ne__")) ∧ PySem.W.subIn K (.ref a.c_Pattern) (.type "object") = some true
  nf_Pattern_Pattern : PySem.W.notFirst K a.c_Pattern (.ref a.c_Pattern) = true
  is_0 : PySem.W.kitOne K (.ref a.c_Pattern) (.ref a.c_Pattern) = some true
  xm_BadMatch_0 : PySem.W.exmOne K (.ref a.c_CustomError) (.ref a.c_BadMatch) = some false
  xm_BadMatch_1 : PySem.W.exmOne K (.ref a.c_BadPattern) (.ref a.c_BadMatch) = some false
  xm_BadMatch_2 : PySem.W.exmOne K (.ref a.c_BadMatch) (.ref a.c_BadMatch) = some true
  xm_BadPattern_0 : PySem.W.exmOne K (.ref a.c_CustomError) (.ref a.c_BadPattern) = some false
  xm_BadPattern_1 : PySem.W.exmOne K (.ref a.c_BadPattern) (.ref a.c_BadPattern) = some true
  xm_BadPattern_2 : PySem.W.exmOne K (.ref a.c_BadMatch) (.ref a.c_BadPattern) = some false
section
variable {w : World} {K : PySem.W.Frag} {mg : Str → Option Value} {a : Ad} {base : Heap}
theorem Txt.i_Pattern (T : Txt K mg base a) : InsC (tb w K a) 3 := ⟨T.cl_Pattern, T.ha_Pattern, T.hn, T.ht, T.hm_Pattern⟩
theorem Txt.o_Pattern_entries (T : Txt K mg base a) : FldOk (tb w K a) 3 0 "entries" := ⟨T.cl_Pattern, T.na_Pattern_entries, rfl, (show (fldN 3).Nodup by decide +kernel), (show (fldN 3).length ≤ 900 by decide)⟩
theorem Txt.nf_Pattern (T : Txt K mg base a) : ∀ t ∈ ([.o 3] : List Tr), TrOk (tb w K a) t ∧ PySem.W.notFirst (tb w K a).K ((tb w K a).cls 3) (t.v (tb w K a)) = true := by
  intro t h
  simp only [List.mem_cons, List.not_mem_nil, or_false] at h
  rcases h with rfl
  · exact ⟨T.i_Pattern, T.nf_Pattern_Pattern⟩
theorem Txt.isok (T : Txt K mg base a) : IsOk (tb w K a) isl := by
  intro p h
  unfold isl at h
  simp only [List.mem_cons, List.not_mem_nil, or_false] at h
  rcases h with rfl
  · exact ⟨T.i_Pattern, T.is_0⟩
theorem Txt.exm_BadMatch (T : Txt K mg base a) : ∀ (k : Nat) (b : Bool), ([false, false, true] : List Bool)[k]? = some b → PySem.W.exmOne K (.ref ((tb w K a).cls k)) (.ref a.c_BadMatch) = some b := by
  intro k b h
  match k, h with
  | 0, h => cases h; exact T.xm_BadMatch_0
  | 1, h => cases h; exact T.xm_BadMatch_1
  | 2, h => cases h; exact T.xm_BadMatch_2
  | n + 3, h => simp at h
theorem sc_u_law_hand : FnScope (["_law_script", "_law_total", "_law_k", "_law_cell"] : List Str) (["_law_script"] : List Str) (defScope s_u_law_hand) := ⟨rfl, rfl, rfl, by decide +kernel, rfl, by decide +kernel, by decide +kernel⟩
theorem ok_u_law_hand (T : Txt K mg base a) : FnOk PW w K mg base (L2.CX PW w) 1 a.f_u_law_hand a.d_u_law_hand (["_law_script"] : List Str) (spOf (tb w K a) 1 m_u_law_hand) :=
  fund_okl T.F_u_law_hand sc_u_law_hand fun cdv A outer s H E hr =>
    (pssm_cons (psm_set (i := 1) sc_u_law_hand.nd rfl (Or.inl rfl) pem_int)
    (pssm_cons (psm_for (passes_of rfl) rfl (pim_enumA rfl rfl T.z_enumerate (pam_cons (pem_var (pv 0)) pam_nil)) (pgm_tup rfl rfl (PGN.cons (pg_name (i := 2) sc_u_law_hand.nd rfl (Or.inl rfl)) rfl (PGN.cons (pg_name (i := 3) sc_u_law_hand.nd rfl (Or.inl rfl)) rfl PGN.nil rfl) rfl)) (pssm_one (psm_set (i := 1) sc_u_law_hand.nd rfl (Or.inl rfl) (pem_op op_mod sim_mod (pem_callTy call_int1 sim_int rfl T.z_int bt_int (pam_cons (pem_op op_addAll sim_add (pem_op op_mulAll sim_mul (pem_var (pv 1)) pem_int) (pem_op op_mulAll sim_mul (pem_callTy call_int1 sim_int rfl T.z_int bt_int (pam_cons (pem_var (pv 3)) pam_nil)) (pem_op op_addAll sim_add (pem_var (pv 2)) pem_int))) pam_nil)) pem_int))))
    (pssm_one (psm_ret (pem_lst (pam_cons (pem_scope (pem_comp (own := [("_law_cell", 3)]) rfl sc_u_law_hand.nd (pim_seq rfl (pem_var (pv 0))) (show BlkOk (["_law_script", "_law_total", "_law_k", "_law_cell"] : List Str) (defScope s_u_law_hand) _ [("_law_cell", 3)] from ⟨rfl, by decide +kernel, by decide +kernel, by decide +kernel, by decide +kernel⟩) (fun _ _ _ _ _ => (pg_name (i := 3) sc_u_law_hand.nd rfl (Or.inl rfl))) (gr_name rfl) (gw_name (by decide)) (fun _ _ _ _ _ => (ptsm_nil (σ := ()))) (fun _ _ _ _ _ => (pem_callB call_abs sim_abs rfl T.z_abs bt_abs (pam_cons (pem_callTy call_int1 sim_int rfl T.z_int bt_int (pam_cons (pem_var (pv 3)) pam_nil)) pam_nil))))) (pam_cons pem_int (pam_cons pem_int (pam_cons (pem_var (pv 1)) pam_nil)))))))))
theorem sc_u_law_mix : FnScope (["_law_number", "_law_turn", "_law_once", "_law_twice"] : List Str) (["_law_number", "_law_turn"] : List Str) (defScope s_u_law_mix) := ⟨rfl, rfl, rfl, by decide +kernel, rfl, by decide +kernel, by decide +kernel⟩
theorem ok_u_law_mix (T : Txt K mg base a) : FnOk PW w K mg base (L2.CX PW w) 1 a.f_u_law_mix a.d_u_law_mix (["_law_number", "_law_turn"] : List Str) (spOf (tb w K a) 2 m_u_law_mix) :=
  fund_okm T.F_u_law_mix sc_u_law_mix fun cdv A outer s H E hr =>
    (pssm_cons (psm_set (i := 2) sc_u_law_mix.nd rfl (Or.inl rfl) (pem_op op_mod sim_mod (pem_callTy call_int1 sim_int rfl T.z_int bt_int (pam_cons (pem_op op_addAll sim_add (pem_op op_addAll sim_add (pem_op op_mulAll sim_mul (pem_var (pv 0)) pem_int) (pem_op op_mulAll sim_mul (pem_var (pv 1)) pem_int)) pem_int) pam_nil)) pem_int))
    (pssm_cons (psm_set (i := 3) sc_u_law_mix.nd rfl (Or.inl rfl) (pem_op op_mod sim_mod (pem_callTy call_int1 sim_int rfl T.z_int bt_int (pam_cons (pem_op op_addAll sim_add (pem_op op_addAll sim_add (pem_op op_mulAll sim_mul (pem_var (pv 2)) (pem_var (pv 2))) (pem_op op_mulAll sim_mul (pem_op op_fdivW sim_div (pem_var (pv 2)) pem_int) pem_int)) (pem_op op_mulAll sim_mul (pem_var (pv 1)) pem_int)) pam_nil)) pem_int))
    (pssm_one (psm_ret (pem_op op_fdivW sim_div (pem_op op_mod sim_mod (pem_callTy call_int1 sim_int rfl T.z_int bt_int (pam_cons (pem_op op_addAll sim_add (pem_op op_fdivW sim_div (pem_op op_mulAll sim_mul (pem_var (pv 3)) (pem_var (pv 3))) pem_int) (pem_var (pv 2))) pam_nil)) pem_int) pem_int)))))
theorem sc_u_law_draw : FnScope (["_law_hand_here", "_law_many", "_law_cell", "_law_rest"] : List Str) (["_law_hand_here", "_law_many"] : List Str) (defScope s_u_law_draw) := ⟨rfl, rfl, rfl, by decide +kernel, rfl, by decide +kernel, by decide +kernel⟩
theorem ok_u_law_draw (T : Txt K mg base a) : FnOk PW w K mg base (L2.CX PW w) 2 a.f_u_law_draw a.d_u_law_draw (["_law_hand_here", "_law_many"] : List Str) (spOf (tb w K a) 2 m_u_law_draw) :=
  fund_okm T.F_u_law_draw sc_u_law_draw fun cdv A outer s H E hr =>
    (pssm_cons (psm_if (PWm.pt (pwm_and (ptm_cmp (op_eqD hr.units) sim_eq (pem_ix ix_seq sim_ix (pem_var (pv 0)) pem_int) pem_int (nomark _)) (pwm_and1 (ptm_cmp op_lt sim_lt (pem_ix ix_seq sim_ix (pem_var (pv 0)) pem_int) (pem_callB call_len sim_len rfl T.z_len bt_len (pam_cons (pem_ix ix_seq sim_ix (pem_var (pv 0)) pem_int) pam_nil)) (nomark _))))) (pssm_cons (psm_set (i := 2) sc_u_law_draw.nd rfl (Or.inl rfl) (pem_ix ix_seq sim_ix (pem_ix ix_seq sim_ix (pem_var (pv 0)) pem_int) (pem_ix ix_seq sim_ix (pem_var (pv 0)) pem_int)))
    (pssm_cons (psm_setIx (ps_asg (pem_op op_addAll sim_add (pem_ix ix_seq sim_ix (pem_var (pv 0)) pem_int) pem_int) (pg_sub (pem_var (pv 0)) pem_int set_list)))
    (pssm_cons (psm_if (ptm_cmp op_lt sim_lt (pem_var (pv 2)) (pem_op op_pow sim_pow pem_int pem_int) (nomark _)) (pssm_one (psm_ret (pem_op op_mod sim_mod (pem_callTy call_int1 sim_int rfl T.z_int bt_int (pam_cons (pem_call (takes_of rfl rfl rfl rfl) (ok_u_law_mix T) (hr.mono (by decide)) rfl T.m_u_law_mix T.k_u_law_mix T.b_u_law_mix .nil (fun _ => .nil) rfl (pam_cons (pem_op op_mod sim_mod (pem_callTy call_int1 sim_int rfl T.z_int bt_int (pam_cons (pem_var (pv 2)) pam_nil)) pem_int) (pam_cons (pem_ix ix_seq sim_ix (pem_var (pv 0)) pem_int) pam_nil))) pam_nil)) (pem_var (pv 1))))) pssm_nil)
    (pssm_one (psm_setIx (ps_asg (pem_var (pv 2)) (pg_sub (pem_var (pv 0)) pem_int set_list))))))) pssm_nil)
    (pssm_cons (psm_if (ptm_cmp op_gt sim_gt (pem_ix ix_seq sim_ix (pem_var (pv 0)) pem_int) pem_int (nomark _)) (pssm_cons (psm_set (i := 3) sc_u_law_draw.nd rfl (Or.inl rfl) (pem_ix ix_seq sim_ix (pem_var (pv 0)) pem_int))
    (pssm_cons (psm_setIx (ps_asg (pem_op op_fdivW sim_div (pem_var (pv 3)) (pem_var (pv 1))) (pg_sub (pem_var (pv 0)) pem_int set_list)))
    (pssm_one (psm_ret (pem_op op_mod sim_mod (pem_callTy call_int1 sim_int rfl T.z_int bt_int (pam_cons (pem_var (pv 3)) pam_nil)) (pem_var (pv 1))))))) pssm_nil)
    (pssm_cons (psm_setIx (ps_asg (pem_op op_mod sim_mod (pem_callTy call_int1 sim_int rfl T.z_int bt_int (pam_cons (pem_op op_addAll sim_add (pem_ix ix_seq sim_ix (pem_var (pv 0)) pem_int) pem_int) pam_nil)) pem_int) (pg_sub (pem_var (pv 0)) pem_int set_list)))
    (pssm_one (psm_ret (pem_op op_mod sim_mod (pem_callTy call_int1 sim_int rfl T.z_int bt_int (pam_cons (pem_call (takes_of rfl rfl rfl rfl) (ok_u_law_mix T) (hr.mono (by decide)) rfl T.m_u_law_mix T.k_u_law_mix T.b_u_law_mix .nil (fun _ => .nil) rfl (pam_cons (pem_ix ix_seq sim_ix (pem_var (pv 0)) pem_int) (pam_cons (pem_ix ix_seq sim_ix (pem_var (pv 0)) pem_int) pam_nil))) pam_nil)) (pem_var (pv 1))))))))
theorem sc_u_law_pick : FnScope (["_law_hand_here", "_law_things"] : List Str) (["_law_hand_here", "_law_things"] : List Str) (defScope s_u_law_pick) := ⟨rfl, rfl, rfl, by decide +kernel, rfl, by decide +kernel, by decide +kernel⟩
theorem ok_u_law_pick (T : Txt K mg base a) : FnOk PW w K mg base (L2.CX PW w) 3 a.f_u_law_pick a.d_u_law_pick (["_law_hand_here", "_law_things"] : List Str) (spOf (tb w K a) 2 m_u_law_pick) :=
  fund_okl T.F_u_law_pick sc_u_law_pick fun cdv A outer s H E hr =>
    (pssm_one (psm_ret (pem_ix ix_seq sim_ix (pem_var (pv 1)) (pem_call (takes_of rfl rfl rfl rfl) (ok_u_law_draw T) (hr.mono (by decide)) rfl T.m_u_law_draw T.k_u_law_draw T.b_u_law_draw .nil (fun _ => .nil) rfl (pam_cons (pem_var (pv 0)) (pam_cons (pem_callB call_len sim_len rfl T.z_len bt_len (pam_cons (pem_var (pv 1)) pam_nil)) pam_nil))))))
theorem sc_u_law_mask : FnScope (["_law_hand_here", "_law_kind", "_law_size", "_law_odds", "_law_k"] : List Str) (["_law_hand_here"] : List Str) (defScope s_u_law_mask) := ⟨rfl, rfl, rfl, by decide +kernel, rfl, by decide +kernel, by decide +kernel⟩
theorem ok_u_law_mask (T : Txt K mg base a) : FnOk PW w K mg base (L2.CX PW w) 4 a.f_u_law_mask a.d_u_law_mask (["_law_hand_here"] : List Str) (spOf (tb w K a) 1 m_u_law_mask) :=
  fund_okm T.F_u_law_mask sc_u_law_mask fun cdv A outer s H E hr =>
    (pssm_cons (psm_set (i := 1) sc_u_law_mask.nd rfl (Or.inl rfl) (pem_call (takes_of rfl rfl rfl rfl) (ok_u_law_draw T) (hr.mono (by decide)) rfl T.m_u_law_draw T.k_u_law_draw T.b_u_law_draw .nil (fun _ => .nil) rfl (pam_cons (pem_var (pv 0)) (pam_cons pem_int pam_nil))))
    (pssm_cons (psm_set (i := 2) sc_u_law_mask.nd rfl (Or.inl rfl) (pem_ifExp (ptm_cmp (op_eqD hr.units) sim_eq (pem_var (pv 1)) pem_int (nomark _)) (pem_call (takes_of rfl rfl rfl rfl) (ok_u_law_draw T) (hr.mono (by decide)) rfl T.m_u_law_draw T.k_u_law_draw T.b_u_law_draw .nil (fun _ => .nil) rfl (pam_cons (pem_var (pv 0)) (pam_cons pem_int pam_nil))) (pem_ifExp (ptm_cmp (op_eqD hr.units) sim_eq (pem_var (pv 1)) pem_int (nomark _)) pem_int (pem_call (takes_of rfl rfl rfl rfl) (ok_u_law_draw T) (hr.mono (by decide)) rfl T.m_u_law_draw T.k_u_law_draw T.b_u_law_draw .nil (fun _ => .nil) rfl (pam_cons (pem_var (pv 0)) (pam_cons pem_int pam_nil))))))
    (pssm_cons (psm_set (i := 3) sc_u_law_mask.nd rfl (Or.inr rfl) (pem_call (takes_of rfl rfl rfl rfl) (ok_u_law_pick T) (hr.mono (by decide)) rfl T.m_u_law_pick T.k_u_law_pick T.b_u_law_pick .nil (fun _ => .nil) rfl (pam_cons (pem_var (pv 0)) (pam_cons (pem_scope (pem_lst (pam_cons pem_int (pam_cons pem_int (pam_cons pem_int (pam_cons pem_int pam_nil)))))) pam_nil))))
    (pssm_one (psm_ret (pem_scope (pem_comp (own := [("_law_k", 4)]) rfl sc_u_law_mask.nd (pim_range1 rfl T.z_range (pam_cons (pem_var (pv 2)) pam_nil)) (show BlkOk (["_law_hand_here", "_law_kind", "_law_size", "_law_odds", "_law_k"] : List Str) (defScope s_u_law_mask) _ [("_law_k", 4)] from ⟨rfl, by decide +kernel, by decide +kernel, by decide +kernel, by decide +kernel⟩) (fun _ _ _ _ _ => (pg_name (i := 4) sc_u_law_mask.nd rfl (Or.inl rfl))) (gr_name rfl) (gw_name (by decide)) (fun _ _ _ _ _ => (ptsm_nil (σ := ()))) (fun _ _ _ _ _ => (pem_or (pem_cmp (op_eqD hr.units) sim_eq (pem_var (pv 3)) pem_int (nomark _)) (pem_one (pem_cmp op_gt sim_gt (pem_call takes0 (ok_u_law_draw T) (hr.mono (by decide)) rfl T.m_u_law_draw T.k_u_law_draw T.b_u_law_draw .nil (fun _ => .nil) rfl (pam_cons (pem_var (pv 0)) (pam_cons (pem_var (pv 3)) pam_nil))) pem_int (nomark _))))))))))))
theorem sc_u_law_on : FnScope (["_law_hand_here", "_law_mask_here", "_law_entries", "_law_met", "_law_here", "_law_entry"] : List Str) (["_law_hand_here", "_law_mask_here"] : List Str) (defScope s_u_law_on) := ⟨rfl, rfl, rfl, by decide +kernel, rfl, by decide +kernel, by decide +kernel⟩
theorem ok_u_law_on (T : Txt K mg base a) : FnOk PW w K mg base (L2.CX PW w) 3 a.f_u_law_on a.d_u_law_on (["_law_hand_here", "_law_mask_here"] : List Str) (spOf (tb w K a) 2 m_u_law_on) :=
  fund_okm T.F_u_law_on sc_u_law_on fun cdv A outer s H E hr =>
    (pssm_cons (psm_par (i := 2) (j := 3) rfl sc_u_law_on.nd rfl rfl (by decide) rfl rfl (pam_cons (pem_lst pam_nil) (pam_cons pem_int pam_nil)) rfl)
    (pssm_cons (psm_for (passes_of rfl) rfl (pim_seq rfl (pem_var (pv 1))) (pgm_name (pg_name (i := 4) sc_u_law_on.nd rfl (Or.inl rfl))) (pssm_cons (psm_set (i := 5) sc_u_law_on.nd rfl (Or.inl rfl) (pem_call (takes_of rfl rfl rfl rfl) (ok_u_law_draw T) (hr.mono (by decide)) rfl T.m_u_law_draw T.k_u_law_draw T.b_u_law_draw .nil (fun _ => .nil) rfl (pam_cons (pem_var (pv 0)) (pam_cons (pem_op op_addAll sim_add (pem_var (pv 3)) pem_int) pam_nil))))
    (pssm_cons (psm_expr (pem_bm sim_app (pe_bm PySem.F.plainAttrs_list PySem.F.slot_list_append PySem.F.type_list_append mt_append (pem_var (pv 2)) (pam_cons (pem_ifExp (ptm_tru rfl (pem_var (pv 4))) (pem_var (pv 5)) pem_non) pam_nil))))
    (pssm_one (psm_set (i := 3) sc_u_law_on.nd rfl (Or.inl rfl) (pem_ifExp (PWm.pt (pwm_and (ptm_tru rfl (pem_var (pv 4))) (pwm_and1 (ptm_cmp (op_eqD hr.units) sim_eq (pem_var (pv 5)) (pem_var (pv 3)) (nomark _))))) (pem_op op_addAll sim_add (pem_var (pv 3)) pem_int) (pem_var (pv 3))))))))
    (pssm_one (psm_ret (pem_var (pv 2))))))
theorem sc_u_law_numbers : FnScope (["_law_things", "_law_met", "_law_found", "_law_thing"] : List Str) (["_law_things"] : List Str) (defScope s_u_law_numbers) := ⟨rfl, rfl, rfl, by decide +kernel, rfl, by decide +kernel, by decide +kernel⟩
theorem ok_u_law_numbers (T : Txt K mg base a) : FnOk PW w K mg base (L2.CX PW w) 1 a.f_u_law_numbers a.d_u_law_numbers (["_law_things"] : List Str) (spOf (tb w K a) 1 m_u_law_numbers) :=
  fund_okm T.F_u_law_numbers sc_u_law_numbers fun cdv A outer s H E hr =>
    (pssm_cons (psm_par (i := 1) (j := 2) rfl sc_u_law_numbers.nd rfl rfl (by decide) rfl rfl (pam_cons (pem_lst pam_nil) (pam_cons (pem_lst pam_nil) pam_nil)) rfl)
    (pssm_cons (psm_for (passes_of rfl) rfl (pim_seq rfl (pem_var (pv 0))) (pgm_name (pg_name (i := 3) sc_u_law_numbers.nd rfl (Or.inl rfl))) (pssm_cons (psm_if (PWm.pt (pwm_and (ptm_cmp op_notN sim_notN (pem_var (pv 3)) pem_non (nomark _)) (pwm_and1 (ptm_cmp (op_notInDT (units65 hr)) sim_inD (pem_var (pv 3)) (pem_var (pv 1)) (by rfl))))) (pssm_one (psm_expr (pem_bm sim_app (pe_bm PySem.F.plainAttrs_list PySem.F.slot_list_append PySem.F.type_list_append mt_append (pem_var (pv 1)) (pam_cons (pem_var (pv 3)) pam_nil))))) pssm_nil)
    (pssm_one (psm_expr (pem_bm sim_app (pe_bm PySem.F.plainAttrs_list PySem.F.slot_list_append PySem.F.type_list_append mt_append (pem_var (pv 2)) (pam_cons (pem_ifExp (ptm_cmp op_isN sim_isN (pem_var (pv 3)) pem_non (nomark _)) pem_non (pem_bm sim_index (pe_bm PySem.F.plainAttrs_list PySem.F.slot_list_index PySem.F.type_list_index (mt_indexD (units65 hr)) (pem_var (pv 1)) (pam_cons (pem_var (pv 3)) pam_nil)))) pam_nil)))))))
    (pssm_one (psm_ret (pem_var (pv 2))))))
theorem sc_u_law_near : FnScope (["_law_hand_here", "_law_entries", "_law_places", "_law_one", "_law_other", "_law_at", "_law_entry"] : List Str) (["_law_hand_here", "_law_entries"] : List Str) (defScope s_u_law_near) := ⟨rfl, rfl, rfl, by decide +kernel, rfl, by decide +kernel, by decide +kernel⟩
theorem ok_u_law_near (T : Txt K mg base a) : FnOk PW w K mg base (L2.CX PW w) 4 a.f_u_law_near a.d_u_law_near (["_law_hand_here", "_law_entries"] : List Str) (spOf (tb w K a) 2 m_u_law_near) :=
  fund_okm T.F_u_law_near sc_u_law_near fun cdv A outer s H E hr =>
    (pssm_cons (psm_setLc (own := [("_law_at", 5), ("_law_entry", 6)]) scope_hm rfl sc_u_law_near.nd rfl rfl rfl (pim_enumA rfl rfl T.z_enumerate (pam_cons (pem_var (pv 1)) pam_nil)) (show BlkOk (["_law_hand_here", "_law_entries", "_law_places", "_law_one", "_law_other", "_law_at", "_law_entry"] : List Str) (defScope s_u_law_near) _ [("_law_at", 5), ("_law_entry", 6)] from ⟨rfl, by decide +kernel, by decide +kernel, by decide +kernel, by decide +kernel⟩) (fun _ _ _ _ _ => (pg_tup rfl (pgs_cons (pg_name (i := 5) sc_u_law_near.nd rfl (Or.inl rfl)) (pgs_cons (pg_name (i := 6) sc_u_law_near.nd rfl (Or.inl rfl)) pgs_nil rfl) rfl) rfl rfl)) (gr_tup rfl (GN.cons (i := 5) rfl (GN.cons (i := 6) rfl GN.nil))) (gw_tup (gw_cons (by decide) (gw_cons (by decide) gw_nil))) (fun _ _ _ _ _ => (ptsm_one (ptm_cmp op_notN sim_notN (pem_var (pv 6)) pem_non (nomark _)))) (fun _ _ _ _ _ => (pem_var (pv 5))))
    (pssm_cons (psm_if (ptm_cmp (op_eqD hr.units) sim_eq (pem_var (pv 2)) (pem_scope (pem_lst pam_nil)) (nomark _)) (pssm_one (psm_ret (pem_scope (pem_callTy call_list_of sim_list rfl T.z_list bt_list (pam_cons (pem_var (pv 1)) pam_nil))))) pssm_nil)
    (pssm_cons (psm_asg (pem_tup (pam_cons (pem_call (takes_of rfl rfl rfl rfl) (ok_u_law_pick T) (hr.mono (by decide)) rfl T.m_u_law_pick T.k_u_law_pick T.b_u_law_pick .nil (fun _ => .nil) rfl (pam_cons (pem_var (pv 0)) (pam_cons (pem_var (pv 2)) pam_nil))) (pam_cons (pem_call (takes_of rfl rfl rfl rfl) (ok_u_law_pick T) (hr.mono (by decide)) rfl T.m_u_law_pick T.k_u_law_pick T.b_u_law_pick .nil (fun _ => .nil) rfl (pam_cons (pem_var (pv 0)) (pam_cons (pem_var (pv 2)) pam_nil))) pam_nil))) (pgm_tup rfl rfl (PGN.cons (pg_name (i := 3) sc_u_law_near.nd rfl (Or.inr rfl)) rfl (PGN.cons (pg_name (i := 4) sc_u_law_near.nd rfl (Or.inr rfl)) rfl PGN.nil rfl) rfl)))
    (pssm_cons (psm_if (ptm_cmp (op_eqD hr.units) sim_eq (pem_call (takes_of rfl rfl rfl rfl) (ok_u_law_draw T) (hr.mono (by decide)) rfl T.m_u_law_draw T.k_u_law_draw T.b_u_law_draw .nil (fun _ => .nil) rfl (pam_cons (pem_var (pv 0)) (pam_cons pem_int pam_nil))) pem_int (nomark _)) (pssm_one (psm_ret (pem_call (takes_of rfl rfl rfl rfl) (ok_u_law_numbers T) (hr.mono (by decide)) rfl T.m_u_law_numbers T.k_u_law_numbers T.b_u_law_numbers .nil (fun _ => .nil) rfl (pam_cons (pem_scope (pem_comp (own := [("_law_entry", 6)]) rfl sc_u_law_near.nd (pim_seq rfl (pem_var (pv 1))) (show BlkOk (["_law_hand_here", "_law_entries", "_law_places", "_law_one", "_law_other", "_law_at", "_law_entry"] : List Str) (defScope s_u_law_near) _ [("_law_entry", 6)] from ⟨rfl, by decide +kernel, by decide +kernel, by decide +kernel, by decide +kernel⟩) (fun _ _ _ _ _ => (pg_name (i := 6) sc_u_law_near.nd rfl (Or.inl rfl))) (gr_name rfl) (gw_name (by decide)) (fun _ _ _ _ _ => (ptsm_nil (σ := ()))) (fun _ _ _ _ _ => (pem_ifExp (ptm_cmp (op_eqD hr.units) sim_eq (pem_var (pv 6)) (pem_ix ix_seq sim_ix (pem_var (pv 1)) (pem_var (pv 4))) (nomark _)) (pem_ix ix_seq sim_ix (pem_var (pv 1)) (pem_var (pv 3))) (pem_var (pv 6)))))) pam_nil)))) pssm_nil)
    (pssm_one (psm_ret (pem_call (takes_of rfl rfl rfl rfl) (ok_u_law_numbers T) (hr.mono (by decide)) rfl T.m_u_law_numbers T.k_u_law_numbers T.b_u_law_numbers .nil (fun _ => .nil) rfl (pam_cons (pem_scope (pem_comp (own := [("_law_at", 5), ("_law_entry", 6)]) rfl sc_u_law_near.nd (pim_enumA rfl rfl T.z_enumerate (pam_cons (pem_var (pv 1)) pam_nil)) (show BlkOk (["_law_hand_here", "_law_entries", "_law_places", "_law_one", "_law_other", "_law_at", "_law_entry"] : List Str) (defScope s_u_law_near) _ [("_law_at", 5), ("_law_entry", 6)] from ⟨rfl, by decide +kernel, by decide +kernel, by decide +kernel, by decide +kernel⟩) (fun _ _ _ _ _ => (pg_tup rfl (pgs_cons (pg_name (i := 5) sc_u_law_near.nd rfl (Or.inl rfl)) (pgs_cons (pg_name (i := 6) sc_u_law_near.nd rfl (Or.inl rfl)) pgs_nil rfl) rfl) rfl rfl)) (gr_tup rfl (GN.cons (i := 5) rfl (GN.cons (i := 6) rfl GN.nil))) (gw_tup (gw_cons (by decide) (gw_cons (by decide) gw_nil))) (fun _ _ _ _ _ => (ptsm_nil (σ := ()))) (fun _ _ _ _ _ => (pem_ifExp (ptm_cmp (op_eqD hr.units) sim_eq (pem_var (pv 5)) (pem_var (pv 3)) (nomark _)) pem_int (pem_var (pv 6)))))) pam_nil))))))))
theorem sc_u_law_match_word : FnScope (["_law_one", "_law_other", "_law_wrong", "_law_at"] : List Str) (["_law_one", "_law_other"] : List Str) (defScope s_u_law_match_word) := ⟨rfl, rfl, rfl, by decide +kernel, rfl, by decide +kernel, by decide +kernel⟩
theorem ok_u_law_match_word (T : Txt K mg base a) : FnOk PW w K mg base (L2.CX PW w) 1 a.f_u_law_match_word a.d_u_law_match_word (["_law_one", "_law_other"] : List Str) (spOf (tb w K a) 2 m_u_law_match_word) :=
  fund_okm T.F_u_law_match_word sc_u_law_match_word fun cdv A outer s H E hr =>
    (pssm_cons (psm_if (ptm_cmp (op_neD hr.units) sim_ne (pem_callB call_len sim_len rfl T.z_len bt_len (pam_cons (pem_var (pv 0)) pam_nil)) (pem_callB call_len sim_len rfl T.z_len bt_len (pam_cons (pem_var (pv 1)) pam_nil)) (nomark _)) (pssm_one (psm_ret pem_str)) pssm_nil)
    (pssm_cons (psm_setLc (own := [("_law_at", 3)]) scope_hm rfl sc_u_law_match_word.nd rfl rfl rfl (pim_range1 rfl T.z_range (pam_cons (pem_callB call_len sim_len rfl T.z_len bt_len (pam_cons (pem_var (pv 0)) pam_nil)) pam_nil)) (show BlkOk (["_law_one", "_law_other", "_law_wrong", "_law_at"] : List Str) (defScope s_u_law_match_word) _ [("_law_at", 3)] from ⟨rfl, by decide +kernel, by decide +kernel, by decide +kernel, by decide +kernel⟩) (fun _ _ _ _ _ => (pg_name (i := 3) sc_u_law_match_word.nd rfl (Or.inl rfl))) (gr_name rfl) (gw_name (by decide)) (fun _ _ _ _ _ => (ptsm_one (ptm_cmp (op_neD hr.units) sim_ne (pem_cmp op_isN sim_isN (pem_ix ix_seq sim_ix (pem_var (pv 0)) (pem_var (pv 3))) pem_non (nomark _)) (pem_cmp op_isN sim_isN (pem_ix ix_seq sim_ix (pem_var (pv 1)) (pem_var (pv 3))) pem_non (nomark _)) (nomark _)))) (fun _ _ _ _ _ => (pem_var (pv 3))))
    (pssm_one (psm_ret (pem_ifExp (ptm_cmp (op_neD hr.units) sim_ne (pem_var (pv 2)) (pem_scope (pem_lst pam_nil)) (nomark _)) pem_str pem_non)))))
theorem sc_entries_fault : FnScope (["thing", "least_new", "at", "entry"] : List Str) (["thing"] : List Str) (defScope s_entries_fault) := ⟨rfl, rfl, rfl, by decide +kernel, rfl, by decide +kernel, by decide +kernel⟩
theorem ok_entries_fault (T : Txt K mg base a) : FnOk PW w K mg base (L2.CX PW w) 1 a.f_entries_fault a.d_entries_fault (["thing"] : List Str) (spOf (tb w K a) 1 m_entries_fault) :=
  fund_okm T.F_entries_fault sc_entries_fault fun cdv A outer s H E hr =>
    (pssm_cons (psm_if (PWm.pt (pwm_or (ptm_not (ptm_tru rfl (pem_isiT T.isok rfl rfl T.z_isinstance (pem_var (pv 0)) (pa_cons (pe_bltn rfl T.z_list bt_list rfl) (pa_cons (pe_bltn rfl T.z_tuple bt_tuple rfl) pa_nil)) (by simp) (by decide)))) (pwm_or1 (ptm_cmp op_gt sim_gt (pem_callB call_len sim_len rfl T.z_len bt_len (pam_cons (pem_var (pv 0)) pam_nil)) (pem_c (pe_glob rfl T.g_MOST_PLACES.2 T.g_MOST_PLACES.1) fun _ => .int 40) (nomark _))))) (pssm_one (psm_ret (pem_tup (pam_cons pem_int (pam_cons pem_str pam_nil))))) pssm_nil)
    (pssm_cons (psm_set (i := 1) sc_entries_fault.nd rfl (Or.inl rfl) pem_int)
    (pssm_cons (psm_for (passes_of rfl) rfl (pim_enumA rfl rfl T.z_enumerate (pam_cons (pem_var (pv 0)) pam_nil)) (pgm_tup rfl rfl (PGN.cons (pg_name (i := 2) sc_entries_fault.nd rfl (Or.inl rfl)) rfl (PGN.cons (pg_name (i := 3) sc_entries_fault.nd rfl (Or.inl rfl)) rfl PGN.nil rfl) rfl)) (pssm_cons (psm_if (ptm_cmp op_isN sim_isN (pem_var (pv 3)) pem_non (nomark _)) (pssm_one psm_cont) pssm_nil)
    (pssm_cons (psm_if (PWm.pt (pwm_or (ptm_not (ptm_tru rfl (pem_isi1 T.isok rfl rfl T.z_isinstance (pem_var (pv 3)) (pe_bltn rfl T.z_int bt_int rfl)))) (pwm_or (ptm_tru rfl (pem_isi1 T.isok rfl rfl T.z_isinstance (pem_var (pv 3)) (pe_bltn rfl T.z_bool bt_bool rfl))) (pwm_or1 (ptm_cmp op_lt sim_lt (pem_var (pv 3)) pem_int (nomark _)))))) (pssm_one (psm_ret (pem_tup (pam_cons (pem_var (pv 2)) (pam_cons pem_str pam_nil))))) pssm_nil)
    (pssm_cons (psm_if (ptm_cmp op_gt sim_gt (pem_var (pv 3)) (pem_var (pv 1)) (nomark _)) (pssm_one (psm_ret (pem_tup (pam_cons (pem_var (pv 2)) (pam_cons pem_str pam_nil))))) pssm_nil)
    (pssm_one (psm_if (ptm_cmp (op_eqD hr.units) sim_eq (pem_var (pv 3)) (pem_var (pv 1)) (nomark _)) (pssm_one (psm_set (i := 1) sc_entries_fault.nd rfl (Or.inl rfl) (pem_op op_addAll sim_add (pem_var (pv 1)) pem_int))) pssm_nil))))))
    (pssm_one (psm_ret pem_non)))))
theorem ok_BadPattern___init (T : Txt K mg base a) : FnOk PW w K mg base (L2.CX PW w) 1 a.f_BadPattern___init a.d_BadPattern___init (["self", "index", "what"] : List Str) (spIni a.c_BadPattern (fldN 1)) := by
  obtain ⟨oc, od, osl, dV, kV, doc, pm, an, ct, e, l, cd⟩ := T.l_BadPattern
  rw [e] at l ⊢
  exact init_ok l cd T.S_BadPattern rfl rfl rfl (by decide) (by decide) (fun A outer s H E => ⟨_, (pa_cons pe_str pa_nil), fun σ H Q _ k => k _ (by simp)⟩) (fun A outer s H E => (.cons (pv 0) (pv 1) T.n_BadPattern_index rfl (.cons (pv 0) (pv 2) T.n_BadPattern_what rfl .nil)))
theorem sc_Pattern___init : FnScope (["self", "entries", "fault"] : List Str) (["self", "entries"] : List Str) (defScope s_Pattern___init) := ⟨rfl, rfl, rfl, by decide +kernel, rfl, by decide +kernel, by decide +kernel⟩
theorem ok_Pattern___init (T : Txt K mg base a) : FnOk PW w K mg base (L2.CX PW w) 3 a.f_Pattern___init a.d_Pattern___init (["self", "entries"] : List Str) (spOf (tb w K a) 2 m_Pattern___init) :=
  fund_okl T.F_Pattern___init sc_Pattern___init fun cdv A outer s H E hr =>
    (pssm_cons (psm_set (i := 2) sc_Pattern___init.nd rfl (Or.inl rfl) (pem_call (takes_of rfl rfl rfl rfl) (ok_entries_fault T) (hr.mono (by decide)) rfl T.m_entries_fault T.k_entries_fault T.b_entries_fault .nil (fun _ => .nil) rfl (pam_cons (pem_var (pv 1)) pam_nil)))
    (pssm_cons (psm_if (ptm_cmp op_notN sim_notN (pem_var (pv 2)) pem_non (nomark _)) (pssm_one (psm_raise (k := 1) rfl (takes_of rfl rfl rfl rfl) T.e_BadPattern T.ei_BadPattern T.et_BadPattern (ok_BadPattern___init T) (hr.mono (by decide)) T.b_BadPattern___init rfl T.c_BadPattern rfl (by decide) (pam_cons (pem_ix ix_seq sim_ix (pem_var (pv 2)) pem_int) (pam_cons (pem_ix ix_seq sim_ix (pem_var (pv 2)) pem_int) pam_nil)))) pssm_nil)
    (pssm_one (psm_fld rfl T.o_Pattern_entries (ps_fld (pem_var (pv 0)) (pem_callTy call_tuple_of sim_tuple rfl T.z_tuple bt_tuple (pam_cons (pem_var (pv 1)) pam_nil)) rfl)))))
theorem sc_u_law_word : FnScope (["_law_call", "_law_found", "e"] : List Str) (["_law_call"] : List Str) (defScope s_u_law_word) := ⟨rfl, rfl, rfl, by decide +kernel, rfl, by decide +kernel, by decide +kernel⟩
theorem lamw_u_law_word (T : Txt K mg base a) {X : Cx} (hK : X.K = K := by rfl) (hm : X.mg = mg := by rfl) {cdv : Value} {q : Str} : GivesTo2 X (["_law_call", "_law_found", "e"] : List Str) q (defScope s_u_law_word) a.f_u_law_word cdv (defBody s_u_law_word) "_law_call" (TTw X.K ((tb w K a).cls 2) "what") := by
  subst hK hm
  exact caught_gives rfl T.c_BadMatch (by decide) (T.exm_BadMatch 2 true rfl) T.x_BadMatch T.n_BadMatch_what (by decide +kernel) rfl rfl (by decide) (by decide) (by decide) (by decide) rfl
theorem ok_BadMatch___init (T : Txt K mg base a) : FnOk PW w K mg base (L2.CX PW w) 1 a.f_BadMatch___init a.d_BadMatch___init (["self", "what"] : List Str) (spIni a.c_BadMatch (fldN 2)) := by
  obtain ⟨oc, od, osl, dV, kV, doc, pm, an, ct, e, l, cd⟩ := T.l_BadMatch
  rw [e] at l ⊢
  exact init_ok l cd T.S_BadMatch rfl rfl rfl (by decide) (by decide) (fun A outer s H E => ⟨_, (pa_cons pe_str pa_nil), fun σ H Q _ k => k _ (by simp)⟩) (fun A outer s H E => (.cons (pv 0) (pv 1) T.n_BadMatch_what rfl .nil))
theorem sc_check_match : FnScope (["one", "other", "first", "second"] : List Str) (["one", "other"] : List Str) (defScope s_check_match) := ⟨rfl, rfl, rfl, by decide +kernel, rfl, by decide +kernel, by decide +kernel⟩
theorem ok_check_match (T : Txt K mg base a) : FnOk PW w K mg base (L2.CX PW w) 3 a.f_check_match a.d_check_match (["one", "other"] : List Str) (spOf (tb w K a) 2 m_check_match) :=
  fund_okm T.F_check_match sc_check_match fun cdv A outer s H E hr =>
    (pssm_cons (psm_if (ptm_cmp (op_neD hr.units) sim_ne (pem_callB call_len sim_len rfl T.z_len bt_len (pam_cons (pem_fld rfl T.o_Pattern_entries (pe_fld (pem_var (pv 0)) rfl)) pam_nil)) (pem_callB call_len sim_len rfl T.z_len bt_len (pam_cons (pem_fld rfl T.o_Pattern_entries (pe_fld (pem_var (pv 1)) rfl)) pam_nil)) (nomark _)) (pssm_one (psm_raise (k := 2) rfl (takes_of rfl rfl rfl rfl) T.e_BadMatch T.ei_BadMatch T.et_BadMatch (ok_BadMatch___init T) (hr.mono (by decide)) T.b_BadMatch___init rfl T.c_BadMatch rfl (by decide) (pam_cons pem_str pam_nil))) pssm_nil)
    (pssm_one (psm_for (passes_of rfl) rfl (pim_zip rfl rfl T.z_zip (pam_cons (pem_fld rfl T.o_Pattern_entries (pe_fld (pem_var (pv 0)) rfl)) (pam_cons (pem_fld rfl T.o_Pattern_entries (pe_fld (pem_var (pv 1)) rfl)) pam_nil))) (pgm_tup rfl rfl (PGN.cons (pg_name (i := 2) sc_check_match.nd rfl (Or.inl rfl)) rfl (PGN.cons (pg_name (i := 3) sc_check_match.nd rfl (Or.inl rfl)) rfl PGN.nil rfl) rfl)) (pssm_one (psm_if (ptm_cmp (op_neD hr.units) sim_ne (pem_cmp op_isN sim_isN (pem_var (pv 2)) pem_non (nomark _)) (pem_cmp op_isN sim_isN (pem_var (pv 3)) pem_non (nomark _)) (nomark _)) (pssm_one (psm_raise (k := 2) rfl (takes_of rfl rfl rfl rfl) T.e_BadMatch T.ei_BadMatch T.et_BadMatch (ok_BadMatch___init T) (hr.mono (by decide)) T.b_BadMatch___init rfl T.c_BadMatch rfl (by decide) (pam_cons pem_str pam_nil))) pssm_nil)))))
theorem sc_is_finer : FnScope (["one", "other", "led", "first", "second"] : List Str) (["one", "other"] : List Str) (defScope s_is_finer) := ⟨rfl, rfl, rfl, by decide +kernel, rfl, by decide +kernel, by decide +kernel⟩
theorem ok_is_finer (T : Txt K mg base a) : FnOk PW w K mg base (L2.CX PW w) 4 a.f_is_finer a.d_is_finer (["one", "other"] : List Str) (spOf (tb w K a) 2 m_is_finer) :=
  fund_okm T.F_is_finer sc_is_finer fun cdv A outer s H E hr =>
    (pssm_cons (psm_expr (pem_call (takes_of rfl rfl rfl rfl) (ok_check_match T) (hr.mono (by decide)) rfl T.m_check_match T.k_check_match T.b_check_match .nil (fun _ => .nil) rfl (pam_cons (pem_var (pv 0)) (pam_cons (pem_var (pv 1)) pam_nil))))
    (pssm_cons (psm_set (i := 2) sc_is_finer.nd rfl (Or.inl rfl) pem_dict)
    (pssm_cons (psm_for (passes_of rfl) rfl (pim_zip rfl rfl T.z_zip (pam_cons (pem_fld rfl T.o_Pattern_entries (pe_fld (pem_var (pv 0)) rfl)) (pam_cons (pem_fld rfl T.o_Pattern_entries (pe_fld (pem_var (pv 1)) rfl)) pam_nil))) (pgm_tup rfl rfl (PGN.cons (pg_name (i := 3) sc_is_finer.nd rfl (Or.inl rfl)) rfl (PGN.cons (pg_name (i := 4) sc_is_finer.nd rfl (Or.inl rfl)) rfl PGN.nil rfl) rfl)) (pssm_one (psm_if (PWm.pt (pwm_and (ptm_cmp op_notN sim_notN (pem_var (pv 3)) pem_non (nomark _)) (pwm_and1 (ptm_cmp (op_neD hr.units) sim_ne (pem_dsetd (pem_var (pv 2)) (pem_var (pv 3)) (pem_var (pv 4))) (pem_var (pv 4)) (nomark _))))) (pssm_one (psm_ret pem_bl)) pssm_nil)))
    (pssm_one (psm_ret pem_bl)))))
theorem sc_class_numbers : FnScope (["things", "numbers", "found", "thing"] : List Str) (["things"] : List Str) (defScope s_class_numbers) := ⟨rfl, rfl, rfl, by decide +kernel, rfl, by decide +kernel, by decide +kernel⟩
theorem ok_class_numbers (T : Txt K mg base a) : FnOk PW w K mg base (L2.CX PW w) 1 a.f_class_numbers a.d_class_numbers (["things"] : List Str) (spOf (tb w K a) 1 m_class_numbers) :=
  fund_okm T.F_class_numbers sc_class_numbers fun cdv A outer s H E hr =>
    (pssm_case
    (pssm_cons (psm_set (i := 1) sc_class_numbers.nd rfl (Or.inl rfl) pem_dictT)
    (pssm_cons (psm_set (i := 2) sc_class_numbers.nd rfl (Or.inl rfl) (pem_lst pam_nil))
    (pssm_cons (psm_for (passes_of rfl) rfl (pim_seq rfl (pem_var (pv 0))) (pgm_name (pg_name (i := 3) sc_class_numbers.nd rfl (Or.inl rfl))) (pssm_cons (psm_if (PWm.pt (pwm_and (ptm_cmp op_notN sim_notN (pem_var (pv 3)) pem_non (nomark _)) (pwm_and1 (ptm_pc (pcm_dnotinL (units1 hr) (pem_var (pv 3)) (pem_var (pv 1))))))) (pssm_one (psm_dputL (units1 hr) (pem_var (pv 1)) (pem_var (pv 3)) (pem_callB call_lenT sim_lenT rfl T.z_len bt_len (pam_cons (pem_var (pv 1)) pam_nil)) rfl)) pssm_nil)
    (pssm_one (psm_expr (pem_bm sim_app (pe_bm PySem.F.plainAttrs_list PySem.F.slot_list_append PySem.F.type_list_append mt_append (pem_var (pv 2)) (pam_cons (pem_ifExp (ptm_cmp op_isN sim_isN (pem_var (pv 3)) pem_non (nomark _)) pem_non (pem_dgetL (units1 hr) (pem_var (pv 1)) (pem_var (pv 3)) fun _ _ => rfl)) pam_nil)))))))
    (pssm_one (psm_ret (pem_callTy call_tuple_of sim_tuple rfl T.z_tuple bt_tuple (pam_cons (pem_var (pv 2)) pam_nil)))))))
    (pssm_cons (psm_set (i := 1) sc_class_numbers.nd rfl (Or.inl rfl) pem_dict)
    (pssm_cons (psm_set (i := 2) sc_class_numbers.nd rfl (Or.inl rfl) (pem_lst pam_nil))
    (pssm_cons (psm_for (passes_of rfl) rfl (pim_seq rfl (pem_var (pv 0))) (pgm_name (pg_name (i := 3) sc_class_numbers.nd rfl (Or.inl rfl))) (pssm_cons (psm_if (PWm.pt (pwm_and (ptm_cmp op_notN sim_notN (pem_var (pv 3)) pem_non (nomark _)) (pwm_and1 (ptm_pc (pcm_dnotin (units1 hr) (pem_var (pv 3)) (pem_var (pv 1))))))) (pssm_one (psm_dput (ps_dput (units1 hr) (pem_var (pv 1)) (pem_var (pv 3)) (pem_callB call_lenO (sim_lenO (T := (tb w K a))) rfl T.z_len bt_len (pam_cons (pem_var (pv 1)) pam_nil)) rfl))) pssm_nil)
    (pssm_one (psm_expr (pem_bm sim_app (pe_bm PySem.F.plainAttrs_list PySem.F.slot_list_append PySem.F.type_list_append mt_append (pem_var (pv 2)) (pam_cons (pem_ifExp (ptm_cmp op_isN sim_isN (pem_var (pv 3)) pem_non (nomark _)) pem_non (pem_dget (units1 hr) (pem_var (pv 1)) (pem_var (pv 3)) fun _ _ => rfl)) pam_nil)))))))
    (pssm_one (psm_ret (pem_callTy call_tuple_of sim_tuple rfl T.z_tuple bt_tuple (pam_cons (pem_var (pv 2)) pam_nil))))))))
theorem sc_merged_marks : FnScope (["one", "other", "marks", "place", "ahead", "old", "new", "mark"] : List Str) (["one", "other"] : List Str) (defScope s_merged_marks) := ⟨rfl, rfl, rfl, by decide +kernel, rfl, by decide +kernel, by decide +kernel⟩
theorem ok_merged_marks (T : Txt K mg base a) : FnOk PW w K mg base (L2.CX PW w) 1 a.f_merged_marks a.d_merged_marks (["one", "other"] : List Str) (spOf (tb w K a) 2 m_merged_marks) :=
  fund_okm T.F_merged_marks sc_merged_marks fun cdv A outer s H E hr =>
    (pssm_cons (psm_set (i := 2) sc_merged_marks.nd rfl (Or.inl rfl) (pem_scope (pem_callTy call_list_of sim_list rfl T.z_list bt_list (pam_cons (pem_var (pv 0)) pam_nil))))
    (pssm_cons (psm_for (passes_of rfl) rfl (pim_range1 rfl T.z_range (pam_cons (pem_callB call_len sim_len rfl T.z_len bt_len (pam_cons (pem_var (pv 2)) pam_nil)) pam_nil)) (pgm_name (pg_name (i := 3) sc_merged_marks.nd rfl (Or.inl rfl))) (pssm_one (psm_for (passes_of rfl) rfl (pim_range1 rfl T.z_range (pam_cons (pem_var (pv 3)) pam_nil)) (pgm_name (pg_name (i := 4) sc_merged_marks.nd rfl (Or.inl rfl))) (pssm_one (psm_if (PWm.pt (pwm_and (ptm_cmp op_notN sim_notN (pem_ix ix_seq sim_ix (pem_var (pv 1)) (pem_var (pv 3))) pem_non (nomark _)) (pwm_and (ptm_cmp (op_eqD hr.units) sim_eq (pem_ix ix_seq sim_ix (pem_var (pv 1)) (pem_var (pv 3))) (pem_ix ix_seq sim_ix (pem_var (pv 1)) (pem_var (pv 4))) (nomark _)) (pwm_and1 (ptm_cmp (op_neD hr.units) sim_ne (pem_ix ix_seq sim_ix (pem_var (pv 2)) (pem_var (pv 3))) (pem_ix ix_seq sim_ix (pem_var (pv 2)) (pem_var (pv 4))) (nomark _)))))) (pssm_cons (psm_asg (pem_tup (pam_cons (pem_ix ix_seq sim_ix (pem_var (pv 2)) (pem_var (pv 3))) (pam_cons (pem_ix ix_seq sim_ix (pem_var (pv 2)) (pem_var (pv 4))) pam_nil))) (pgm_tup rfl rfl (PGN.cons (pg_name (i := 5) sc_merged_marks.nd rfl (Or.inr rfl)) rfl (PGN.cons (pg_name (i := 6) sc_merged_marks.nd rfl (Or.inr rfl)) rfl PGN.nil rfl) rfl)))
    (pssm_one (psm_setLc (own := [("mark", 7)]) scope_hm rfl sc_merged_marks.nd rfl rfl rfl (pim_seq rfl (pem_var (pv 2))) (show BlkOk (["one", "other", "marks", "place", "ahead", "old", "new", "mark"] : List Str) (defScope s_merged_marks) _ [("mark", 7)] from ⟨rfl, by decide +kernel, by decide +kernel, by decide +kernel, by decide +kernel⟩) (fun _ _ _ _ _ => (pg_name (i := 7) sc_merged_marks.nd rfl (Or.inl rfl))) (gr_name rfl) (gw_name (by decide)) (fun _ _ _ _ _ => (ptsm_nil (σ := ()))) (fun _ _ _ _ _ => (pem_ifExp (ptm_cmp (op_eqD hr.units) sim_eq (pem_var (pv 7)) (pem_var (pv 5)) (nomark _)) (pem_var (pv 6)) (pem_var (pv 7))))))) pssm_nil)))))
    (pssm_one (psm_ret (pem_var (pv 2))))))
theorem sc_Pattern___or : FnScope (["self", "other"] : List Str) (["self", "other"] : List Str) (defScope s_Pattern___or) := ⟨rfl, rfl, rfl, by decide +kernel, rfl, by decide +kernel, by decide +kernel⟩
theorem ok_Pattern___or (T : Txt K mg base a) : FnOk PW w K mg base (L2.CX PW w) 5 a.f_Pattern___or a.d_Pattern___or (["self", "other"] : List Str) (spOf (tb w K a) 2 m_Pattern___or) :=
  fund_okm T.F_Pattern___or sc_Pattern___or fun cdv A outer s H E hr =>
    (pssm_cons (psm_if (ptm_not (ptm_tru rfl (pem_isi1 T.isok rfl rfl T.z_isinstance (pem_var (pv 1)) (pe_glob rfl T.c_Pattern rfl)))) (pssm_one (psm_ret pem_never)) pssm_nil)
    (pssm_cons (psm_expr (pem_call (takes_of rfl rfl rfl rfl) (ok_check_match T) (hr.mono (by decide)) rfl T.m_check_match T.k_check_match T.b_check_match .nil (fun _ => .nil) rfl (pam_cons (pem_var (pv 0)) (pam_cons (pem_var (pv 1)) pam_nil))))
    (pssm_one (psm_ret (pem_scope (pem_make (takes_of rfl rfl rfl rfl) T.mk_Pattern (ok_Pattern___init T) (hr.mono (by decide)) rfl T.c_Pattern T.b_Pattern___init .nil (fun _ => .nil) (pam_cons (pem_call (takes_of rfl rfl rfl rfl) (ok_class_numbers T) (hr.mono (by decide)) rfl T.m_class_numbers T.k_class_numbers T.b_class_numbers .nil (fun _ => .nil) rfl (pam_cons (pem_call (takes_of rfl rfl rfl rfl) (ok_merged_marks T) (hr.mono (by decide)) rfl T.m_merged_marks T.k_merged_marks T.b_merged_marks .nil (fun _ => .nil) rfl (pam_cons (pem_fld rfl T.o_Pattern_entries (pe_fld (pem_var (pv 0)) rfl)) (pam_cons (pem_fld rfl T.o_Pattern_entries (pe_fld (pem_var (pv 1)) rfl)) pam_nil))) pam_nil)) pam_nil)))))))
theorem sc_Pattern___and : FnScope (["self", "other", "pairs", "one", "two"] : List Str) (["self", "other"] : List Str) (defScope s_Pattern___and) := ⟨rfl, rfl, rfl, by decide +kernel, rfl, by decide +kernel, by decide +kernel⟩
theorem ok_Pattern___and (T : Txt K mg base a) : FnOk PW w K mg base (L2.CX PW w) 5 a.f_Pattern___and a.d_Pattern___and (["self", "other"] : List Str) (spOf (tb w K a) 2 m_Pattern___and) :=
  fund_okm T.F_Pattern___and sc_Pattern___and fun cdv A outer s H E hr =>
    (pssm_cons (psm_if (ptm_not (ptm_tru rfl (pem_isi1 T.isok rfl rfl T.z_isinstance (pem_var (pv 1)) (pe_glob rfl T.c_Pattern rfl)))) (pssm_one (psm_ret pem_never)) pssm_nil)
    (pssm_cons (psm_expr (pem_call (takes_of rfl rfl rfl rfl) (ok_check_match T) (hr.mono (by decide)) rfl T.m_check_match T.k_check_match T.b_check_match .nil (fun _ => .nil) rfl (pam_cons (pem_var (pv 0)) (pam_cons (pem_var (pv 1)) pam_nil))))
    (pssm_cons (psm_setLc (own := [("one", 3), ("two", 4)]) (fun _ _ _ h => h) rfl sc_Pattern___and.nd rfl rfl rfl (pim_zip rfl rfl T.z_zip (pam_cons (pem_fld rfl T.o_Pattern_entries (pe_fld (pem_var (pv 0)) rfl)) (pam_cons (pem_fld rfl T.o_Pattern_entries (pe_fld (pem_var (pv 1)) rfl)) pam_nil))) (show BlkOk (["self", "other", "pairs", "one", "two"] : List Str) (defScope s_Pattern___and) _ [("one", 3), ("two", 4)] from ⟨rfl, by decide +kernel, by decide +kernel, by decide +kernel, by decide +kernel⟩) (fun _ _ _ _ _ => (pg_tup rfl (pgs_cons (pg_name (i := 3) sc_Pattern___and.nd rfl (Or.inl rfl)) (pgs_cons (pg_name (i := 4) sc_Pattern___and.nd rfl (Or.inl rfl)) pgs_nil rfl) rfl) rfl rfl)) (gr_tup rfl (GN.cons (i := 3) rfl (GN.cons (i := 4) rfl GN.nil))) (gw_tup (gw_cons (by decide) (gw_cons (by decide) gw_nil))) (fun _ _ _ _ _ => (ptsm_nil (σ := ()))) (fun _ _ _ _ _ => (pem_ifExp (ptm_cmp op_isN sim_isN (pem_var (pv 3)) pem_non (nomark _)) pem_non (pem_tupL (pam_cons (pem_var (pv 3)) (pam_cons (pem_var (pv 4)) pam_nil))))))
    (pssm_one (psm_ret (pem_scope (pem_make (takes_of rfl rfl rfl rfl) T.mk_Pattern (ok_Pattern___init T) (hr.mono (by decide)) rfl T.c_Pattern T.b_Pattern___init .nil (fun _ => .nil) (pam_cons (pem_call (takes_of rfl rfl rfl rfl) (ok_class_numbers T) (hr.mono (by decide)) rfl T.m_class_numbers T.k_class_numbers T.b_class_numbers .nil (fun _ => .nil) rfl (pam_cons (pem_var (pv 2)) pam_nil)) pam_nil))))))))
theorem sc_u_law_unmatched_right : FnScope (["_law_one", "_law_other", "_law_first", "_law_second", "_law_due"] : List Str) (["_law_one", "_law_other"] : List Str) (defScope s_u_law_unmatched_right) := ⟨rfl, rfl, rfl, by decide +kernel, rfl, by decide +kernel, by decide +kernel⟩
theorem ok_u_law_unmatched_right (T : Txt K mg base a) : FnOk PW w K mg base (L2.CX PW w) 8 a.f_u_law_unmatched_right a.d_u_law_unmatched_right (["_law_one", "_law_other"] : List Str) (spOf (tb w K a) 2 m_u_law_unmatched_right) :=
  fund_okmC T.F_u_law_unmatched_right sc_u_law_unmatched_right T.cd_u_law_unmatched_right fun A outer s H E hr =>
    (pssm_cons (psm_asg (pem_tup (pam_cons (pem_scope (pem_make (takes_of rfl rfl rfl rfl) T.mk_Pattern (ok_Pattern___init T) (hr.mono (by decide)) rfl T.c_Pattern T.b_Pattern___init .nil (fun _ => .nil) (pam_cons (pem_var (pv 0)) pam_nil))) (pam_cons (pem_scope (pem_make (takes_of rfl rfl rfl rfl) T.mk_Pattern (ok_Pattern___init T) (hr.mono (by decide)) rfl T.c_Pattern T.b_Pattern___init .nil (fun _ => .nil) (pam_cons (pem_var (pv 1)) pam_nil))) pam_nil))) (pgm_tup rfl rfl (PGN.cons (pg_name (i := 2) sc_u_law_unmatched_right.nd rfl (Or.inr rfl)) rfl (PGN.cons (pg_name (i := 3) sc_u_law_unmatched_right.nd rfl (Or.inr rfl)) rfl PGN.nil rfl) rfl)))
    (pssm_cons (psm_set (i := 4) sc_u_law_unmatched_right.nd rfl (Or.inl rfl) (pem_call (takes_of rfl rfl rfl rfl) (ok_u_law_match_word T) (hr.mono (by decide)) rfl T.m_u_law_match_word T.k_u_law_match_word T.b_u_law_match_word .nil (fun _ => .nil) rfl (pam_cons (pem_var (pv 0)) (pam_cons (pem_var (pv 1)) pam_nil))))
    (pssm_cons (psm_if (ptm_cmp (op_neD hr.units) sim_ne (pem_lamwF (k := 5) T.F_u_law_word rfl T.m_u_law_word T.k_u_law_word T.b_u_law_word sc_u_law_word rfl (Or.inl rfl) (fun cdv => lamw_u_law_word T) (show (fldN 2)[0]? = some ("what" : Str) from rfl) (show (fldN 2).Nodup by decide +kernel) T.tb_u_law_unmatched_right rfl (List.mem_singleton.mpr rfl) (fun p hp _ => by cases List.mem_singleton.mp hp; rfl) (hr.mono (by decide)) rfl ⟨LamX.lamS_by rfl, fun _ _ _ _ _ => rfl, fun A outer s H E f k hr => (pem_call (takes_of rfl rfl rfl rfl) (ok_is_finer T) (hr.mono (by decide)) rfl T.m_is_finer T.k_is_finer T.b_is_finer .nil (fun _ => .nil) rfl (pam_cons (pem_var (pv 2)) (pam_cons (pem_var (pv 3)) pam_nil)))⟩) (pem_var (pv 4)) (nomark _)) (pssm_one (psm_ret pem_bl)) pssm_nil)
    (pssm_cons (psm_if (ptm_cmp (op_neD hr.units) sim_ne (pem_lamwF (k := 5) T.F_u_law_word rfl T.m_u_law_word T.k_u_law_word T.b_u_law_word sc_u_law_word rfl (Or.inl rfl) (fun cdv => lamw_u_law_word T) (show (fldN 2)[0]? = some ("what" : Str) from rfl) (show (fldN 2).Nodup by decide +kernel) T.tb_u_law_unmatched_right rfl (List.mem_singleton.mpr rfl) (fun p hp _ => by cases List.mem_singleton.mp hp; rfl) (hr.mono (by decide)) rfl ⟨LamX.lamS_by rfl, fun _ _ _ _ _ => rfl, fun A outer s H E f k hr => (pem_binO (takes_of rfl rfl rfl rfl) rfl (ok_Pattern___or T) (hr.mono (by decide)) T.sf_Pattern T.qb_Pattern___or.1 T.qb_Pattern___or.2 T.b_Pattern___or (pem_var (pv 2)) (pem_var (pv 3)))⟩) (pem_var (pv 4)) (nomark _)) (pssm_one (psm_ret pem_bl)) pssm_nil)
    (pssm_cons (psm_if (ptm_cmp (op_neD hr.units) sim_ne (pem_lamwF (k := 5) T.F_u_law_word rfl T.m_u_law_word T.k_u_law_word T.b_u_law_word sc_u_law_word rfl (Or.inl rfl) (fun cdv => lamw_u_law_word T) (show (fldN 2)[0]? = some ("what" : Str) from rfl) (show (fldN 2).Nodup by decide +kernel) T.tb_u_law_unmatched_right rfl (List.mem_singleton.mpr rfl) (fun p hp _ => by cases List.mem_singleton.mp hp; rfl) (hr.mono (by decide)) rfl ⟨LamX.lamS_by rfl, fun _ _ _ _ _ => rfl, fun A outer s H E f k hr => (pem_binO (takes_of rfl rfl rfl rfl) rfl (ok_Pattern___and T) (hr.mono (by decide)) T.sf_Pattern T.qb_Pattern___and.1 T.qb_Pattern___and.2 T.b_Pattern___and (pem_var (pv 2)) (pem_var (pv 3)))⟩) (pem_var (pv 4)) (nomark _)) (pssm_one (psm_ret pem_bl)) pssm_nil)
    (pssm_one (psm_ret (pem_cmp (op_eqD hr.units) sim_eq (pem_lamwF (k := 5) T.F_u_law_word rfl T.m_u_law_word T.k_u_law_word T.b_u_law_word sc_u_law_word rfl (Or.inl rfl) (fun cdv => lamw_u_law_word T) (show (fldN 2)[0]? = some ("what" : Str) from rfl) (show (fldN 2).Nodup by decide +kernel) T.tb_u_law_unmatched_right rfl (List.mem_singleton.mpr rfl) (fun p hp _ => by cases List.mem_singleton.mp hp; rfl) (hr.mono (by decide)) rfl ⟨LamX.lamS_by rfl, fun _ _ _ _ _ => rfl, fun A outer s H E f k hr => (pem_call (takes_of rfl rfl rfl rfl) (ok_is_finer T) (hr.mono (by decide)) rfl T.m_is_finer T.k_is_finer T.b_is_finer .nil (fun _ => .nil) rfl (pam_cons (pem_var (pv 3)) (pam_cons (pem_var (pv 2)) pam_nil)))⟩) (pem_var (pv 4)) (nomark _)))))))))
theorem sc_u_law_is : FnScope (["_law_told", "_law_due"] : List Str) (["_law_told", "_law_due"] : List Str) (defScope s_u_law_is) := ⟨rfl, rfl, rfl, by decide +kernel, rfl, by decide +kernel, by decide +kernel⟩
theorem ok_u_law_is (T : Txt K mg base a) : FnOk PW w K mg base (L2.CX PW w) 1 a.f_u_law_is a.d_u_law_is (["_law_told", "_law_due"] : List Str) (spOf (tb w K a) 2 m_u_law_is) :=
  fund_okm T.F_u_law_is sc_u_law_is fun cdv A outer s H E hr =>
    (pssm_one (psm_ret (pem_and (pem_isi1 T.isok rfl rfl T.z_isinstance (pem_var (pv 0)) (pe_bltn rfl T.z_bool bt_bool rfl)) (pem_one (pem_cmp (op_eqD hr.units) sim_eq (pem_var (pv 0)) (pem_var (pv 1)) (nomark _))))))
theorem sc_u_law_above : FnScope (["_law_one", "_law_other", "_law_marks", "_law_at", "_law_to", "_law_linked", "_law_old", "_law_new", "_law_mark"] : List Str) (["_law_one", "_law_other"] : List Str) (defScope s_u_law_above) := ⟨rfl, rfl, rfl, by decide +kernel, rfl, by decide +kernel, by decide +kernel⟩
theorem ok_u_law_above (T : Txt K mg base a) : FnOk PW w K mg base (L2.CX PW w) 2 a.f_u_law_above a.d_u_law_above (["_law_one", "_law_other"] : List Str) (spOf (tb w K a) 2 m_u_law_above) :=
  fund_okm T.F_u_law_above sc_u_law_above fun cdv A outer s H E hr =>
    (pssm_cons (psm_set (i := 2) sc_u_law_above.nd rfl (Or.inr rfl) (pem_scope (pem_lstRg rfl rfl T.z_list rfl T.z_range (pem_callB call_len sim_len rfl T.z_len bt_len (pam_cons (pem_var (pv 0)) pam_nil)))))
    (pssm_cons (psm_for (passes_of rfl) rfl (pim_range1 rfl T.z_range (pam_cons (pem_callB call_len sim_len rfl T.z_len bt_len (pam_cons (pem_var (pv 0)) pam_nil)) pam_nil)) (pgm_name (pg_name (i := 3) sc_u_law_above.nd rfl (Or.inl rfl))) (pssm_one (psm_for (passes_of rfl) rfl (pim_range1 rfl T.z_range (pam_cons (pem_var (pv 3)) pam_nil)) (pgm_name (pg_name (i := 4) sc_u_law_above.nd rfl (Or.inl rfl))) (pssm_cons (psm_set (i := 5) sc_u_law_above.nd rfl (Or.inl rfl) (pem_and (pem_cmp op_notN sim_notN (pem_ix ix_seq sim_ix (pem_var (pv 0)) (pem_var (pv 3))) pem_non (nomark _)) (pem_one (pem_or (pem_cmp (op_eqD hr.units) sim_eq (pem_ix ix_seq sim_ix (pem_var (pv 0)) (pem_var (pv 3))) (pem_ix ix_seq sim_ix (pem_var (pv 0)) (pem_var (pv 4))) (nomark _)) (pem_one (pem_cmp (op_eqD hr.units) sim_eq (pem_ix ix_seq sim_ix (pem_var (pv 1)) (pem_var (pv 3))) (pem_ix ix_seq sim_ix (pem_var (pv 1)) (pem_var (pv 4))) (nomark _)))))))
    (pssm_one (psm_if (PWm.pt (pwm_and (ptm_tru rfl (pem_var (pv 5))) (pwm_and1 (ptm_cmp (op_neD hr.units) sim_ne (pem_ix ix_seq sim_ix (pem_var (pv 2)) (pem_var (pv 3))) (pem_ix ix_seq sim_ix (pem_var (pv 2)) (pem_var (pv 4))) (nomark _))))) (pssm_cons (psm_asg (pem_tup (pam_cons (pem_ix ix_seq sim_ix (pem_var (pv 2)) (pem_var (pv 3))) (pam_cons (pem_ix ix_seq sim_ix (pem_var (pv 2)) (pem_var (pv 4))) pam_nil))) (pgm_tup rfl rfl (PGN.cons (pg_name (i := 6) sc_u_law_above.nd rfl (Or.inr rfl)) rfl (PGN.cons (pg_name (i := 7) sc_u_law_above.nd rfl (Or.inr rfl)) rfl PGN.nil rfl) rfl)))
    (pssm_one (psm_set (i := 2) sc_u_law_above.nd rfl (Or.inr rfl) (pem_scope (pem_comp (own := [("_law_mark", 8)]) rfl sc_u_law_above.nd (pim_seq rfl (pem_var (pv 2))) (show BlkOk (["_law_one", "_law_other", "_law_marks", "_law_at", "_law_to", "_law_linked", "_law_old", "_law_new", "_law_mark"] : List Str) (defScope s_u_law_above) _ [("_law_mark", 8)] from ⟨rfl, by decide +kernel, by decide +kernel, by decide +kernel, by decide +kernel⟩) (fun _ _ _ _ _ => (pg_name (i := 8) sc_u_law_above.nd rfl (Or.inl rfl))) (gr_name rfl) (gw_name (by decide)) (fun _ _ _ _ _ => (ptsm_nil (σ := ()))) (fun _ _ _ _ _ => (pem_ifExp (ptm_cmp (op_eqD hr.units) sim_eq (pem_var (pv 8)) (pem_var (pv 6)) (nomark _)) (pem_var (pv 7)) (pem_var (pv 8))))))))) pssm_nil))))))
    (pssm_one (psm_ret (pem_call (takes_of rfl rfl rfl rfl) (ok_u_law_numbers T) (hr.mono (by decide)) rfl T.m_u_law_numbers T.k_u_law_numbers T.b_u_law_numbers .nil (fun _ => .nil) rfl (pam_cons (pem_scope (pem_comp (own := [("_law_at", 3)]) rfl sc_u_law_above.nd (pim_range1 rfl T.z_range (pam_cons (pem_callB call_len sim_len rfl T.z_len bt_len (pam_cons (pem_var (pv 0)) pam_nil)) pam_nil)) (show BlkOk (["_law_one", "_law_other", "_law_marks", "_law_at", "_law_to", "_law_linked", "_law_old", "_law_new", "_law_mark"] : List Str) (defScope s_u_law_above) _ [("_law_at", 3)] from ⟨rfl, by decide +kernel, by decide +kernel, by decide +kernel, by decide +kernel⟩) (fun _ _ _ _ _ => (pg_name (i := 3) sc_u_law_above.nd rfl (Or.inl rfl))) (gr_name rfl) (gw_name (by decide)) (fun _ _ _ _ _ => (ptsm_nil (σ := ()))) (fun _ _ _ _ _ => (pem_ifExp (ptm_cmp op_isN sim_isN (pem_ix ix_seq sim_ix (pem_var (pv 0)) (pem_var (pv 3))) pem_non (nomark _)) pem_non (pem_ix ix_seq sim_ix (pem_var (pv 2)) (pem_var (pv 3))))))) pam_nil))))))
theorem sc_u_law_beneath : FnScope (["_law_one", "_law_other", "_law_at"] : List Str) (["_law_one", "_law_other"] : List Str) (defScope s_u_law_beneath) := ⟨rfl, rfl, rfl, by decide +kernel, rfl, by decide +kernel, by decide +kernel⟩
theorem ok_u_law_beneath (T : Txt K mg base a) : FnOk PW w K mg base (L2.CX PW w) 2 a.f_u_law_beneath a.d_u_law_beneath (["_law_one", "_law_other"] : List Str) (spOf (tb w K a) 2 m_u_law_beneath) :=
  fund_okm T.F_u_law_beneath sc_u_law_beneath fun cdv A outer s H E hr =>
    (pssm_one (psm_ret (pem_call (takes_of rfl rfl rfl rfl) (ok_u_law_numbers T) (hr.mono (by decide)) rfl T.m_u_law_numbers T.k_u_law_numbers T.b_u_law_numbers .nil (fun _ => .nil) rfl (pam_cons (pem_scope (pem_comp (own := [("_law_at", 2)]) rfl sc_u_law_beneath.nd (pim_range1 rfl T.z_range (pam_cons (pem_callB call_len sim_len rfl T.z_len bt_len (pam_cons (pem_var (pv 0)) pam_nil)) pam_nil)) (show BlkOk (["_law_one", "_law_other", "_law_at"] : List Str) (defScope s_u_law_beneath) _ [("_law_at", 2)] from ⟨rfl, by decide +kernel, by decide +kernel, by decide +kernel, by decide +kernel⟩) (fun _ _ _ _ _ => (pg_name (i := 2) sc_u_law_beneath.nd rfl (Or.inl rfl))) (gr_name rfl) (gw_name (by decide)) (fun _ _ _ _ _ => (ptsm_nil (σ := ()))) (fun _ _ _ _ _ => (pem_ifExp (ptm_cmp op_isN sim_isN (pem_ix ix_seq sim_ix (pem_var (pv 0)) (pem_var (pv 2))) pem_non (nomark _)) pem_non (pem_tup (pam_cons (pem_ix ix_seq sim_ix (pem_var (pv 0)) (pem_var (pv 2))) (pam_cons (pem_ix ix_seq sim_ix (pem_var (pv 1)) (pem_var (pv 2))) pam_nil))))))) pam_nil))))
theorem sc_Pattern___eq : FnScope (["self", "other"] : List Str) (["self", "other"] : List Str) (defScope s_Pattern___eq) := ⟨rfl, rfl, rfl, by decide +kernel, rfl, by decide +kernel, by decide +kernel⟩
theorem ok_Pattern___eq (T : Txt K mg base a) : FnOk PW w K mg base (L2.CX PW w) 1 a.f_Pattern___eq a.d_Pattern___eq (["self", "other"] : List Str) (spOf (tb w K a) 2 m_Pattern___eq) :=
  fund_okm T.F_Pattern___eq sc_Pattern___eq fun cdv A outer s H E hr =>
    (pssm_one (psm_ret (pem_and (pem_isi1 T.isok rfl rfl T.z_isinstance (pem_var (pv 1)) (pe_glob rfl T.c_Pattern rfl)) (pem_one (pem_cmp (op_eqD hr.units) sim_eq (pem_fld rfl T.o_Pattern_entries (pe_fld (pem_var (pv 0)) rfl)) (pem_fld rfl T.o_Pattern_entries (pe_fld (pem_var (pv 1)) rfl)) (nomark _))))))
theorem sc_u_law_finer : FnScope (["_law_one", "_law_other", "_law_at", "_law_entry", "_law_to"] : List Str) (["_law_one", "_law_other"] : List Str) (defScope s_u_law_finer) := ⟨rfl, rfl, rfl, by decide +kernel, rfl, by decide +kernel, by decide +kernel⟩
theorem ok_u_law_finer (T : Txt K mg base a) : FnOk PW w K mg base (L2.CX PW w) 1 a.f_u_law_finer a.d_u_law_finer (["_law_one", "_law_other"] : List Str) (spOf (tb w K a) 2 m_u_law_finer) :=
  fund_okm T.F_u_law_finer sc_u_law_finer fun cdv A outer s H E hr =>
    (pssm_cons (psm_for (passes_of rfl) rfl (pim_enumA rfl rfl T.z_enumerate (pam_cons (pem_var (pv 0)) pam_nil)) (pgm_tup rfl rfl (PGN.cons (pg_name (i := 2) sc_u_law_finer.nd rfl (Or.inl rfl)) rfl (PGN.cons (pg_name (i := 3) sc_u_law_finer.nd rfl (Or.inl rfl)) rfl PGN.nil rfl) rfl)) (pssm_one (psm_for (passes_of rfl) rfl (pim_range1 rfl T.z_range (pam_cons (pem_var (pv 2)) pam_nil)) (pgm_name (pg_name (i := 4) sc_u_law_finer.nd rfl (Or.inl rfl))) (pssm_one (psm_if (PWm.pt (pwm_and (ptm_cmp op_notN sim_notN (pem_var (pv 3)) pem_non (nomark _)) (pwm_and (ptm_cmp (op_eqD hr.units) sim_eq (pem_var (pv 3)) (pem_ix ix_seq sim_ix (pem_var (pv 0)) (pem_var (pv 4))) (nomark _)) (pwm_and1 (ptm_cmp (op_neD hr.units) sim_ne (pem_ix ix_seq sim_ix (pem_var (pv 1)) (pem_var (pv 2))) (pem_ix ix_seq sim_ix (pem_var (pv 1)) (pem_var (pv 4))) (nomark _)))))) (pssm_one (psm_ret pem_bl)) pssm_nil)))))
    (pssm_one (psm_ret pem_bl)))
theorem sc_u_law_pair_right : FnScope (["_law_one", "_law_other", "_law_first", "_law_second", "_law_above_here", "_law_beneath_here"] : List Str) (["_law_one", "_law_other"] : List Str) (defScope s_u_law_pair_right) := ⟨rfl, rfl, rfl, by decide +kernel, rfl, by decide +kernel, by decide +kernel⟩
theorem ok_u_law_pair_right (T : Txt K mg base a) : FnOk PW w K mg base (L2.CX PW w) 6 a.f_u_law_pair_right a.d_u_law_pair_right (["_law_one", "_law_other"] : List Str) (spOf (tb w K a) 2 m_u_law_pair_right) :=
  fund_okm T.F_u_law_pair_right sc_u_law_pair_right fun cdv A outer s H E hr =>
    (pssm_cons (psm_par (i := 2) (j := 3) rfl sc_u_law_pair_right.nd rfl rfl (by decide) rfl rfl (pam_cons (pem_scope (pem_make (takes_of rfl rfl rfl rfl) T.mk_Pattern (ok_Pattern___init T) (hr.mono (by decide)) rfl T.c_Pattern T.b_Pattern___init .nil (fun _ => .nil) (pam_cons (pem_var (pv 0)) pam_nil))) (pam_cons (pem_scope (pem_make (takes_of rfl rfl rfl rfl) T.mk_Pattern (ok_Pattern___init T) (hr.mono (by decide)) rfl T.c_Pattern T.b_Pattern___init .nil (fun _ => .nil) (pam_cons (pem_var (pv 1)) pam_nil))) pam_nil)) rfl)
    (pssm_cons (psm_if (PWm.pt (pwm_or (ptm_not (ptm_tru rfl (pem_call (takes_of rfl rfl rfl rfl) (ok_u_law_is T) (hr.mono (by decide)) rfl T.m_u_law_is T.k_u_law_is T.b_u_law_is .nil (fun _ => .nil) rfl (pam_cons (pem_call (takes_of rfl rfl rfl rfl) (ok_is_finer T) (hr.mono (by decide)) rfl T.m_is_finer T.k_is_finer T.b_is_finer .nil (fun _ => .nil) rfl (pam_cons (pem_var (pv 2)) (pam_cons (pem_var (pv 3)) pam_nil))) (pam_cons (pem_call (takes_of rfl rfl rfl rfl) (ok_u_law_finer T) (hr.mono (by decide)) rfl T.m_u_law_finer T.k_u_law_finer T.b_u_law_finer .nil (fun _ => .nil) rfl (pam_cons (pem_var (pv 0)) (pam_cons (pem_var (pv 1)) pam_nil))) pam_nil))))) (pwm_or1 (ptm_not (ptm_tru rfl (pem_call (takes_of rfl rfl rfl rfl) (ok_u_law_is T) (hr.mono (by decide)) rfl T.m_u_law_is T.k_u_law_is T.b_u_law_is .nil (fun _ => .nil) rfl (pam_cons (pem_call (takes_of rfl rfl rfl rfl) (ok_is_finer T) (hr.mono (by decide)) rfl T.m_is_finer T.k_is_finer T.b_is_finer .nil (fun _ => .nil) rfl (pam_cons (pem_var (pv 2)) (pam_cons (pem_var (pv 2)) pam_nil))) (pam_cons pem_bl pam_nil)))))))) (pssm_one (psm_ret pem_bl)) pssm_nil)
    (pssm_cons (psm_par (i := 4) (j := 5) rfl sc_u_law_pair_right.nd rfl rfl (by decide) rfl rfl (pam_cons (pem_binO (takes_of rfl rfl rfl rfl) rfl (ok_Pattern___or T) (hr.mono (by decide)) T.sf_Pattern T.qb_Pattern___or.1 T.qb_Pattern___or.2 T.b_Pattern___or (pem_var (pv 2)) (pem_var (pv 3))) (pam_cons (pem_binO (takes_of rfl rfl rfl rfl) rfl (ok_Pattern___and T) (hr.mono (by decide)) T.sf_Pattern T.qb_Pattern___and.1 T.qb_Pattern___and.2 T.b_Pattern___and (pem_var (pv 2)) (pem_var (pv 3))) pam_nil)) rfl)
    (pssm_cons (psm_if (PWm.pt (pwm_or (ptm_cmp (op_neD hr.units) sim_ne (pem_scope (pem_callTy call_list_of sim_list rfl T.z_list bt_list (pam_cons (pem_fld rfl T.o_Pattern_entries (pe_fld (pem_var (pv 4)) rfl)) pam_nil))) (pem_call (takes_of rfl rfl rfl rfl) (ok_u_law_above T) (hr.mono (by decide)) rfl T.m_u_law_above T.k_u_law_above T.b_u_law_above .nil (fun _ => .nil) rfl (pam_cons (pem_var (pv 0)) (pam_cons (pem_var (pv 1)) pam_nil))) (nomark _)) (pwm_or1 (ptm_cmp (op_neD hr.units) sim_ne (pem_scope (pem_callTy call_list_of sim_list rfl T.z_list bt_list (pam_cons (pem_fld rfl T.o_Pattern_entries (pe_fld (pem_var (pv 5)) rfl)) pam_nil))) (pem_call (takes_of rfl rfl rfl rfl) (ok_u_law_beneath T) (hr.mono (by decide)) rfl T.m_u_law_beneath T.k_u_law_beneath T.b_u_law_beneath .nil (fun _ => .nil) rfl (pam_cons (pem_var (pv 0)) (pam_cons (pem_var (pv 1)) pam_nil))) (nomark _))))) (pssm_one (psm_ret pem_bl)) pssm_nil)
    (pssm_cons (psm_if (PWm.pt (pwm_or (ptm_not (ptm_cmp (op_own (ok_Pattern___eq T) (hr.mono (by decide)) T.q_Pattern.1 T.q_Pattern.2 T.b_Pattern___eq passL) (sim_own T.nf_Pattern) (pem_binO (takes_of rfl rfl rfl rfl) rfl (ok_Pattern___or T) (hr.mono (by decide)) T.sf_Pattern T.qb_Pattern___or.1 T.qb_Pattern___or.2 T.b_Pattern___or (pem_var (pv 3)) (pem_var (pv 2))) (pem_var (pv 4)) (nomark _))) (pwm_or (ptm_not (ptm_cmp (op_own (ok_Pattern___eq T) (hr.mono (by decide)) T.q_Pattern.1 T.q_Pattern.2 T.b_Pattern___eq passL) (sim_own T.nf_Pattern) (pem_binO (takes_of rfl rfl rfl rfl) rfl (ok_Pattern___and T) (hr.mono (by decide)) T.sf_Pattern T.qb_Pattern___and.1 T.qb_Pattern___and.2 T.b_Pattern___and (pem_var (pv 3)) (pem_var (pv 2))) (pem_var (pv 5)) (nomark _))) (pwm_or1 (ptm_not (ptm_cmp (op_own (ok_Pattern___eq T) (hr.mono (by decide)) T.q_Pattern.1 T.q_Pattern.2 T.b_Pattern___eq passL) (sim_own T.nf_Pattern) (pem_binO (takes_of rfl rfl rfl rfl) rfl (ok_Pattern___or T) (hr.mono (by decide)) T.sf_Pattern T.qb_Pattern___or.1 T.qb_Pattern___or.2 T.b_Pattern___or (pem_var (pv 2)) (pem_var (pv 2))) (pem_var (pv 2)) (nomark _))))))) (pssm_one (psm_ret pem_bl)) pssm_nil)
    (pssm_cons (psm_if (PWm.pt (pwm_or (ptm_not (ptm_cmp (op_own (ok_Pattern___eq T) (hr.mono (by decide)) T.q_Pattern.1 T.q_Pattern.2 T.b_Pattern___eq passL) (sim_own T.nf_Pattern) (pem_binO (takes_of rfl rfl rfl rfl) rfl (ok_Pattern___and T) (hr.mono (by decide)) T.sf_Pattern T.qb_Pattern___and.1 T.qb_Pattern___and.2 T.b_Pattern___and (pem_var (pv 2)) (pem_var (pv 2))) (pem_var (pv 2)) (nomark _))) (pwm_or (ptm_not (ptm_cmp (op_own (ok_Pattern___eq T) (hr.mono (by decide)) T.q_Pattern.1 T.q_Pattern.2 T.b_Pattern___eq passL) (sim_own T.nf_Pattern) (pem_binO (takes_of rfl rfl rfl rfl) rfl (ok_Pattern___or T) (hr.mono (by decide)) T.sf_Pattern T.qb_Pattern___or.1 T.qb_Pattern___or.2 T.b_Pattern___or (pem_var (pv 2)) (pem_var (pv 5))) (pem_var (pv 2)) (nomark _))) (pwm_or1 (ptm_not (ptm_cmp (op_own (ok_Pattern___eq T) (hr.mono (by decide)) T.q_Pattern.1 T.q_Pattern.2 T.b_Pattern___eq passL) (sim_own T.nf_Pattern) (pem_binO (takes_of rfl rfl rfl rfl) rfl (ok_Pattern___and T) (hr.mono (by decide)) T.sf_Pattern T.qb_Pattern___and.1 T.qb_Pattern___and.2 T.b_Pattern___and (pem_var (pv 2)) (pem_var (pv 4))) (pem_var (pv 2)) (nomark _))))))) (pssm_one (psm_ret pem_bl)) pssm_nil)
    (pssm_cons (psm_if (PWm.pt (pwm_or (ptm_cmp (op_neD hr.units) sim_ne (pem_call (takes_of rfl rfl rfl rfl) (ok_u_law_finer T) (hr.mono (by decide)) rfl T.m_u_law_finer T.k_u_law_finer T.b_u_law_finer .nil (fun _ => .nil) rfl (pam_cons (pem_var (pv 0)) (pam_cons (pem_var (pv 1)) pam_nil))) (pem_cmp (op_own (ok_Pattern___eq T) (hr.mono (by decide)) T.q_Pattern.1 T.q_Pattern.2 T.b_Pattern___eq passL) (sim_own T.nf_Pattern) (pem_var (pv 4)) (pem_var (pv 3)) (nomark _)) (nomark _)) (pwm_or1 (ptm_cmp (op_neD hr.units) sim_ne (pem_call (takes_of rfl rfl rfl rfl) (ok_u_law_finer T) (hr.mono (by decide)) rfl T.m_u_law_finer T.k_u_law_finer T.b_u_law_finer .nil (fun _ => .nil) rfl (pam_cons (pem_var (pv 0)) (pam_cons (pem_var (pv 1)) pam_nil))) (pem_cmp (op_own (ok_Pattern___eq T) (hr.mono (by decide)) T.q_Pattern.1 T.q_Pattern.2 T.b_Pattern___eq passL) (sim_own T.nf_Pattern) (pem_var (pv 5)) (pem_var (pv 2)) (nomark _)) (nomark _))))) (pssm_one (psm_ret pem_bl)) pssm_nil)
    (pssm_one (psm_ret (pem_and (pem_cmp (op_eqD hr.units) sim_eq (pem_scope (pem_callTy call_list_of sim_list rfl T.z_list bt_list (pam_cons (pem_fld rfl T.o_Pattern_entries (pe_fld (pem_var (pv 2)) rfl)) pam_nil))) (pem_var (pv 0)) (nomark _)) (pem_one (pem_cmp (op_eqD hr.units) sim_eq (pem_scope (pem_callTy call_list_of sim_list rfl T.z_list bt_list (pam_cons (pem_fld rfl T.o_Pattern_entries (pe_fld (pem_var (pv 3)) rfl)) pam_nil))) (pem_var (pv 1)) (nomark _)))))))))))))
theorem sc_u_law_three_right : FnScope (["_law_one", "_law_other", "_law_third", "_law_first", "_law_second", "_law_last"] : List Str) (["_law_one", "_law_other", "_law_third"] : List Str) (defScope s_u_law_three_right) := ⟨rfl, rfl, rfl, by decide +kernel, rfl, by decide +kernel, by decide +kernel⟩
theorem ok_u_law_three_right (T : Txt K mg base a) : FnOk PW w K mg base (L2.CX PW w) 6 a.f_u_law_three_right a.d_u_law_three_right (["_law_one", "_law_other", "_law_third"] : List Str) (spOf (tb w K a) 3 m_u_law_three_right) :=
  fund_okm T.F_u_law_three_right sc_u_law_three_right fun cdv A outer s H E hr =>
    (pssm_cons (psm_par3 (i := 3) (j := 4) (l := 5) rfl sc_u_law_three_right.nd rfl rfl rfl (by decide) (by decide) (by decide) rfl rfl rfl (pam_cons (pem_scope (pem_make (takes_of rfl rfl rfl rfl) T.mk_Pattern (ok_Pattern___init T) (hr.mono (by decide)) rfl T.c_Pattern T.b_Pattern___init .nil (fun _ => .nil) (pam_cons (pem_var (pv 0)) pam_nil))) (pam_cons (pem_scope (pem_make (takes_of rfl rfl rfl rfl) T.mk_Pattern (ok_Pattern___init T) (hr.mono (by decide)) rfl T.c_Pattern T.b_Pattern___init .nil (fun _ => .nil) (pam_cons (pem_var (pv 1)) pam_nil))) (pam_cons (pem_scope (pem_make (takes_of rfl rfl rfl rfl) T.mk_Pattern (ok_Pattern___init T) (hr.mono (by decide)) rfl T.c_Pattern T.b_Pattern___init .nil (fun _ => .nil) (pam_cons (pem_var (pv 2)) pam_nil))) pam_nil))) rfl)
    (pssm_cons (psm_if (ptm_cmp (op_neD hr.units) sim_ne (pem_call (takes_of rfl rfl rfl rfl) (ok_is_finer T) (hr.mono (by decide)) rfl T.m_is_finer T.k_is_finer T.b_is_finer .nil (fun _ => .nil) rfl (pam_cons (pem_binO (takes_of rfl rfl rfl rfl) rfl (ok_Pattern___or T) (hr.mono (by decide)) T.sf_Pattern T.qb_Pattern___or.1 T.qb_Pattern___or.2 T.b_Pattern___or (pem_var (pv 3)) (pem_var (pv 4))) (pam_cons (pem_var (pv 5)) pam_nil))) (pem_and (pem_call (takes_of rfl rfl rfl rfl) (ok_u_law_finer T) (hr.mono (by decide)) rfl T.m_u_law_finer T.k_u_law_finer T.b_u_law_finer .nil (fun _ => .nil) rfl (pam_cons (pem_var (pv 0)) (pam_cons (pem_var (pv 2)) pam_nil))) (pem_one (pem_call (takes_of rfl rfl rfl rfl) (ok_u_law_finer T) (hr.mono (by decide)) rfl T.m_u_law_finer T.k_u_law_finer T.b_u_law_finer .nil (fun _ => .nil) rfl (pam_cons (pem_var (pv 1)) (pam_cons (pem_var (pv 2)) pam_nil))))) (nomark _)) (pssm_one (psm_ret pem_bl)) pssm_nil)
    (pssm_cons (psm_if (ptm_cmp (op_neD hr.units) sim_ne (pem_call (takes_of rfl rfl rfl rfl) (ok_is_finer T) (hr.mono (by decide)) rfl T.m_is_finer T.k_is_finer T.b_is_finer .nil (fun _ => .nil) rfl (pam_cons (pem_var (pv 5)) (pam_cons (pem_binO (takes_of rfl rfl rfl rfl) rfl (ok_Pattern___and T) (hr.mono (by decide)) T.sf_Pattern T.qb_Pattern___and.1 T.qb_Pattern___and.2 T.b_Pattern___and (pem_var (pv 3)) (pem_var (pv 4))) pam_nil))) (pem_and (pem_call (takes_of rfl rfl rfl rfl) (ok_u_law_finer T) (hr.mono (by decide)) rfl T.m_u_law_finer T.k_u_law_finer T.b_u_law_finer .nil (fun _ => .nil) rfl (pam_cons (pem_var (pv 2)) (pam_cons (pem_var (pv 0)) pam_nil))) (pem_one (pem_call (takes_of rfl rfl rfl rfl) (ok_u_law_finer T) (hr.mono (by decide)) rfl T.m_u_law_finer T.k_u_law_finer T.b_u_law_finer .nil (fun _ => .nil) rfl (pam_cons (pem_var (pv 2)) (pam_cons (pem_var (pv 1)) pam_nil))))) (nomark _)) (pssm_one (psm_ret pem_bl)) pssm_nil)
    (pssm_cons (psm_if (ptm_not (ptm_cmp (op_own (ok_Pattern___eq T) (hr.mono (by decide)) T.q_Pattern.1 T.q_Pattern.2 T.b_Pattern___eq passL) (sim_own T.nf_Pattern) (pem_binO (takes_of rfl rfl rfl rfl) rfl (ok_Pattern___or T) (hr.mono (by decide)) T.sf_Pattern T.qb_Pattern___or.1 T.qb_Pattern___or.2 T.b_Pattern___or (pem_binO (takes_of rfl rfl rfl rfl) rfl (ok_Pattern___or T) (hr.mono (by decide)) T.sf_Pattern T.qb_Pattern___or.1 T.qb_Pattern___or.2 T.b_Pattern___or (pem_var (pv 3)) (pem_var (pv 4))) (pem_var (pv 5))) (pem_binO (takes_of rfl rfl rfl rfl) rfl (ok_Pattern___or T) (hr.mono (by decide)) T.sf_Pattern T.qb_Pattern___or.1 T.qb_Pattern___or.2 T.b_Pattern___or (pem_var (pv 3)) (pem_binO (takes_of rfl rfl rfl rfl) rfl (ok_Pattern___or T) (hr.mono (by decide)) T.sf_Pattern T.qb_Pattern___or.1 T.qb_Pattern___or.2 T.b_Pattern___or (pem_var (pv 4)) (pem_var (pv 5)))) (nomark _))) (pssm_one (psm_ret pem_bl)) pssm_nil)
    (pssm_one (psm_ret (pem_cmp (op_own (ok_Pattern___eq T) (hr.mono (by decide)) T.q_Pattern.1 T.q_Pattern.2 T.b_Pattern___eq passL) (sim_own T.nf_Pattern) (pem_binO (takes_of rfl rfl rfl rfl) rfl (ok_Pattern___and T) (hr.mono (by decide)) T.sf_Pattern T.qb_Pattern___and.1 T.qb_Pattern___and.2 T.b_Pattern___and (pem_binO (takes_of rfl rfl rfl rfl) rfl (ok_Pattern___and T) (hr.mono (by decide)) T.sf_Pattern T.qb_Pattern___and.1 T.qb_Pattern___and.2 T.b_Pattern___and (pem_var (pv 3)) (pem_var (pv 4))) (pem_var (pv 5))) (pem_binO (takes_of rfl rfl rfl rfl) rfl (ok_Pattern___and T) (hr.mono (by decide)) T.sf_Pattern T.qb_Pattern___and.1 T.qb_Pattern___and.2 T.b_Pattern___and (pem_var (pv 3)) (pem_binO (takes_of rfl rfl rfl rfl) rfl (ok_Pattern___and T) (hr.mono (by decide)) T.sf_Pattern T.qb_Pattern___and.1 T.qb_Pattern___and.2 T.b_Pattern___and (pem_var (pv 4)) (pem_var (pv 5)))) (nomark _))))))))
theorem sc_law : FnScope (["_law_script", "_law_hand_here", "_law_mask_here", "_law_one", "_law_other", "_law_third", "_law_strange", "_law_turned", "_law_here"] : List Str) (["_law_script"] : List Str) (defScope s_law) := ⟨rfl, rfl, rfl, by decide +kernel, rfl, by decide +kernel, by decide +kernel⟩
theorem ok_law (T : Txt K mg base a) : FnOk PW w K mg base (L2.CX PW w) 9 a.f_law a.d_law (["_law_script"] : List Str) (spOf (tb w K a) 1 m_law) :=
  fund_okm T.F_law sc_law fun cdv A outer s H E hr =>
    (pssm_cons (psm_set (i := 1) sc_law.nd rfl (Or.inl rfl) (pem_call (takes_of rfl rfl rfl rfl) (ok_u_law_hand T) (hr.mono (by decide)) rfl T.m_u_law_hand T.k_u_law_hand T.b_u_law_hand .nil (fun _ => .nil) rfl (pam_cons (pem_var (pv 0)) pam_nil)))
    (pssm_cons (psm_set (i := 2) sc_law.nd rfl (Or.inl rfl) (pem_call (takes_of rfl rfl rfl rfl) (ok_u_law_mask T) (hr.mono (by decide)) rfl T.m_u_law_mask T.k_u_law_mask T.b_u_law_mask .nil (fun _ => .nil) rfl (pam_cons (pem_var (pv 1)) pam_nil)))
    (pssm_cons (psm_set (i := 3) sc_law.nd rfl (Or.inl rfl) (pem_call (takes_of rfl rfl rfl rfl) (ok_u_law_on T) (hr.mono (by decide)) rfl T.m_u_law_on T.k_u_law_on T.b_u_law_on .nil (fun _ => .nil) rfl (pam_cons (pem_var (pv 1)) (pam_cons (pem_var (pv 2)) pam_nil))))
    (pssm_cons (psm_set (i := 4) sc_law.nd rfl (Or.inl rfl) (pem_ifExp (ptm_cmp (op_eqD hr.units) sim_eq (pem_call (takes_of rfl rfl rfl rfl) (ok_u_law_draw T) (hr.mono (by decide)) rfl T.m_u_law_draw T.k_u_law_draw T.b_u_law_draw .nil (fun _ => .nil) rfl (pam_cons (pem_var (pv 1)) (pam_cons pem_int pam_nil))) pem_int (nomark _)) (pem_call (takes_of rfl rfl rfl rfl) (ok_u_law_near T) (hr.mono (by decide)) rfl T.m_u_law_near T.k_u_law_near T.b_u_law_near .nil (fun _ => .nil) rfl (pam_cons (pem_var (pv 1)) (pam_cons (pem_var (pv 3)) pam_nil))) (pem_call (takes_of rfl rfl rfl rfl) (ok_u_law_on T) (hr.mono (by decide)) rfl T.m_u_law_on T.k_u_law_on T.b_u_law_on .nil (fun _ => .nil) rfl (pam_cons (pem_var (pv 1)) (pam_cons (pem_var (pv 2)) pam_nil)))))
    (pssm_cons (psm_set (i := 5) sc_law.nd rfl (Or.inl rfl) (pem_call (takes_of rfl rfl rfl rfl) (ok_u_law_pick T) (hr.mono (by decide)) rfl T.m_u_law_pick T.k_u_law_pick T.b_u_law_pick .nil (fun _ => .nil) rfl (pam_cons (pem_var (pv 1)) (pam_cons (pem_scope (pem_lst (pam_cons (pem_call (takes_of rfl rfl rfl rfl) (ok_u_law_on T) (hr.mono (by decide)) rfl T.m_u_law_on T.k_u_law_on T.b_u_law_on .nil (fun _ => .nil) rfl (pam_cons (pem_var (pv 1)) (pam_cons (pem_var (pv 2)) pam_nil))) (pam_cons (pem_call (takes_of rfl rfl rfl rfl) (ok_u_law_near T) (hr.mono (by decide)) rfl T.m_u_law_near T.k_u_law_near T.b_u_law_near .nil (fun _ => .nil) rfl (pam_cons (pem_var (pv 1)) (pam_cons (pem_var (pv 4)) pam_nil))) (pam_cons (pem_call (takes_of rfl rfl rfl rfl) (ok_u_law_above T) (hr.mono (by decide)) rfl T.m_u_law_above T.k_u_law_above T.b_u_law_above .nil (fun _ => .nil) rfl (pam_cons (pem_var (pv 3)) (pam_cons (pem_var (pv 4)) pam_nil))) (pam_cons (pem_call (takes_of rfl rfl rfl rfl) (ok_u_law_beneath T) (hr.mono (by decide)) rfl T.m_u_law_beneath T.k_u_law_beneath T.b_u_law_beneath .nil (fun _ => .nil) rfl (pam_cons (pem_var (pv 3)) (pam_cons (pem_var (pv 4)) pam_nil))) pam_nil)))))) pam_nil))))
    (pssm_cons (psm_if (PWm.pt (pwm_or (ptm_not (ptm_tru rfl (pem_call (takes_of rfl rfl rfl rfl) (ok_u_law_pair_right T) (hr.mono (by decide)) rfl T.m_u_law_pair_right T.k_u_law_pair_right T.b_u_law_pair_right .nil (fun _ => .nil) rfl (pam_cons (pem_var (pv 3)) (pam_cons (pem_var (pv 4)) pam_nil))))) (pwm_or (ptm_not (ptm_tru rfl (pem_call (takes_of rfl rfl rfl rfl) (ok_u_law_pair_right T) (hr.mono (by decide)) rfl T.m_u_law_pair_right T.k_u_law_pair_right T.b_u_law_pair_right .nil (fun _ => .nil) rfl (pam_cons (pem_var (pv 4)) (pam_cons (pem_var (pv 5)) pam_nil))))) (pwm_or1 (ptm_not (ptm_tru rfl (pem_call (takes_of rfl rfl rfl rfl) (ok_u_law_pair_right T) (hr.mono (by decide)) rfl T.m_u_law_pair_right T.k_u_law_pair_right T.b_u_law_pair_right .nil (fun _ => .nil) rfl (pam_cons (pem_var (pv 5)) (pam_cons (pem_var (pv 3)) pam_nil))))))))) (pssm_one (psm_ret pem_bl)) pssm_nil)
    (pssm_cons (psm_if (PWm.pt (pwm_or (ptm_not (ptm_tru rfl (pem_call (takes_of rfl rfl rfl rfl) (ok_u_law_three_right T) (hr.mono (by decide)) rfl T.m_u_law_three_right T.k_u_law_three_right T.b_u_law_three_right .nil (fun _ => .nil) rfl (pam_cons (pem_var (pv 3)) (pam_cons (pem_var (pv 4)) (pam_cons (pem_var (pv 5)) pam_nil)))))) (pwm_or1 (ptm_not (ptm_tru rfl (pem_call (takes_of rfl rfl rfl rfl) (ok_u_law_three_right T) (hr.mono (by decide)) rfl T.m_u_law_three_right T.k_u_law_three_right T.b_u_law_three_right .nil (fun _ => .nil) rfl (pam_cons (pem_var (pv 5)) (pam_cons (pem_var (pv 4)) (pam_cons (pem_var (pv 3)) pam_nil))))))))) (pssm_one (psm_ret pem_bl)) pssm_nil)
    (pssm_cons (psm_set (i := 6) sc_law.nd rfl (Or.inl rfl) (pem_call (takes_of rfl rfl rfl rfl) (ok_u_law_on T) (hr.mono (by decide)) rfl T.m_u_law_on T.k_u_law_on T.b_u_law_on .nil (fun _ => .nil) rfl (pam_cons (pem_var (pv 1)) (pam_cons (pem_call (takes_of rfl rfl rfl rfl) (ok_u_law_mask T) (hr.mono (by decide)) rfl T.m_u_law_mask T.k_u_law_mask T.b_u_law_mask .nil (fun _ => .nil) rfl (pam_cons (pem_var (pv 1)) pam_nil)) pam_nil))))
    (pssm_cons (psm_setLc (own := [("_law_here", 8)]) scope_hm rfl sc_law.nd rfl rfl rfl (pim_seq rfl (pem_var (pv 2))) (show BlkOk (["_law_script", "_law_hand_here", "_law_mask_here", "_law_one", "_law_other", "_law_third", "_law_strange", "_law_turned", "_law_here"] : List Str) (defScope s_law) _ [("_law_here", 8)] from ⟨rfl, by decide +kernel, by decide +kernel, by decide +kernel, by decide +kernel⟩) (fun _ _ _ _ _ => (pg_name (i := 8) sc_law.nd rfl (Or.inl rfl))) (gr_name rfl) (gw_name (by decide)) (fun _ _ _ _ _ => (ptsm_nil (σ := ()))) (fun _ _ _ _ _ => (pem_not (pem_var (pv 8)))))
    (pssm_cons (psm_if (PWm.pt (pwm_or (ptm_not (ptm_tru rfl (pem_call (takes_of rfl rfl rfl rfl) (ok_u_law_unmatched_right T) (hr.mono (by decide)) rfl T.m_u_law_unmatched_right T.k_u_law_unmatched_right T.b_u_law_unmatched_right .nil (fun _ => .nil) rfl (pam_cons (pem_var (pv 3)) (pam_cons (pem_var (pv 6)) pam_nil))))) (pwm_or1 (ptm_not (ptm_tru rfl (pem_call (takes_of rfl rfl rfl rfl) (ok_u_law_unmatched_right T) (hr.mono (by decide)) rfl T.m_u_law_unmatched_right T.k_u_law_unmatched_right T.b_u_law_unmatched_right .nil (fun _ => .nil) rfl (pam_cons (pem_var (pv 4)) (pam_cons (pem_call (takes_of rfl rfl rfl rfl) (ok_u_law_on T) (hr.mono (by decide)) rfl T.m_u_law_on T.k_u_law_on T.b_u_law_on .nil (fun _ => .nil) rfl (pam_cons (pem_var (pv 1)) (pam_cons (pem_var (pv 7)) pam_nil))) pam_nil)))))))) (pssm_one (psm_ret pem_bl)) pssm_nil)
    (pssm_one (psm_ret (pem_and (pem_call (takes_of rfl rfl rfl rfl) (ok_u_law_unmatched_right T) (hr.mono (by decide)) rfl T.m_u_law_unmatched_right T.k_u_law_unmatched_right T.b_u_law_unmatched_right .nil (fun _ => .nil) rfl (pam_cons (pem_var (pv 3)) (pam_cons (pem_var (pv 4)) pam_nil))) (pem_one (pem_call (takes_of rfl rfl rfl rfl) (ok_u_law_pair_right T) (hr.mono (by decide)) rfl T.m_u_law_pair_right T.k_u_law_pair_right T.b_u_law_pair_right .nil (fun _ => .nil) rfl (pam_cons (pem_var (pv 3)) (pam_cons (pem_var (pv 4)) pam_nil)))))))))))))))))
end
end G

namespace NK
open PySem L2 TL
theorem seq_n {a b : MS} {env env1 : NK.Env} {S S1 : Sto} {r : SO} (h1 : a env S = SO.next env1 S1) (h2 : b env1 S1 = r) : sSeq a b env S = r := by
  show SO.bind _ _ = _
  rw [h1]
  exact h2
theorem seq_r {a b : MS} {env : NK.Env} {S S1 : Sto} {u : U} (h1 : a env S = SO.ret u S1) : sSeq a b env S = SO.ret u S1 := by
  show SO.bind _ _ = _
  rw [h1]
  rfl
theorem asg_ok {m : ME} {i : Nat} {env : NK.Env} {S S1 : Sto} {u : U} (h : m env S = Out.ok u S1) : sAsg m (gN i) env S = SO.next (env.set i (some u)) S1 := by
  unfold sAsg
  rw [h]
  rfl
theorem ret_ok {m : ME} {env : NK.Env} {S S1 : Sto} {u : U} (h : m env S = Out.ok u S1) : sRet m env S = SO.ret u S1 := by
  unfold sRet
  rw [h]
  rfl
theorem ne_same {u : U} {S : Sto} (h : okU 12 u = true) : fNe u u S = Out.ok (U.bl false) S := by
  rw [fNe_ok h h, eqvU_same h]
  rfl
theorem eq_same {u : U} {S : Sto} (h : okU 12 u = true) : fEq u u S = Out.ok (U.bl true) S := by
  rw [fEq_ok h h, eqvU_same h]
def eqvL (us ws : List U) : Bool := PyData.eqvAll (datL us) (datL ws)
theorem eqv_tup {us ws : List U} : eqvU (.tup us) (.tup ws) = eqvL us ws := by simp [eqvU, eqvL, datU, PyData.eqv]
theorem eqvL_nil : eqvL [] [] = true := by simp [eqvL, datL, PyData.eqvAll]
theorem eqvL_nc {u : U} {us : List U} : eqvL [] (u :: us) = false := by simp [eqvL, datL, PyData.eqvAll]
theorem eqvL_cn {u : U} {us : List U} : eqvL (u :: us) [] = false := by simp [eqvL, datL, PyData.eqvAll]
theorem eqvL_cons {u w : U} {us ws : List U} : eqvL (u :: us) (w :: ws) = (eqvU u w && eqvL us ws) := by simp [eqvU, eqvL, datL, PyData.eqvAll]
theorem eqvL_map {α : Type} [DecidableEq α] {f : α → U} : ∀ {as bs : List α}, (∀ a ∈ as, ∀ b ∈ bs, eqvU (f a) (f b) = decide (a = b)) → eqvL (as.map f) (bs.map f) = decide (as = bs)
  | [], [], _ => eqvL_nil
  | [], b :: bs, _ => by rw [List.map_nil, List.map_cons, eqvL_nc]; rfl
  | a :: as, [], _ => by rw [List.map_nil, List.map_cons, eqvL_cn]; rfl
  | a :: as, b :: bs, h => by
    rw [List.map_cons, List.map_cons, eqvL_cons, h a List.mem_cons_self b List.mem_cons_self, eqvL_map fun x hx y hy => h x (List.mem_cons_of_mem _ hx) y (List.mem_cons_of_mem _ hy)]
    by_cases e : a = b
    · subst e
      by_cases e2 : as = bs
      · subst e2; simp
      · simp [e2]
    · simp [e]
def num (i : Int) : Str := Str.ofString (toString i)
section
variable {S : Sto} {a b c d e : U} {l : List U}
end
section
variable {k n : Nat} {mf : MF} {ma mk : MA} {env : NK.Env} {S : Sto} {us ws ks : List U} {x : Ex} {S2 : Sto} {gU : List U → List U → List U}
theorem mk_ok (ha : ma env S = Out.ok us S) (hn : us.length + 1 = n) (hm : mf (.loc S.length :: us) (S ++ [.ins k []]) = Out.ok .non (S ++ [.ins k ws])) (hw : U.underL 0 ws = true) : eScope (eMake k n mf [] ma) env S = Out.ok (.ins k ws) S := by
  have e : eMake k n mf [] ma env S = Out.ok (.loc S.length) (S ++ [.ins k ws]) := by
    unfold eMake
    rw [ha, ob, List.append_nil, if_pos (by rw [List.length_cons]; exact hn), hm, ob]
  unfold eScope
  rw [e]
  exact sc_obj (j := 0) [.ins k ws] (Old.refl S) rfl hw
theorem put_s {j : Nat} {us : List U} {w : U} (h : j = us.length) : putFld k j (U.loc S.length) w (S ++ [Ob.ins k us]) = some (S ++ [Ob.ins k (us ++ [w])]) := put2 h
end
end NK

namespace NK
open PySem L2 TL
section
variable {α : Type} {g : Sto → Prop} {i : Nat} {mt : MT} {me : ME} {mi : MI} {env : Env} {st : Sto}
theorem compM_map (f r : α → U) (p : α → Bool) (hg : ∀ acc, g (st ++ [.lst acc])) : ∀ (as : List α) (acc : List U), acc.length + as.length ≤ 16777216 →
    (∀ a ∈ as, ∀ acc, mt (env.set i (some (f a))) (st ++ [.lst acc]) = .ok (p a) (st ++ [.lst acc]) ∧ (p a = true → me (env.set i (some (f a))) (st ++ [.lst acc]) = .ok (r a) (st ++ [.lst acc]))) →
    compM g (gN i) mt me st.length (wipeE env [i]) (as.map f) (st ++ [.lst acc]) = .ok (.loc st.length) (st ++ [.lst (acc ++ (as.filter p).map r)])
  | [], acc, _, _ => by
    show compM g (gN i) mt me st.length (wipeE env [i]) [] (st ++ [.lst acc]) = _
    unfold compM
    rw [if_pos (hg acc)]
    simp
  | a :: as, acc, hz, h => by
    have ih := compM_map f r p hg as
    obtain ⟨h1, h2⟩ := h a List.mem_cons_self acc
    have h' := fun w hw => h w (List.mem_cons_of_mem _ hw)
    rw [List.length_cons] at hz
    rw [List.map_cons]
    unfold compM
    rw [if_pos (hg acc)]
    show (match mt ((wipeE env [i]).set i (some (f a))) (st ++ [.lst acc]) with | .ok true st1 => _ | .ok false st1 => _ | _ => Out.bad) = _
    rw [wipe1, h1]
    cases hp : p a with
    | false =>
      dsimp only
      rw [ih acc (by omega) h', List.filter_cons_of_neg (by simp [hp])]
    | true =>
      dsimp only
      rw [h2 hp]
      dsimp only
      have e : (st ++ [Ob.lst acc])[st.length]? = some (.lst acc) := by simp
      rw [e]
      dsimp only
      rw [if_pos (by omega)]
      have e2 : (st ++ [Ob.lst acc]).set st.length (.lst (acc ++ [r a])) = st ++ [.lst (acc ++ [r a])] := by simp
      rw [e2, ih (acc ++ [r a]) (by simp; omega) h', List.filter_cons_of_pos hp]
      simp [List.append_assoc]
theorem comp_mapL (f r : α → U) (p : α → Bool) {as : List α} (hm : mi env st = .ok ⟨as.map f, g⟩ st) (hg : ∀ acc, g (st ++ [.lst acc])) (hz : as.length ≤ 16777216)
    (h : ∀ a ∈ as, ∀ acc, mt (env.set i (some (f a))) (st ++ [.lst acc]) = .ok (p a) (st ++ [.lst acc]) ∧ (p a = true → me (env.set i (some (f a))) (st ++ [.lst acc]) = .ok (r a) (st ++ [.lst acc]))) :
    eComp mi (gN i) mt me [i] env st = .ok (.loc st.length) (st ++ [.lst ((as.filter p).map r)]) := by
  unfold eComp
  rw [hm, ob, compM_map f r p hg as [] (by simpa using hz) h, List.nil_append]
theorem comp_mapS (f r : α → U) (p : α → Bool) {as : List α} (hm : mi env st = .ok ⟨as.map f, g⟩ st) (hg : ∀ acc, g (st ++ [.lst acc])) (hz : as.length ≤ 16777216)
    (h : ∀ a ∈ as, ∀ acc, mt (env.set i (some (f a))) (st ++ [.lst acc]) = .ok (p a) (st ++ [.lst acc]) ∧ (p a = true → me (env.set i (some (f a))) (st ++ [.lst acc]) = .ok (r a) (st ++ [.lst acc])))
    (hu : ∀ a ∈ as, p a = true → (r a).under 0 = true) : eScope (eComp mi (gN i) mt me [i]) env st = .ok (.lst ((as.filter p).map r)) st := by
  unfold eScope
  rw [comp_mapL f r p hm hg hz h]
  refine sc_loc (j := 0) [.lst _] (Old.refl st) rfl (underL_all fun u hu' => ?_)
  obtain ⟨a, ha, rfl⟩ := List.mem_map.mp hu'
  obtain ⟨h1, h2⟩ := List.mem_filter.mp ha
  exact hu a h1 h2
theorem filter_true (as : List α) : as.filter (fun _ => true) = as := List.filter_eq_self.mpr fun _ _ => rfl
theorem comp_all (f r : α → U) {as : List α} (hm : mi env st = .ok ⟨as.map f, g⟩ st) (hg : ∀ acc, g (st ++ [.lst acc])) (hz : as.length ≤ 16777216)
    (h : ∀ a ∈ as, ∀ acc, me (env.set i (some (f a))) (st ++ [.lst acc]) = .ok (r a) (st ++ [.lst acc])) (hu : ∀ a ∈ as, (r a).under 0 = true) : eScope (eComp mi (gN i) NK.tYes me [i]) env st = .ok (.lst (as.map r)) st := by
  have e := comp_mapS (mt := NK.tYes) f r (fun _ => true) hm hg hz (fun a ha acc => ⟨rfl, fun _ => h a ha acc⟩) fun a ha _ => hu a ha
  rw [filter_true] at e
  exact e
end
structure Lq (u : U) (S : Sto) (us : List U) : Prop where
  len : fLen [u] S = Out.ok (U.int (us.length : Nat)) S
  ix : ∀ (i : Nat) x, us[i]? = some x → fIx u (U.int (i : Int)) S = Out.ok x S
  it : items u S = some us
end NK

set_option maxHeartbeats 2000000
namespace G
open PySem L2 NK
theorem mix_ok (n t : Int) (st : Sto) : ∃ k, m_u_law_mix [.int n, .int t] st = .ok (.int k) st := by
  have h1 : ∀ x : Int, 0 ≤ x % 2147483647 ∧ x % 2147483647 < 2147483647 := fun x => ⟨Int.emod_nonneg _ (by decide), Int.emod_lt_of_pos _ (by decide)⟩
  have h2 : ∀ x : Int, 0 ≤ x % 2147483399 ∧ x % 2147483399 < 2147483399 := fun x => ⟨Int.emod_nonneg _ (by decide), Int.emod_lt_of_pos _ (by decide)⟩
  suffices h : ∃ k, b_u_law_mix [some (.int n), some (.int t), none, none] st = .ret (.int k) st from let ⟨k, e⟩ := h; ⟨k, fs_same rfl e rfl⟩
  unfold b_u_law_mix
  simp (maxDischargeDepth := 8) -implicitDefEqProofs only [sSeq, sIf, sAsg, sRet, sRetN, sDrop, sSetIx, sNext, sCont, sBrk, NK.sFld, NK.sDPut, NK.tAnd, NK.tOr, NK.tNot, NK.tTru, NK.tB, eOp, eUn, eCB, eIf, eAnd, eOr, eNot, eVar, eC, aCons, aNil, eTup, eChain, eMeth, eBM, eFld, eCall, eIsi, sPar, sPar3, eDInT, eDGetT, sDPutT, keyT2, keyU, gN, ob, xb, NK.os, NK.xs, nb, rb, kb, eb, List.getElem?_cons_zero, List.getElem?_cons_succ, List.set_cons_zero, List.set_cons_succ, ↓reduceIte, Bool.false_eq_true, Bool.not_true, Bool.not_false, fAdd_i, fSub_i, fNeg_i, fInt_i, fAbs_i, fLt_i, fLe_i, fGt_i, fGe_i, fMin_i, fIsN_n, fNotN_n, fLen_lst, fLen_tup, fTuple_lst, fTuple_tup, non_non, non_bl, non_int, non_str, non_tup, non_lst, non_ins, non_loc, truth_bl, truth_non, truth_int, truth_tup, truth_lst, fMod_i, fDiv_i, fMul_i, Int.reduceLT, Int.reduceNeg, Int.reducePow, Int.reduceLE, Nat.reduceLeDiff, or_true, true_or, and_self, and_true, true_and, List.append_nil, List.length_cons, List.length_nil, Nat.reduceAdd, Nat.zero_add, fEq_ii, fNe_ii, beq_self_eq_true, decide_true, decide_false, Int.reduceBEq, Int.reduceBNe, String.reduceBEq, beq_lit, Bool.true_and, Bool.false_and, Bool.and_true, Bool.and_false, Bool.true_or, Bool.or_true, Bool.false_or, Bool.or_false, Bool.or_self, Bool.bne_true, Bool.bne_false, bne_self_eq_false, Option.isSome_some, Option.isSome_none]
  generalize he : (n * 48271 + t * 16807 + 11) % 2147483647 = e
  have b1 := h1 (n * 48271 + t * 16807 + 11)
  rw [he] at b1
  have c1 : -18446744073709551616 < e ∧ e < 18446744073709551616 := ⟨by omega, by omega⟩
  simp (maxDischargeDepth := 8) -implicitDefEqProofs only [sSeq, sIf, sAsg, sRet, sRetN, sDrop, sSetIx, sNext, sCont, sBrk, NK.sFld, NK.sDPut, NK.tAnd, NK.tOr, NK.tNot, NK.tTru, NK.tB, eOp, eUn, eCB, eIf, eAnd, eOr, eNot, eVar, eC, aCons, aNil, eTup, eChain, eMeth, eBM, eFld, eCall, eIsi, sPar, sPar3, eDInT, eDGetT, sDPutT, keyT2, keyU, gN, ob, xb, NK.os, NK.xs, nb, rb, kb, eb, List.getElem?_cons_zero, List.getElem?_cons_succ, List.set_cons_zero, List.set_cons_succ, ↓reduceIte, Bool.false_eq_true, Bool.not_true, Bool.not_false, fAdd_i, fSub_i, fNeg_i, fInt_i, fAbs_i, fLt_i, fLe_i, fGt_i, fGe_i, fMin_i, fIsN_n, fNotN_n, fLen_lst, fLen_tup, fTuple_lst, fTuple_tup, non_non, non_bl, non_int, non_str, non_tup, non_lst, non_ins, non_loc, truth_bl, truth_non, truth_int, truth_tup, truth_lst, fMod_i, fDiv_i, fMul_i, Int.reduceLT, Int.reduceNeg, Int.reducePow, Int.reduceLE, Nat.reduceLeDiff, or_true, true_or, and_self, and_true, true_and, List.append_nil, List.length_cons, List.length_nil, Nat.reduceAdd, Nat.zero_add, fEq_ii, fNe_ii, beq_self_eq_true, decide_true, decide_false, Int.reduceBEq, Int.reduceBNe, String.reduceBEq, beq_lit, Bool.true_and, Bool.false_and, Bool.and_true, Bool.and_false, Bool.true_or, Bool.or_true, Bool.false_or, Bool.or_false, Bool.or_self, Bool.bne_true, Bool.bne_false, bne_self_eq_false, Option.isSome_some, Option.isSome_none, c1]
  generalize hf : (e * e + e / 127 * 40692 + t * 69621) % 2147483399 = f
  have b2 := h2 (e * e + e / 127 * 40692 + t * 69621)
  rw [hf] at b2
  have c2 : -18446744073709551616 < f ∧ f < 18446744073709551616 := ⟨by omega, by omega⟩
  simp (maxDischargeDepth := 8) -implicitDefEqProofs only [sSeq, sIf, sAsg, sRet, sRetN, sDrop, sSetIx, sNext, sCont, sBrk, NK.sFld, NK.sDPut, NK.tAnd, NK.tOr, NK.tNot, NK.tTru, NK.tB, eOp, eUn, eCB, eIf, eAnd, eOr, eNot, eVar, eC, aCons, aNil, eTup, eChain, eMeth, eBM, eFld, eCall, eIsi, sPar, sPar3, eDInT, eDGetT, sDPutT, keyT2, keyU, gN, ob, xb, NK.os, NK.xs, nb, rb, kb, eb, List.getElem?_cons_zero, List.getElem?_cons_succ, List.set_cons_zero, List.set_cons_succ, ↓reduceIte, Bool.false_eq_true, Bool.not_true, Bool.not_false, fAdd_i, fSub_i, fNeg_i, fInt_i, fAbs_i, fLt_i, fLe_i, fGt_i, fGe_i, fMin_i, fIsN_n, fNotN_n, fLen_lst, fLen_tup, fTuple_lst, fTuple_tup, non_non, non_bl, non_int, non_str, non_tup, non_lst, non_ins, non_loc, truth_bl, truth_non, truth_int, truth_tup, truth_lst, fMod_i, fDiv_i, fMul_i, Int.reduceLT, Int.reduceNeg, Int.reducePow, Int.reduceLE, Nat.reduceLeDiff, or_true, true_or, and_self, and_true, true_and, List.append_nil, List.length_cons, List.length_nil, Nat.reduceAdd, Nat.zero_add, fEq_ii, fNe_ii, beq_self_eq_true, decide_true, decide_false, Int.reduceBEq, Int.reduceBNe, String.reduceBEq, beq_lit, Bool.true_and, Bool.false_and, Bool.and_true, Bool.and_false, Bool.true_or, Bool.or_true, Bool.false_or, Bool.or_false, Bool.or_self, Bool.bne_true, Bool.bne_false, bne_self_eq_false, Option.isSome_some, Option.isSome_none, c2]
  exact ⟨_, rfl⟩

def hob (cs : List Int) (i r t : Int) : Ob := .lst [.lst (cs.map U.int), .int i, .int r, .int t]
def HOb (o : Ob) : Prop := ∃ cs i r t, o = hob cs i r t ∧ 0 ≤ i ∧ 0 ≤ r
theorem ints_under : ∀ cs : List Int, U.underL 0 (cs.map U.int) = true
  | [] => rfl
  | c :: cs => by
    show U.underL 0 (U.int c :: cs.map U.int) = true
    unfold U.underL
    rw [ints_under cs]
    rfl
theorem HOb.under {o : Ob} (h : HOb o) : o.under 0 = true := by
  obtain ⟨cs, i, r, t, rfl, _, _⟩ := h
  show U.underL 0 [.lst (cs.map U.int), .int i, .int r, .int t] = true
  simp [U.underL, U.under, ints_under cs]
section
variable {cs : List Int} {i r t : Int} {st : Sto}
theorem ix0 : fIx (.loc 0) (.int 0) (hob cs i r t :: st) = .ok (.lst (cs.map U.int)) (hob cs i r t :: st) := rfl
theorem ix1 : fIx (.loc 0) (.int 1) (hob cs i r t :: st) = .ok (.int i) (hob cs i r t :: st) := rfl
theorem ix2 : fIx (.loc 0) (.int 2) (hob cs i r t :: st) = .ok (.int r) (hob cs i r t :: st) := rfl
theorem ix3 : fIx (.loc 0) (.int 3) (hob cs i r t :: st) = .ok (.int t) (hob cs i r t :: st) := rfl
theorem set1 {x : Int} : setIx (.loc 0) (.int 1) (.int x) (hob cs i r t :: st) = some (hob cs x r t :: st) := rfl
theorem set2 {x : Int} : setIx (.loc 0) (.int 2) (.int x) (hob cs i r t :: st) = some (hob cs i x t :: st) := rfl
theorem set3 {x : Int} : setIx (.loc 0) (.int 3) (.int x) (hob cs i r t :: st) = some (hob cs i r x :: st) := rfl
theorem cell_at (h0 : 0 ≤ i) (h1 : i < cs.length) : ∃ c : Int, fIx (.lst (cs.map U.int)) (.int i) st = .ok (.int c) st := by
  obtain ⟨k, rfl⟩ := Int.eq_ofNat_of_zero_le h0
  have hk : k < cs.length := by omega
  refine ⟨cs[k], fIx_lst ?_⟩
  rw [NK.atI_nat]
  simp [hk]
end
theorem draw_ok {h : Ob} {st : Sto} {m : Int} (H : HOb h) (hm : 0 < m) (hm2 : m < 1000000000000000000000000000000000000000000000000000000000000) : ∃ d h', HOb h' ∧ 0 ≤ d ∧ d < m ∧ m_u_law_draw [.loc 0, .int m] (h :: st) = .ok (.int d) (h' :: st) := by
  obtain ⟨cs, i, r, t, rfl, hi, hr⟩ := H
  have fin : ∀ {d : Int} {o : Ob}, HOb o → b_u_law_draw [some (.loc 0), some (.int m), none, none] (hob cs i r t :: st) = .ret (.int (d % m)) (o :: st) → ∃ d h', HOb h' ∧ 0 ≤ d ∧ d < m ∧ m_u_law_draw [.loc 0, .int m] (hob cs i r t :: st) = .ok (.int d) (h' :: st) := fun {d o} ho e =>
    ⟨d % m, o, ho, Int.emod_nonneg _ (by omega), Int.emod_lt_of_pos _ hm, fs_old rfl e (Old.hand ho.under) rfl⟩
  have hlen : ((cs.map U.int).length : Int) = cs.length := by simp
  -- the second half: r is above 0
  have big : ∀ (i r : Int) (e2 e3 : Option U), 0 ≤ i → 0 < r → (sSeq (sIf (NK.tB (eOp fGt (eOp fIx (eVar 0) (eC (.int 2))) (eC (.int 0)))) (sSeq (sAsg (eOp fIx (eVar 0) (eC (.int 2))) (gN 3))
    (sSeq (sSetIx (eVar 0) (eC (.int 2)) (eOp fDiv (eVar 3) (eVar 1)))
    (sRet (eOp fMod (eCB fInt (aCons (eVar 3) aNil)) (eVar 1))))) sNext)
    (sSeq (sSetIx (eVar 0) (eC (.int 3)) (eOp fMod (eCB fInt (aCons (eOp fAdd (eOp fIx (eVar 0) (eC (.int 3))) (eC (.int 1))) aNil)) (eC (.int 2147483629))))
    (sRet (eOp fMod (eCB fInt (aCons (eCall 2 m_u_law_mix [] (aCons (eOp fIx (eVar 0) (eC (.int 3))) (aCons (eOp fIx (eVar 0) (eC (.int 1))) aNil))) aNil)) (eVar 1))))) [some (.loc 0), some (.int m), e2, e3] (hob cs i r t :: st) = .ret (.int (r % m)) (hob cs i (r / m) t :: st) := by
    intro i r e2 e3 h0 h1
    simp (maxDischargeDepth := 8) -implicitDefEqProofs only [sSeq, sIf, sAsg, sRet, sRetN, sDrop, sSetIx, sNext, sCont, sBrk, NK.sFld, NK.sDPut, NK.tAnd, NK.tOr, NK.tNot, NK.tTru, NK.tB, eOp, eUn, eCB, eIf, eAnd, eOr, eNot, eVar, eC, aCons, aNil, eTup, eChain, eMeth, eBM, eFld, eCall, eIsi, sPar, sPar3, eDInT, eDGetT, sDPutT, keyT2, keyU, gN, ob, xb, NK.os, NK.xs, nb, rb, kb, eb, List.getElem?_cons_zero, List.getElem?_cons_succ, List.set_cons_zero, List.set_cons_succ, ↓reduceIte, Bool.false_eq_true, Bool.not_true, Bool.not_false, fAdd_i, fSub_i, fNeg_i, fInt_i, fAbs_i, fLt_i, fLe_i, fGt_i, fGe_i, fMin_i, fIsN_n, fNotN_n, fLen_lst, fLen_tup, fTuple_lst, fTuple_tup, non_non, non_bl, non_int, non_str, non_tup, non_lst, non_ins, non_loc, truth_bl, truth_non, truth_int, truth_tup, truth_lst, fMod_i, fDiv_i, fMul_i, Int.reduceLT, Int.reduceNeg, Int.reducePow, Int.reduceLE, Nat.reduceLeDiff, or_true, true_or, and_self, and_true, true_and, List.append_nil, List.length_cons, List.length_nil, Nat.reduceAdd, Nat.zero_add, fEq_ii, fNe_ii, beq_self_eq_true, decide_true, decide_false, Int.reduceBEq, Int.reduceBNe, String.reduceBEq, beq_lit, Bool.true_and, Bool.false_and, Bool.and_true, Bool.and_false, Bool.true_or, Bool.or_true, Bool.false_or, Bool.or_false, Bool.or_self, Bool.bne_true, Bool.bne_false, bne_self_eq_false, Option.isSome_some, Option.isSome_none, hm, hm2, ix2, decide_eq_true h1, set2]
  by_cases hr0 : r = 0
  · subst hr0
    by_cases hl : i < cs.length
    · obtain ⟨c, hc⟩ := cell_at (st := hob cs i 0 t :: st) hi hl
      by_cases hb : c < 1000000000000000000
      · obtain ⟨k, hk⟩ := mix_ok (c % 2147483647) (i + 1) (hob cs (i + 1) 0 t :: st)
        refine fin (d := k) (o := hob cs (i + 1) 0 t) ⟨_, _, _, _, rfl, by omega, by omega⟩ ?_
        unfold b_u_law_draw
        simp (maxDischargeDepth := 8) -implicitDefEqProofs only [sSeq, sIf, sAsg, sRet, sRetN, sDrop, sSetIx, sNext, sCont, sBrk, NK.sFld, NK.sDPut, NK.tAnd, NK.tOr, NK.tNot, NK.tTru, NK.tB, eOp, eUn, eCB, eIf, eAnd, eOr, eNot, eVar, eC, aCons, aNil, eTup, eChain, eMeth, eBM, eFld, eCall, eIsi, sPar, sPar3, eDInT, eDGetT, sDPutT, keyT2, keyU, gN, ob, xb, NK.os, NK.xs, nb, rb, kb, eb, List.getElem?_cons_zero, List.getElem?_cons_succ, List.set_cons_zero, List.set_cons_succ, ↓reduceIte, Bool.false_eq_true, Bool.not_true, Bool.not_false, fAdd_i, fSub_i, fNeg_i, fInt_i, fAbs_i, fLt_i, fLe_i, fGt_i, fGe_i, fMin_i, fIsN_n, fNotN_n, fLen_lst, fLen_tup, fTuple_lst, fTuple_tup, non_non, non_bl, non_int, non_str, non_tup, non_lst, non_ins, non_loc, truth_bl, truth_non, truth_int, truth_tup, truth_lst, fMod_i, fDiv_i, fMul_i, Int.reduceLT, Int.reduceNeg, Int.reducePow, Int.reduceLE, Nat.reduceLeDiff, or_true, true_or, and_self, and_true, true_and, List.append_nil, List.length_cons, List.length_nil, Nat.reduceAdd, Nat.zero_add, fEq_ii, fNe_ii, beq_self_eq_true, decide_true, decide_false, Int.reduceBEq, Int.reduceBNe, String.reduceBEq, beq_lit, Bool.true_and, Bool.false_and, Bool.and_true, Bool.and_false, Bool.true_or, Bool.or_true, Bool.false_or, Bool.or_false, Bool.or_self, Bool.bne_true, Bool.bne_false, bne_self_eq_false, Option.isSome_some, Option.isSome_none, hm, hm2, ix0, ix1, ix2, fEq_ii, beq_self_eq_true, hlen, decide_eq_true hl, hc, set1, pow18, decide_eq_true hb, hk]
      · refine fin (d := c) (o := hob cs (i + 1) (c / m) t) ⟨_, _, _, _, rfl, by omega, Int.ediv_nonneg (by omega) (by omega)⟩ ?_
        have hb2 : decide (c < 1000000000000000000) = false := decide_eq_false hb
        have bg := big (i + 1) c (some (.int c)) none (by omega) (by omega)
        unfold b_u_law_draw
        show SO.bind _ _ = _
        rw [show (sIf (NK.tAnd (NK.tB (eOp fEq (eOp fIx (eVar 0) (eC (.int 2))) (eC (.int 0)))) (NK.tB (eOp fLt (eOp fIx (eVar 0) (eC (.int 1))) (eCB fLen (aCons (eOp fIx (eVar 0) (eC (.int 0))) aNil))))) (sSeq (sAsg (eOp fIx (eOp fIx (eVar 0) (eC (.int 0))) (eOp fIx (eVar 0) (eC (.int 1)))) (gN 2))
    (sSeq (sSetIx (eVar 0) (eC (.int 1)) (eOp fAdd (eOp fIx (eVar 0) (eC (.int 1))) (eC (.int 1))))
    (sSeq (sIf (NK.tB (eOp fLt (eVar 2) (eOp fPow (eC (.int 10)) (eC (.int 18))))) (sRet (eOp fMod (eCB fInt (aCons (eCall 2 m_u_law_mix [] (aCons (eOp fMod (eCB fInt (aCons (eVar 2) aNil)) (eC (.int 2147483647))) (aCons (eOp fIx (eVar 0) (eC (.int 1))) aNil))) aNil)) (eVar 1))) sNext)
    (sSetIx (eVar 0) (eC (.int 2)) (eVar 2))))) sNext) [some (.loc 0), some (.int m), none, none] (hob cs i 0 t :: st) = .next [some (.loc 0), some (.int m), some (.int c), none] (hob cs (i + 1) c t :: st) from by
          simp (maxDischargeDepth := 8) -implicitDefEqProofs only [sSeq, sIf, sAsg, sRet, sRetN, sDrop, sSetIx, sNext, sCont, sBrk, NK.sFld, NK.sDPut, NK.tAnd, NK.tOr, NK.tNot, NK.tTru, NK.tB, eOp, eUn, eCB, eIf, eAnd, eOr, eNot, eVar, eC, aCons, aNil, eTup, eChain, eMeth, eBM, eFld, eCall, eIsi, sPar, sPar3, eDInT, eDGetT, sDPutT, keyT2, keyU, gN, ob, xb, NK.os, NK.xs, nb, rb, kb, eb, List.getElem?_cons_zero, List.getElem?_cons_succ, List.set_cons_zero, List.set_cons_succ, ↓reduceIte, Bool.false_eq_true, Bool.not_true, Bool.not_false, fAdd_i, fSub_i, fNeg_i, fInt_i, fAbs_i, fLt_i, fLe_i, fGt_i, fGe_i, fMin_i, fIsN_n, fNotN_n, fLen_lst, fLen_tup, fTuple_lst, fTuple_tup, non_non, non_bl, non_int, non_str, non_tup, non_lst, non_ins, non_loc, truth_bl, truth_non, truth_int, truth_tup, truth_lst, fMod_i, fDiv_i, fMul_i, Int.reduceLT, Int.reduceNeg, Int.reducePow, Int.reduceLE, Nat.reduceLeDiff, or_true, true_or, and_self, and_true, true_and, List.append_nil, List.length_cons, List.length_nil, Nat.reduceAdd, Nat.zero_add, fEq_ii, fNe_ii, beq_self_eq_true, decide_true, decide_false, Int.reduceBEq, Int.reduceBNe, String.reduceBEq, beq_lit, Bool.true_and, Bool.false_and, Bool.and_true, Bool.and_false, Bool.true_or, Bool.or_true, Bool.false_or, Bool.or_false, Bool.or_self, Bool.bne_true, Bool.bne_false, bne_self_eq_false, Option.isSome_some, Option.isSome_none, ix0, ix1, ix2, fEq_ii, beq_self_eq_true, hlen, decide_eq_true hl, hc, set1, pow18, hb2, set2]]
        exact bg
    · have hl2 : decide (i < (cs.length : Int)) = false := decide_eq_false hl
      obtain ⟨k, hk⟩ := mix_ok ((t + 1) % 2147483629) i (hob cs i 0 ((t + 1) % 2147483629) :: st)
      refine fin (d := k) (o := hob cs i 0 ((t + 1) % 2147483629)) ⟨_, _, _, _, rfl, hi, by omega⟩ ?_
      unfold b_u_law_draw
      simp (maxDischargeDepth := 8) -implicitDefEqProofs only [sSeq, sIf, sAsg, sRet, sRetN, sDrop, sSetIx, sNext, sCont, sBrk, NK.sFld, NK.sDPut, NK.tAnd, NK.tOr, NK.tNot, NK.tTru, NK.tB, eOp, eUn, eCB, eIf, eAnd, eOr, eNot, eVar, eC, aCons, aNil, eTup, eChain, eMeth, eBM, eFld, eCall, eIsi, sPar, sPar3, eDInT, eDGetT, sDPutT, keyT2, keyU, gN, ob, xb, NK.os, NK.xs, nb, rb, kb, eb, List.getElem?_cons_zero, List.getElem?_cons_succ, List.set_cons_zero, List.set_cons_succ, ↓reduceIte, Bool.false_eq_true, Bool.not_true, Bool.not_false, fAdd_i, fSub_i, fNeg_i, fInt_i, fAbs_i, fLt_i, fLe_i, fGt_i, fGe_i, fMin_i, fIsN_n, fNotN_n, fLen_lst, fLen_tup, fTuple_lst, fTuple_tup, non_non, non_bl, non_int, non_str, non_tup, non_lst, non_ins, non_loc, truth_bl, truth_non, truth_int, truth_tup, truth_lst, fMod_i, fDiv_i, fMul_i, Int.reduceLT, Int.reduceNeg, Int.reducePow, Int.reduceLE, Nat.reduceLeDiff, or_true, true_or, and_self, and_true, true_and, List.append_nil, List.length_cons, List.length_nil, Nat.reduceAdd, Nat.zero_add, fEq_ii, fNe_ii, beq_self_eq_true, decide_true, decide_false, Int.reduceBEq, Int.reduceBNe, String.reduceBEq, beq_lit, Bool.true_and, Bool.false_and, Bool.and_true, Bool.and_false, Bool.true_or, Bool.or_true, Bool.false_or, Bool.or_false, Bool.or_self, Bool.bne_true, Bool.bne_false, bne_self_eq_false, Option.isSome_some, Option.isSome_none, hm, hm2, ix0, ix1, ix2, ix3, fEq_ii, beq_self_eq_true, hlen, hl2, Int.lt_irrefl, decide_false, set3, hk]
  · have hr1 : 0 < r := by omega
    refine fin (d := r) (o := hob cs i (r / m) t) ⟨_, _, _, _, rfl, hi, Int.ediv_nonneg hr (by omega)⟩ ?_
    have bg := big i r none none hi hr1
    have hz : (r == 0) = false := by simpa using hr0
    unfold b_u_law_draw
    show SO.bind _ _ = _
    rw [show (sIf (NK.tAnd (NK.tB (eOp fEq (eOp fIx (eVar 0) (eC (.int 2))) (eC (.int 0)))) (NK.tB (eOp fLt (eOp fIx (eVar 0) (eC (.int 1))) (eCB fLen (aCons (eOp fIx (eVar 0) (eC (.int 0))) aNil))))) (sSeq (sAsg (eOp fIx (eOp fIx (eVar 0) (eC (.int 0))) (eOp fIx (eVar 0) (eC (.int 1)))) (gN 2))
    (sSeq (sSetIx (eVar 0) (eC (.int 1)) (eOp fAdd (eOp fIx (eVar 0) (eC (.int 1))) (eC (.int 1))))
    (sSeq (sIf (NK.tB (eOp fLt (eVar 2) (eOp fPow (eC (.int 10)) (eC (.int 18))))) (sRet (eOp fMod (eCB fInt (aCons (eCall 2 m_u_law_mix [] (aCons (eOp fMod (eCB fInt (aCons (eVar 2) aNil)) (eC (.int 2147483647))) (aCons (eOp fIx (eVar 0) (eC (.int 1))) aNil))) aNil)) (eVar 1))) sNext)
    (sSetIx (eVar 0) (eC (.int 2)) (eVar 2))))) sNext) [some (.loc 0), some (.int m), none, none] (hob cs i r t :: st) = .next [some (.loc 0), some (.int m), none, none] (hob cs i r t :: st) from by
      simp (maxDischargeDepth := 8) -implicitDefEqProofs only [sSeq, sIf, sAsg, sRet, sRetN, sDrop, sSetIx, sNext, sCont, sBrk, NK.sFld, NK.sDPut, NK.tAnd, NK.tOr, NK.tNot, NK.tTru, NK.tB, eOp, eUn, eCB, eIf, eAnd, eOr, eNot, eVar, eC, aCons, aNil, eTup, eChain, eMeth, eBM, eFld, eCall, eIsi, sPar, sPar3, eDInT, eDGetT, sDPutT, keyT2, keyU, gN, ob, xb, NK.os, NK.xs, nb, rb, kb, eb, List.getElem?_cons_zero, List.getElem?_cons_succ, List.set_cons_zero, List.set_cons_succ, ↓reduceIte, Bool.false_eq_true, Bool.not_true, Bool.not_false, fAdd_i, fSub_i, fNeg_i, fInt_i, fAbs_i, fLt_i, fLe_i, fGt_i, fGe_i, fMin_i, fIsN_n, fNotN_n, fLen_lst, fLen_tup, fTuple_lst, fTuple_tup, non_non, non_bl, non_int, non_str, non_tup, non_lst, non_ins, non_loc, truth_bl, truth_non, truth_int, truth_tup, truth_lst, fMod_i, fDiv_i, fMul_i, Int.reduceLT, Int.reduceNeg, Int.reducePow, Int.reduceLE, Nat.reduceLeDiff, or_true, true_or, and_self, and_true, true_and, List.append_nil, List.length_cons, List.length_nil, Nat.reduceAdd, Nat.zero_add, fEq_ii, fNe_ii, beq_self_eq_true, decide_true, decide_false, Int.reduceBEq, Int.reduceBNe, String.reduceBEq, beq_lit, Bool.true_and, Bool.false_and, Bool.and_true, Bool.and_false, Bool.true_or, Bool.or_true, Bool.false_or, Bool.or_false, Bool.or_self, Bool.bne_true, Bool.bne_false, bne_self_eq_false, Option.isSome_some, Option.isSome_none, ix2, fEq_ii, hz]]
    exact bg
theorem pick_body {md : MF} {things u : U} {n k : Int} {S S1 : Sto} (hl : fLen [things] S = Out.ok (U.int n) S) (hd : md [U.loc 0, U.int n] S = Out.ok (U.int k) S1) (hx : fIx things (U.int k) S1 = Out.ok u S1) :
    (sRet (eOp fIx (eVar 1) (eCall 2 md [] (aCons (eVar 0) (aCons (eCB fLen (aCons (eVar 1) aNil)) aNil))))) [some (U.loc 0), some things] S = SO.ret u S1 := by
  simp (maxDischargeDepth := 8) -implicitDefEqProofs only [sSeq, sIf, sAsg, sRet, sRetN, sDrop, sSetIx, sNext, sCont, sBrk, NK.sFld, NK.sDPut, NK.tAnd, NK.tOr, NK.tNot, NK.tTru, NK.tB, eOp, eUn, eCB, eIf, eAnd, eOr, eNot, eVar, eC, aCons, aNil, eTup, eChain, eMeth, eBM, eFld, eCall, eIsi, sPar, sPar3, eDInT, eDGetT, sDPutT, keyT2, keyU, gN, ob, xb, NK.os, NK.xs, nb, rb, kb, eb, List.getElem?_cons_zero, List.getElem?_cons_succ, List.set_cons_zero, List.set_cons_succ, ↓reduceIte, Bool.false_eq_true, Bool.not_true, Bool.not_false, fAdd_i, fSub_i, fNeg_i, fInt_i, fAbs_i, fLt_i, fLe_i, fGt_i, fGe_i, fMin_i, fIsN_n, fNotN_n, fLen_lst, fLen_tup, fTuple_lst, fTuple_tup, non_non, non_bl, non_int, non_str, non_tup, non_lst, non_ins, non_loc, truth_bl, truth_non, truth_int, truth_tup, truth_lst, fMod_i, fDiv_i, fMul_i, Int.reduceLT, Int.reduceNeg, Int.reducePow, Int.reduceLE, Nat.reduceLeDiff, or_true, true_or, and_self, and_true, true_and, List.append_nil, List.length_cons, List.length_nil, Nat.reduceAdd, Nat.zero_add, fEq_ii, fNe_ii, beq_self_eq_true, decide_true, decide_false, Int.reduceBEq, Int.reduceBNe, String.reduceBEq, beq_lit, Bool.true_and, Bool.false_and, Bool.and_true, Bool.and_false, Bool.true_or, Bool.or_true, Bool.false_or, Bool.or_false, Bool.or_self, Bool.bne_true, Bool.bne_false, bne_self_eq_false, Option.isSome_some, Option.isSome_none, hl, hd, hx]
theorem pick_gen {h : Ob} {st : Sto} {things : U} {n : Nat} {P : U → Prop} (H : HOb h) (hn : 0 < n) (hn2 : n ≤ 1000) (hl : fLen [things] (h :: st) = Out.ok (U.int (n : Int)) (h :: st))
    (hx : ∀ (h' : Ob) (k : Nat), k < n → ∃ u, P u ∧ fIx things (U.int (k : Int)) (h' :: st) = Out.ok u (h' :: st)) : ∃ u h', P u ∧ HOb h' ∧ m_u_law_pick [U.loc 0, things] (h :: st) = Out.ok u (h' :: st) := by
  obtain ⟨d, h', H', d0, d1, e⟩ := draw_ok (st := st) (m := (n : Int)) H (by omega) (by omega)
  obtain ⟨k, rfl⟩ := Int.eq_ofNat_of_zero_le d0
  obtain ⟨u, pu, eu⟩ := hx h' k (by omega)
  exact ⟨u, h', pu, H', run_ret (n := 2) (mb := b_u_law_pick) (env := [some (U.loc 0), some things]) rfl (pick_body hl e eu)⟩
theorem pick_ok {h : Ob} {st : Sto} {us : List U} (H : HOb h) (hne : us ≠ []) (hl : us.length ≤ 1000) : ∃ u h', u ∈ us ∧ HOb h' ∧ m_u_law_pick [U.loc 0, U.lst us] (h :: st) = Out.ok u (h' :: st) :=
  pick_gen (P := (· ∈ us)) H (List.length_pos_iff.mpr hne) hl rfl fun h' k hk => ⟨us[k], List.getElem_mem hk, fIx_lst (by rw [NK.atI_nat]; simp [hk])⟩
def absU : U → U | .int i => .int (if i < 0 then -i else i) | u => u
theorem abs_map (ns : List Int) : ((ns.map U.int).filter fun _ => true).map absU = (ns.map fun i => if i < 0 then -i else i).map U.int := by
  rw [filter_all, List.map_map, List.map_map]
  rfl
theorem hand_ok (ns : List Int) (hl : ns.length ≤ 63) : ∃ h, HOb h ∧ m_u_law_hand [.scr (ns.map U.int)] [] = .ok (.loc 0) [h] := by
  have loop : ∀ (ns : List Int) (k : Nat) (s : Option U) (t : Int) (e2 e3 : Option U), k + ns.length ≤ 1000 → ∃ t' e2' e3', forM (fun _ => True) (gT [2, 3]) l_u_law_hand_1
      (enumFrom k (ns.map U.int)) [s, some (.int t), e2, e3] [] = .next [s, some (.int t'), e2', e3'] [] := by
    intro ns
    induction ns with
    | nil => intro k s t e2 e3 _; exact ⟨t, e2, e3, forM_nil True.intro⟩
    | cons n ns ih =>
      intro k s t e2 e3 hk
      simp only [List.length_cons] at hk
      obtain ⟨t', e2', e3', h⟩ := ih (k + 1) s ((t * 31 + n * ((k : Int) + 7)) % 2147483629) (some (.int (k : Int))) (some (.int n)) (by omega)
      refine ⟨t', e2', e3', Eq.trans (forM_n (env1 := [s, some (.int t), some (.int (k : Int)), some (.int n)]) True.intro rfl ?_) h⟩
      have c : -18446744073709551616 < (k : Int) + 7 ∧ (k : Int) + 7 < 18446744073709551616 := ⟨by omega, by omega⟩
      unfold l_u_law_hand_1
      simp (maxDischargeDepth := 8) -implicitDefEqProofs only [sSeq, sIf, sAsg, sRet, sRetN, sDrop, sSetIx, sNext, sCont, sBrk, NK.sFld, NK.sDPut, NK.tAnd, NK.tOr, NK.tNot, NK.tTru, NK.tB, eOp, eUn, eCB, eIf, eAnd, eOr, eNot, eVar, eC, aCons, aNil, eTup, eChain, eMeth, eBM, eFld, eCall, eIsi, sPar, sPar3, eDInT, eDGetT, sDPutT, keyT2, keyU, gN, ob, xb, NK.os, NK.xs, nb, rb, kb, eb, List.getElem?_cons_zero, List.getElem?_cons_succ, List.set_cons_zero, List.set_cons_succ, ↓reduceIte, Bool.false_eq_true, Bool.not_true, Bool.not_false, fAdd_i, fSub_i, fNeg_i, fInt_i, fAbs_i, fLt_i, fLe_i, fGt_i, fGe_i, fMin_i, fIsN_n, fNotN_n, fLen_lst, fLen_tup, fTuple_lst, fTuple_tup, non_non, non_bl, non_int, non_str, non_tup, non_lst, non_ins, non_loc, truth_bl, truth_non, truth_int, truth_tup, truth_lst, fMod_i, fDiv_i, fMul_i, Int.reduceLT, Int.reduceNeg, Int.reducePow, Int.reduceLE, Nat.reduceLeDiff, or_true, true_or, and_self, and_true, true_and, List.append_nil, List.length_cons, List.length_nil, Nat.reduceAdd, Nat.zero_add, fEq_ii, fNe_ii, beq_self_eq_true, decide_true, decide_false, Int.reduceBEq, Int.reduceBNe, String.reduceBEq, beq_lit, Bool.true_and, Bool.false_and, Bool.and_true, Bool.and_false, Bool.true_or, Bool.or_true, Bool.false_or, Bool.or_false, Bool.or_self, Bool.bne_true, Bool.bne_false, bne_self_eq_false, Option.isSome_some, Option.isSome_none, c]
  obtain ⟨t', e2', e3', hloop⟩ := loop ns 0 (some (.scr (ns.map U.int))) 0 none none (by omega)
  have hc := comp_scope (i := 3) (mt := NK.tYes) (me := eCB fAbs (aCons (eCB fInt (aCons (eVar 3) aNil)) aNil)) (mi := iSeq (eVar 0)) (env := [some (.scr (ns.map U.int)), some (.int t'), e2', e3']) (st := []) (g := fun _ => True)
    absU (fun _ => true) (us := ns.map U.int) (by simp only [iSeq, sSeq, sIf, sAsg, sRet, eCB, eVar, eC, aCons, aNil, ob, List.getElem?_cons_zero, List.getElem?_cons_succ, src]) (fun _ => True.intro) (by simp; omega)
    (fun u hu acc => by
      obtain ⟨n, _, rfl⟩ := List.mem_map.mp hu
      refine ⟨rfl, fun _ => ?_⟩
      simp (maxDischargeDepth := 8) -implicitDefEqProofs only [sSeq, sIf, sAsg, sRet, sRetN, sDrop, sSetIx, sNext, sCont, sBrk, NK.sFld, NK.sDPut, NK.tAnd, NK.tOr, NK.tNot, NK.tTru, NK.tB, eOp, eUn, eCB, eIf, eAnd, eOr, eNot, eVar, eC, aCons, aNil, eTup, eChain, eMeth, eBM, eFld, eCall, eIsi, sPar, sPar3, eDInT, eDGetT, sDPutT, keyT2, keyU, gN, ob, xb, NK.os, NK.xs, nb, rb, kb, eb, List.getElem?_cons_zero, List.getElem?_cons_succ, List.set_cons_zero, List.set_cons_succ, ↓reduceIte, Bool.false_eq_true, Bool.not_true, Bool.not_false, fAdd_i, fSub_i, fNeg_i, fInt_i, fAbs_i, fLt_i, fLe_i, fGt_i, fGe_i, fMin_i, fIsN_n, fNotN_n, fLen_lst, fLen_tup, fTuple_lst, fTuple_tup, non_non, non_bl, non_int, non_str, non_tup, non_lst, non_ins, non_loc, truth_bl, truth_non, truth_int, truth_tup, truth_lst, fMod_i, fDiv_i, fMul_i, Int.reduceLT, Int.reduceNeg, Int.reducePow, Int.reduceLE, Nat.reduceLeDiff, or_true, true_or, and_self, and_true, true_and, List.append_nil, List.length_cons, List.length_nil, Nat.reduceAdd, Nat.zero_add, fEq_ii, fNe_ii, beq_self_eq_true, decide_true, decide_false, Int.reduceBEq, Int.reduceBNe, String.reduceBEq, beq_lit, Bool.true_and, Bool.false_and, Bool.and_true, Bool.and_false, Bool.true_or, Bool.or_true, Bool.false_or, Bool.or_false, Bool.or_self, Bool.bne_true, Bool.bne_false, bne_self_eq_false, Option.isSome_some, Option.isSome_none, absU]) (by
      refine underL_all fun u hu => ?_
      obtain ⟨w, hw, rfl⟩ := List.mem_map.mp hu
      obtain ⟨n, _, rfl⟩ := List.mem_map.mp (List.mem_filter.mp hw).1
      rfl)
  rw [abs_map] at hc
  refine ⟨hob (ns.map fun i => if i < 0 then -i else i) 0 0 t', ⟨_, _, _, _, rfl, by decide, by decide⟩, ?_⟩
  show runF 4 b_u_law_hand [.scr (ns.map U.int)] [] = _
  refine run_ret (env := [some (.scr (ns.map U.int)), none, none, none]) rfl ?_
  unfold b_u_law_hand
  simp (maxDischargeDepth := 8) -implicitDefEqProofs only [sSeq, sIf, sAsg, sRet, sRetN, sDrop, sSetIx, sNext, sCont, sBrk, NK.sFld, NK.sDPut, NK.tAnd, NK.tOr, NK.tNot, NK.tTru, NK.tB, eOp, eUn, eCB, eIf, eAnd, eOr, eNot, eVar, eC, aCons, aNil, eTup, eChain, eMeth, eBM, eFld, eCall, eIsi, sPar, sPar3, eDInT, eDGetT, sDPutT, keyT2, keyU, gN, ob, xb, NK.os, NK.xs, nb, rb, kb, eb, List.getElem?_cons_zero, List.getElem?_cons_succ, List.set_cons_zero, List.set_cons_succ, ↓reduceIte, Bool.false_eq_true, Bool.not_true, Bool.not_false, fAdd_i, fSub_i, fNeg_i, fInt_i, fAbs_i, fLt_i, fLe_i, fGt_i, fGe_i, fMin_i, fIsN_n, fNotN_n, fLen_lst, fLen_tup, fTuple_lst, fTuple_tup, non_non, non_bl, non_int, non_str, non_tup, non_lst, non_ins, non_loc, truth_bl, truth_non, truth_int, truth_tup, truth_lst, fMod_i, fDiv_i, fMul_i, Int.reduceLT, Int.reduceNeg, Int.reducePow, Int.reduceLE, Nat.reduceLeDiff, or_true, true_or, and_self, and_true, true_and, List.append_nil, List.length_cons, List.length_nil, Nat.reduceAdd, Nat.zero_add, fEq_ii, fNe_ii, beq_self_eq_true, decide_true, decide_false, Int.reduceBEq, Int.reduceBNe, String.reduceBEq, beq_lit, Bool.true_and, Bool.false_and, Bool.and_true, Bool.and_false, Bool.true_or, Bool.or_true, Bool.false_or, Bool.or_false, Bool.or_self, Bool.bne_true, Bool.bne_false, bne_self_eq_false, Option.isSome_some, Option.isSome_none, sFor, iEnumA, hloop, hc, eLst, Nat.reduceLeDiff]
  rfl
end G

set_option maxHeartbeats 800000
namespace G
abbrev Ent := List (Option Nat)
def al {α : Type} (es : List (Option α)) (i j : Nat) : Prop := ∃ a, es[i]? = some (some a) ∧ es[j]? = some (some a)
theorem al_symm {α : Type} {es : List (Option α)} {i j : Nat} (h : al es i j) : al es j i := let ⟨a, x, y⟩ := h; ⟨a, y, x⟩
theorem al_trans {α : Type} {es : List (Option α)} {i j k : Nat} (h : al es i j) (g : al es j k) : al es i k := by
  obtain ⟨a, x, y⟩ := h
  obtain ⟨b, z, w⟩ := g
  rw [y] at z
  cases z
  exact ⟨a, x, w⟩
def mk {α β : Type} (es : List (Option α)) (fs : List (Option β)) : Prop := es.map Option.isSome = fs.map Option.isSome
theorem mk_len {α β : Type} {es : List (Option α)} {fs : List (Option β)} (h : mk es fs) : es.length = fs.length := by
  have := congrArg List.length h
  rwa [List.length_map, List.length_map] at this
theorem mk_at {α β : Type} {es : List (Option α)} {fs : List (Option β)} (h : mk es fs) {i : Nat} {a : α} (e : es[i]? = some (some a)) : ∃ b, fs[i]? = some (some b) := by
  have q := congrArg (fun l : List Bool => l[i]?) h
  simp only [List.getElem?_map, e, Option.map_some, Option.isSome_some] at q
  cases r : fs[i]? with
  | none => rw [r] at q; cases q
  | some o =>
    rw [r] at q
    cases o with
    | none => cases q
    | some b => exact ⟨b, rfl⟩
theorem mk_symm {α β : Type} {es : List (Option α)} {fs : List (Option β)} (h : mk es fs) : mk fs es := Eq.symm h
theorem mk_trans {α β γ : Type} {es : List (Option α)} {fs : List (Option β)} {gs : List (Option γ)} (h : mk es fs) (g : mk fs gs) : mk es gs := Eq.trans h g
section
variable {α : Type} [DecidableEq α]
def numGo (met : List α) : List (Option α) → Ent
  | [] => []
  | none :: xs => none :: numGo met xs
  | some x :: xs => if x ∈ met then some (met.idxOf x) :: numGo met xs else some met.length :: numGo (met ++ [x]) xs
def num (xs : List (Option α)) : Ent := numGo [] xs
def finM (met : List α) : List (Option α) → List α
  | [] => met
  | none :: xs => finM met xs
  | some x :: xs => if x ∈ met then finM met xs else finM (met ++ [x]) xs
theorem finM_pre : ∀ (xs : List (Option α)) (met : List α), ∃ t, finM met xs = met ++ t
  | [], met => ⟨[], (List.append_nil _).symm⟩
  | none :: xs, met => finM_pre xs met
  | some x :: xs, met => by
    unfold finM
    split
    · exact finM_pre xs met
    · obtain ⟨t, e⟩ := finM_pre xs (met ++ [x])
      exact ⟨[x] ++ t, by rw [e, List.append_assoc]⟩
theorem finM_mem : ∀ (xs : List (Option α)) (met : List α) (x : α), x ∈ met ∨ some x ∈ xs → x ∈ finM met xs
  | [], met, x, h => h.elim id fun z => by cases z
  | none :: xs, met, x, h => finM_mem xs met x (h.imp id fun z => by
    rcases List.mem_cons.mp z with z | z
    · cases z
    · exact z)
  | some y :: xs, met, x, h => by
    unfold finM
    split
    · rename_i hy
      refine finM_mem xs met x (h.elim .inl fun z => ?_)
      rcases List.mem_cons.mp z with z | z
      · cases z; exact .inl hy
      · exact .inr z
    · refine finM_mem xs (met ++ [y]) x ?_
      rcases h with h | h
      · exact .inl (List.mem_append_left _ h)
      · rcases List.mem_cons.mp h with z | z
        · cases z; exact .inl (List.mem_append_right _ (List.mem_singleton.mpr rfl))
        · exact .inr z
theorem idx_app {x : α} {a b : List α} (h : x ∈ a) : (a ++ b).idxOf x = a.idxOf x := by rw [List.idxOf_append, if_pos h]
theorem numGo_map : ∀ (xs : List (Option α)) (met : List α), numGo met xs = xs.map (Option.map (finM met xs).idxOf)
  | [], _ => rfl
  | none :: xs, met => by
    unfold numGo finM
    rw [numGo_map xs met, List.map_cons, Option.map_none]
  | some x :: xs, met => by
    unfold numGo finM
    split
    · rename_i hx
      obtain ⟨t, e⟩ := finM_pre xs met
      rw [numGo_map xs met, List.map_cons, Option.map_some]
      rw [show (finM met xs).idxOf x = met.idxOf x by rw [e]; exact idx_app hx]
    · rename_i hx
      obtain ⟨t, e⟩ := finM_pre xs (met ++ [x])
      rw [numGo_map xs (met ++ [x]), List.map_cons, Option.map_some]
      have q : (finM (met ++ [x]) xs).idxOf x = met.length := by
        rw [e, idx_app (List.mem_append_right _ (List.mem_singleton.mpr rfl)), List.idxOf_append, if_neg hx]
        simp
      rw [q]
theorem num_map (xs : List (Option α)) : num xs = xs.map (Option.map (finM [] xs).idxOf) := numGo_map xs []
theorem num_len (xs : List (Option α)) : (num xs).length = xs.length := by rw [num_map, List.length_map]
theorem num_mk (xs : List (Option α)) : mk (num xs) xs := by
  unfold mk
  rw [num_map, List.map_map]
  refine List.map_congr_left fun o _ => ?_
  cases o <;> rfl
theorem num_al {xs : List (Option α)} {i j : Nat} : al (num xs) i j ↔ al xs i j := by
  have g : ∀ {k : Nat} {a : Nat}, (num xs)[k]? = some (some a) ↔ ∃ x, xs[k]? = some (some x) ∧ (finM [] xs).idxOf x = a := fun {k a} => by
    rw [num_map, List.getElem?_map]
    cases xs[k]? with
    | none => simp
    | some o => cases o <;> simp
  constructor
  · rintro ⟨a, h1, h2⟩
    obtain ⟨x, e1, q1⟩ := g.mp h1
    obtain ⟨y, e2, q2⟩ := g.mp h2
    have m1 : x ∈ finM [] xs := finM_mem xs [] x (.inr (List.mem_of_getElem? e1))
    have m2 : y ∈ finM [] xs := finM_mem xs [] y (.inr (List.mem_of_getElem? e2))
    have e : x = y := by
      have l1 := List.idxOf_lt_length_iff.mpr m1
      have l2 := List.idxOf_lt_length_iff.mpr m2
      have t1 := List.getElem_idxOf l1
      have t2 := List.getElem_idxOf l2
      have w : (finM [] xs).idxOf x = (finM [] xs).idxOf y := q1.trans q2.symm
      rw [← t1, ← t2]
      simp only [w]
    subst e
    exact ⟨x, e1, e2⟩
  · rintro ⟨x, e1, e2⟩
    exact ⟨_, g.mpr ⟨x, e1, rfl⟩, g.mpr ⟨x, e2, rfl⟩⟩
end
def canGo : Nat → Ent → Prop
  | _, [] => True
  | m, none :: es => canGo m es
  | m, some k :: es => (k < m ∧ canGo m es) ∨ (k = m ∧ canGo (m + 1) es)
abbrev Can (es : Ent) : Prop := canGo 0 es
theorem numGo_can {α : Type} [DecidableEq α] : ∀ (xs : List (Option α)) (met : List α), canGo met.length (numGo met xs)
  | [], _ => True.intro
  | none :: xs, met => numGo_can xs met
  | some x :: xs, met => by
    unfold numGo
    split
    · rename_i h
      exact .inl ⟨List.idxOf_lt_length_iff.mpr h, numGo_can xs met⟩
    · have := numGo_can xs (met ++ [x])
      rw [List.length_append] at this
      exact .inr ⟨rfl, this⟩
theorem num_can {α : Type} [DecidableEq α] (xs : List (Option α)) : Can (num xs) := numGo_can xs []
def run : Nat → Ent → Nat
  | m, [] => m
  | m, none :: es => run m es
  | m, some k :: es => if k = m then run (m + 1) es else run m es
theorem run_met : ∀ (es : Ent) (m v : Nat), canGo m es → m ≤ v → v < run m es → some v ∈ es
  | [], m, v, _, h1, h2 => absurd h2 (Nat.not_lt.mpr h1)
  | none :: es, m, v, c, h1, h2 => List.mem_cons_of_mem _ (run_met es m v c h1 h2)
  | some k :: es, m, v, c, h1, h2 => by
    unfold run at h2
    rcases c with ⟨hk, c⟩ | ⟨rfl, c⟩
    · rw [if_neg (by omega)] at h2
      exact List.mem_cons_of_mem _ (run_met es m v c h1 h2)
    · rw [if_pos rfl] at h2
      by_cases e : v = k
      · rw [e]; exact List.mem_cons_self
      · exact List.mem_cons_of_mem _ (run_met es (k + 1) v c (by omega) h2)
theorem can_at : ∀ (es : Ent) (m i a : Nat), canGo m es → es[i]? = some (some a) → a ≤ run m (es.take i)
  | [], _, _, _, _, h => by simp at h
  | o :: es, m, 0, a, c, h => by
    simp only [List.getElem?_cons_zero, Option.some.injEq] at h
    subst h
    show a ≤ m
    rcases c with ⟨h, _⟩ | ⟨h, _⟩ <;> omega
  | none :: es, m, i + 1, a, c, h => can_at es m i a c (by simpa using h)
  | some k :: es, m, i + 1, a, c, h => by
    have h' : es[i]? = some (some a) := by simpa using h
    show a ≤ run m (some k :: es.take i)
    unfold run
    rcases c with ⟨hk, c⟩ | ⟨rfl, c⟩
    · rw [if_neg (by omega)]
      exact can_at es m i a c h'
    · rw [if_pos rfl]
      exact can_at es (k + 1) i a c h'
theorem can_take : ∀ (es : Ent) (m i : Nat), canGo m es → canGo m (es.take i)
  | [], _, _, _ => by rw [List.take_nil]; exact True.intro
  | _ :: _, _, 0, _ => True.intro
  | none :: es, m, i + 1, c => can_take es m i c
  | some k :: es, m, i + 1, c => c.imp (fun ⟨h, c⟩ => ⟨h, can_take es m i c⟩) fun ⟨h, c⟩ => ⟨h, can_take es (m + 1) i c⟩
theorem can_new {es : Ent} {i a : Nat} (c : Can es) (e : es[i]? = some (some a)) (h : ∀ j, j < i → ¬ al es i j) : a = run 0 (es.take i) := by
  have le := can_at es 0 i a c e
  refine Classical.byContradiction fun ne => ?_
  have m := run_met (es.take i) 0 a (can_take es 0 i c) (Nat.zero_le _) (by omega)
  obtain ⟨j, hj⟩ := List.mem_iff_getElem?.mp m
  rw [List.getElem?_take] at hj
  split at hj
  · rename_i lt
    exact h j lt ⟨a, e, hj⟩
  · cases hj
theorem can_uniq {es fs : Ent} (c1 : Can es) (c2 : Can fs) (m : mk es fs) (h : ∀ i j, al es i j ↔ al fs i j) : es = fs := by
  have key : ∀ n, es.take n = fs.take n := fun n => by
    induction n with
    | zero => rfl
    | succ n ih =>
      have e : es[n]? = fs[n]? := by
        cases q : es[n]? with
        | none =>
          have l := List.getElem?_eq_none_iff.mp q
          exact (List.getElem?_eq_none_iff.mpr (by have := mk_len m; omega)).symm
        | some o =>
          cases o with
          | none =>
            cases r : fs[n]? with
            | none =>
              have l := List.getElem?_eq_none_iff.mp r
              have l2 := (List.getElem?_eq_some_iff.mp q).1
              have := mk_len m
              omega
            | some o =>
              cases o with
              | none => rfl
              | some b =>
                obtain ⟨a, ha⟩ := mk_at (mk_symm m) r
                rw [q] at ha
                cases ha
          | some a =>
            obtain ⟨b, r⟩ := mk_at m q
            rw [r]
            by_cases z : ∃ j, j < n ∧ al es n j
            · obtain ⟨j, lt, w⟩ := z
              obtain ⟨a', x, y⟩ := id w
              rw [q] at x
              cases x
              obtain ⟨b', x', y'⟩ := (h n j).mp w
              rw [r] at x'
              cases x'
              have t := congrArg (fun l : Ent => l[j]?) ih
              simp only [List.getElem?_take, if_pos lt] at t
              rw [y, y'] at t
              exact t
            · have n1 : ∀ j, j < n → ¬ al es n j := fun j lt w => z ⟨j, lt, w⟩
              have n2 : ∀ j, j < n → ¬ al fs n j := fun j lt w => z ⟨j, lt, (h n j).mpr w⟩
              rw [can_new c1 q n1, can_new c2 r n2, ih]
      rw [List.take_succ, List.take_succ, ih, e]
  have l := mk_len m
  have k := key es.length
  rwa [List.take_length, l, List.take_length] at k
end G

namespace G
section
variable {β : Type} [DecidableEq β]
def eqm (M : List β) (i j : Nat) : Prop := ∃ a, M[i]? = some a ∧ M[j]? = some a
def mrg (M : List β) (p a : Nat) : List β := match M[p]?, M[a]? with
  | some x, some y => if x = y then M else M.map fun m => if m = x then y else m
  | _, _ => M
theorem mrg_len {M : List β} {p a : Nat} : (mrg M p a).length = M.length := by
  unfold mrg
  split
  · split
    · rfl
    · rw [List.length_map]
  · rfl
theorem mrg_mono {M : List β} {p a i j : Nat} (h : eqm M i j) : eqm (mrg M p a) i j := by
  obtain ⟨v, h1, h2⟩ := h
  unfold mrg
  split
  · split
    · exact ⟨v, h1, h2⟩
    · exact ⟨_, by rw [List.getElem?_map, h1]; rfl, by rw [List.getElem?_map, h2]; rfl⟩
  · exact ⟨v, h1, h2⟩
theorem mrg_one {M : List β} {p a : Nat} (hp : p < M.length) (ha : a < M.length) : eqm (mrg M p a) p a := by
  unfold mrg
  rw [List.getElem?_eq_getElem hp, List.getElem?_eq_getElem ha]
  dsimp only
  split
  · rename_i e
    exact ⟨_, List.getElem?_eq_getElem hp, by rw [List.getElem?_eq_getElem ha, e]⟩
  · rename_i ne
    refine ⟨M[a], by rw [List.getElem?_map, List.getElem?_eq_getElem hp, Option.map_some, if_pos rfl], ?_⟩
    rw [List.getElem?_map, List.getElem?_eq_getElem ha, Option.map_some, if_neg fun e => ne e.symm]
theorem mrg_least {M : List β} {p a : Nat} {E : Nat → Nat → Prop} (sy : ∀ i j, E i j → E j i) (tr : ∀ i j k, E i j → E j k → E i k) (h : ∀ i j, eqm M i j → E i j) (pa : E p a) {i j : Nat} (q : eqm (mrg M p a) i j) : E i j := by
  unfold mrg at q
  split at q
  · rename_i x y ex ey
    split at q
    · exact h i j q
    · obtain ⟨v, h1, h2⟩ := q
      rw [List.getElem?_map] at h1 h2
      obtain ⟨mi, e1, f1⟩ := Option.map_eq_some_iff.mp h1
      obtain ⟨mj, e2, f2⟩ := Option.map_eq_some_iff.mp h2
      by_cases c1 : mi = x
      · rw [if_pos c1] at f1
        have ip : E i p := h i p ⟨x, by rw [e1, c1], ex⟩
        by_cases c2 : mj = x
        · exact h i j ⟨x, by rw [e1, c1], by rw [e2, c2]⟩
        · rw [if_neg c2] at f2
          exact tr _ _ _ ip (tr _ _ _ pa (h a j ⟨y, ey, by rw [e2, f2, f1]⟩))
      · rw [if_neg c1] at f1
        by_cases c2 : mj = x
        · rw [if_pos c2] at f2
          have jp : E j p := h j p ⟨x, by rw [e2, c2], ex⟩
          exact sy _ _ (tr _ _ _ jp (tr _ _ _ pa (h a i ⟨y, ey, by rw [e1, f1, f2]⟩)))
        · rw [if_neg c2] at f2
          exact h i j ⟨v, by rw [e1, f1], by rw [e2, f2]⟩
  · exact h i j q
def stpL (lk : Nat → Nat → Bool) (M : List β) (q : Nat × Nat) : List β := if lk q.1 q.2 = true then mrg M q.1 q.2 else M
theorem fold_len {lk : Nat → Nat → Bool} : ∀ (L : List (Nat × Nat)) (M : List β), (L.foldl (stpL lk) M).length = M.length
  | [], _ => rfl
  | q :: L, M => by
    rw [List.foldl_cons, fold_len L]
    unfold stpL
    split
    · exact mrg_len
    · rfl
theorem fold_mono {lk : Nat → Nat → Bool} : ∀ (L : List (Nat × Nat)) (M : List β) {i j : Nat}, eqm M i j → eqm (L.foldl (stpL lk) M) i j
  | [], _, _, _, h => h
  | q :: L, M, i, j, h => fold_mono L _ (by
    unfold stpL
    split
    · exact mrg_mono h
    · exact h)
theorem fold_one {lk : Nat → Nat → Bool} : ∀ (L : List (Nat × Nat)) (M : List β) {p a : Nat}, (p, a) ∈ L → lk p a = true → p < M.length → a < M.length → eqm (L.foldl (stpL lk) M) p a
  | q :: L, M, p, a, h, hl, hp, ha => by
    rcases List.mem_cons.mp h with rfl | h
    · exact fold_mono L _ (by unfold stpL; rw [if_pos hl]; exact mrg_one hp ha)
    · have e : (stpL lk M q).length = M.length := by
        unfold stpL
        split
        · exact mrg_len
        · rfl
      exact fold_one L _ h hl (by omega) (by omega)
theorem fold_least {lk : Nat → Nat → Bool} {E : Nat → Nat → Prop} (sy : ∀ i j, E i j → E j i) (tr : ∀ i j k, E i j → E j k → E i k) : ∀ (L : List (Nat × Nat)) (M : List β), (∀ i j, eqm M i j → E i j) → (∀ p a, (p, a) ∈ L → lk p a = true → E p a) → ∀ {i j : Nat}, eqm (L.foldl (stpL lk) M) i j → E i j
  | [], _, h, _, _, _, q => h _ _ q
  | x :: L, M, h, hl, i, j, q => fold_least sy tr L (stpL lk M x) (fun i j r => by
      unfold stpL at r
      split at r
      · rename_i e
        exact mrg_least sy tr h (hl x.1 x.2 List.mem_cons_self e) r
      · exact h i j r) (fun p a m => hl p a (List.mem_cons_of_mem _ m)) q
def prs (n : Nat) : List (Nat × Nat) := (List.range n).flatMap fun p => (List.range p).map fun a => (p, a)
theorem prs_mem {n p a : Nat} : (p, a) ∈ prs n ↔ a < p ∧ p < n := by
  unfold prs
  rw [List.mem_flatMap]
  constructor
  · rintro ⟨p', h1, h2⟩
    obtain ⟨a', h3, e⟩ := List.mem_map.mp h2
    cases e
    exact ⟨List.mem_range.mp h3, List.mem_range.mp h1⟩
  · rintro ⟨h1, h2⟩
    exact ⟨p, List.mem_range.mpr h2, List.mem_map.mpr ⟨a, List.mem_range.mpr h1, rfl⟩⟩
def mrgAll (lk : Nat → Nat → Bool) (n : Nat) (M : List β) : List β := (List.range n).foldl (fun M p => (List.range p).foldl (fun M a => stpL lk M (p, a)) M) M
theorem mrgAll_eq {lk : Nat → Nat → Bool} {n : Nat} {M : List β} : mrgAll lk n M = (prs n).foldl (stpL lk) M := by
  unfold mrgAll prs
  rw [List.foldl_flatMap]
  congr 1
  funext M p
  rw [List.foldl_map]
end
structure IsOr (es fs : Ent) (M : Ent) : Prop where
  mm : mk M es
  l : ∀ i j, al es i j → al M i j
  r : ∀ i j, al fs i j → al M i j
  least : ∀ E : Nat → Nat → Prop, (∀ i j, E i j → E j i) → (∀ i j k, E i j → E j k → E i k) → (∀ i j, al es i j → E i j) → (∀ i j, al fs i j → E i j) → ∀ i j, al M i j → E i j
theorem IsOr.sub {es fs M K : Ent} (a : IsOr es fs M) (b : IsOr es fs K) {i j : Nat} (h : al M i j) : al K i j := a.least (al K) (fun _ _ => al_symm) (fun _ _ _ => al_trans) b.l b.r i j h
theorem or_uniq {es fs M K : Ent} (a : IsOr es fs M) (b : IsOr es fs K) : num M = num K := can_uniq (num_can _) (num_can _) (mk_trans (mk_trans (num_mk M) a.mm) (mk_symm (mk_trans (num_mk K) b.mm))) fun i j => num_al.trans (Iff.trans ⟨a.sub b, b.sub a⟩ num_al.symm)
def lkP (fs : Ent) (p a : Nat) : Bool := match fs[p]?, fs[a]? with
  | some (some x), some (some y) => x == y
  | _, _ => false
theorem lkP_al {fs : Ent} {p a : Nat} : lkP fs p a = true ↔ al fs p a := by
  unfold lkP
  constructor
  · intro h
    split at h
    · rename_i x y e1 e2
      have := eq_of_beq h
      subst this
      exact ⟨x, e1, e2⟩
    · cases h
  · rintro ⟨x, e1, e2⟩
    rw [e1, e2]
    exact beq_self_eq_true x
theorem al_lt {α : Type} {es : List (Option α)} {i j : Nat} (h : al es i j) : i < es.length ∧ j < es.length := let ⟨_, x, y⟩ := h; ⟨(List.getElem?_eq_some_iff.mp x).1, (List.getElem?_eq_some_iff.mp y).1⟩
def mrgP (es fs : Ent) : Ent := mrgAll (lkP fs) es.length es
theorem mrg_mk {M es : Ent} {p a : Nat} (m : mk M es) (hp : ∃ x, es[p]? = some (some x)) (ha : ∃ x, es[a]? = some (some x)) : mk (mrg M p a) es := by
  obtain ⟨x, hx⟩ := hp
  obtain ⟨y, hy⟩ := ha
  obtain ⟨x', e1⟩ := mk_at (mk_symm m) hx
  obtain ⟨y', e2⟩ := mk_at (mk_symm m) hy
  unfold mrg
  rw [e1, e2]
  dsimp only
  split
  · exact m
  · refine Eq.trans ?_ m
    rw [List.map_map]
    refine List.map_congr_left fun o _ => ?_
    show (if o = some x' then some y' else o).isSome = o.isSome
    split
    · rename_i e; rw [e]; rfl
    · rfl
theorem foldP_mk {es : Ent} {lk : Nat → Nat → Bool} (hl : ∀ p a, lk p a = true → (∃ x, es[p]? = some (some x)) ∧ ∃ x, es[a]? = some (some x)) : ∀ (L : List (Nat × Nat)) (M : Ent), mk M es → mk (L.foldl (stpL lk) M) es
  | [], _, m => m
  | q :: L, M, m => foldP_mk hl L _ (by
    unfold stpL
    split
    · rename_i e
      exact mrg_mk m (hl _ _ e).1 (hl _ _ e).2
    · exact m)
theorem eqm_al {M : Ent} {i j : Nat} (h : al M i j) : eqm M i j := let ⟨a, x, y⟩ := h; ⟨some a, x, y⟩
theorem mrgP_or {es fs : Ent} (m : mk es fs) : IsOr es fs (mrgP es fs) := by
  have hs : ∀ {i j}, al fs i j → (∃ x, es[i]? = some (some x)) ∧ ∃ x, es[j]? = some (some x) := fun {i j} ⟨a, x, y⟩ => ⟨mk_at (mk_symm m) x, mk_at (mk_symm m) y⟩
  have hl : ∀ p a, lkP fs p a = true → (∃ x, es[p]? = some (some x)) ∧ ∃ x, es[a]? = some (some x) := fun p a h => hs (lkP_al.mp h)
  have mm : mk (mrgP es fs) es := by
    unfold mrgP
    rw [mrgAll_eq]
    exact foldP_mk hl _ _ rfl
  have back : ∀ {i j}, eqm (mrgP es fs) i j → (∃ x, es[i]? = some (some x)) → al (mrgP es fs) i j := fun {i j} ⟨o, x, y⟩ ⟨v, hv⟩ => by
    obtain ⟨b, hb⟩ := mk_at (mk_symm mm) hv
    rw [x] at hb
    cases hb
    exact ⟨b, x, y⟩
  refine ⟨mm, fun i j h => ?_, fun i j h => ?_, fun E sy tr h1 h2 i j h => ?_⟩
  · refine back ?_ (let ⟨a, x, _⟩ := h; ⟨a, x⟩)
    unfold mrgP
    rw [mrgAll_eq]
    exact fold_mono _ _ (eqm_al h)
  · have one : ∀ {p a}, a < p → al fs p a → eqm (mrgP es fs) p a := fun {p a} lt q => by
      have l := al_lt q
      have le := mk_len m
      unfold mrgP
      rw [mrgAll_eq]
      exact fold_one _ _ (prs_mem.mpr ⟨lt, by omega⟩) (lkP_al.mpr q) (by omega) (by omega)
    rcases Nat.lt_trichotomy j i with lt | e | lt
    · exact back (one lt h) (hs h).1
    · subst e
      obtain ⟨b, hb⟩ := mk_at (mk_symm mm) (hs h).1.choose_spec
      exact ⟨b, hb, hb⟩
    · exact al_symm (back (one lt (al_symm h)) (hs h).2)
  · let F : Nat → Nat → Prop := fun i j => (∃ x, es[i]? = some (some x)) ∧ (∃ x, es[j]? = some (some x)) ∧ E i j ∨ es[i]? = some none ∧ es[j]? = some none
    have fs1 : ∀ i j, F i j → F j i := fun i j h => h.imp (fun ⟨a, b, c⟩ => ⟨b, a, sy _ _ c⟩) fun ⟨a, b⟩ => ⟨b, a⟩
    have ft : ∀ i j k, F i j → F j k → F i k := fun i j k h g => by
      rcases h with ⟨a, b, c⟩ | ⟨a, b⟩
      · rcases g with ⟨a', b', c'⟩ | ⟨a', b'⟩
        · exact .inl ⟨a, b', tr _ _ _ c c'⟩
        · obtain ⟨x, hx⟩ := b
          rw [hx] at a'
          cases a'
      · rcases g with ⟨a', b', c'⟩ | ⟨a', b'⟩
        · obtain ⟨x, hx⟩ := a'
          rw [hx] at b
          cases b
        · exact .inr ⟨a, b'⟩
    have q : F i j := by
      have e := eqm_al h
      unfold mrgP at e
      rw [mrgAll_eq] at e
      have ha : ∀ i j, eqm es i j → F i j := by
        rintro i j ⟨o, x, y⟩
        cases o with
        | none => exact .inr ⟨x, y⟩
        | some v => exact .inl ⟨⟨v, x⟩, ⟨v, y⟩, h1 i j ⟨v, x, y⟩⟩
      have hb : ∀ p a, (p, a) ∈ prs es.length → lkP fs p a = true → F p a := by
        intro p a _ hl'
        have w := lkP_al.mp hl'
        exact .inl ⟨(hs w).1, (hs w).2, h2 p a w⟩
      exact fold_least (E := F) fs1 ft _ _ ha hb e
    rcases q with ⟨_, _, q⟩ | ⟨q, _⟩
    · exact q
    · obtain ⟨b, x, _⟩ := h
      obtain ⟨c, hc⟩ := mk_at mm x
      rw [q] at hc
      cases hc
def lkL (es fs : Ent) (p a : Nat) : Bool := (match es[p]? with
  | some (some _) => true
  | _ => false) && (es[p]? == es[a]? || fs[p]? == fs[a]?)
def msk (es : Ent) (N : List Nat) : Ent := (List.range es.length).map fun i => match es[i]? with
  | some (some _) => N[i]?
  | _ => none
def mrgL (es fs : Ent) : List Nat := mrgAll (lkL es fs) es.length (List.range es.length)
theorem msk_at {es : Ent} {N : List Nat} (hn : N.length = es.length) {i a : Nat} : (msk es N)[i]? = some (some a) ↔ (∃ x, es[i]? = some (some x)) ∧ N[i]? = some a := by
  unfold msk
  rw [List.getElem?_map]
  by_cases lt : i < es.length
  · rw [List.getElem?_range lt, Option.map_some]
    cases q : es[i]? with
    | none => simp
    | some o => cases o with
      | none => simp
      | some x => simp
  · have q : es[i]? = none := List.getElem?_eq_none_iff.mpr (by omega)
    have r : (List.range es.length)[i]? = none := List.getElem?_eq_none_iff.mpr (by rw [List.length_range]; omega)
    rw [r, q]
    simp
theorem lkL_al {es fs : Ent} (m : mk es fs) {p a : Nat} (hp : p < es.length) : lkL es fs p a = true ↔ al es p a ∨ al fs p a := by
  unfold lkL
  rw [Bool.and_eq_true, Bool.or_eq_true, beq_iff_eq, beq_iff_eq]
  constructor
  · rintro ⟨h1, h2⟩
    split at h1
    · rename_i x ex
      rcases h2 with h2 | h2
      · exact .inl ⟨x, ex, h2 ▸ ex⟩
      · obtain ⟨b, hb⟩ := mk_at m ex
        exact .inr ⟨b, hb, h2 ▸ hb⟩
    · cases h1
  · intro h
    have hx : ∃ x, es[p]? = some (some x) := by
      rcases h with ⟨x, e, _⟩ | ⟨x, e, _⟩
      · exact ⟨x, e⟩
      · exact mk_at (mk_symm m) e
    obtain ⟨x, ex⟩ := hx
    refine ⟨by rw [ex], ?_⟩
    rcases h with ⟨v, e1, e2⟩ | ⟨v, e1, e2⟩
    · exact .inl (e1.trans e2.symm)
    · exact .inr (e1.trans e2.symm)
theorem mrgL_or {es fs : Ent} (m : mk es fs) : IsOr es fs (msk es (mrgL es fs)) := by
  have hn : (mrgL es fs).length = es.length := by
    unfold mrgL
    rw [mrgAll_eq, fold_len, List.length_range]
  have A : ∀ {i j}, al (msk es (mrgL es fs)) i j ↔ (∃ x, es[i]? = some (some x)) ∧ (∃ x, es[j]? = some (some x)) ∧ eqm (mrgL es fs) i j := fun {i j} => by
    constructor
    · rintro ⟨a, x, y⟩
      obtain ⟨x1, x2⟩ := (msk_at hn).mp x
      obtain ⟨y1, y2⟩ := (msk_at hn).mp y
      exact ⟨x1, y1, a, x2, y2⟩
    · rintro ⟨x1, y1, a, x2, y2⟩
      exact ⟨a, (msk_at hn).mpr ⟨x1, x2⟩, (msk_at hn).mpr ⟨y1, y2⟩⟩
  have self : ∀ {i}, i < es.length → eqm (mrgL es fs) i i := fun {i} lt => ⟨(mrgL es fs)[i]'(by omega), List.getElem?_eq_getElem (by omega), List.getElem?_eq_getElem (by omega)⟩
  have both : ∀ {i j}, al es i j ∨ al fs i j → (∃ x, es[i]? = some (some x)) ∧ ∃ x, es[j]? = some (some x) := fun {i j} h => by
    rcases h with ⟨x, e1, e2⟩ | ⟨x, e1, e2⟩
    · exact ⟨⟨x, e1⟩, ⟨x, e2⟩⟩
    · exact ⟨mk_at (mk_symm m) e1, mk_at (mk_symm m) e2⟩
  have link : ∀ {i j}, al es i j ∨ al fs i j → al (msk es (mrgL es fs)) i j := fun {i j} h => by
    obtain ⟨⟨x, ex⟩, ⟨y, ey⟩⟩ := both h
    have li := (List.getElem?_eq_some_iff.mp ex).1
    have lj := (List.getElem?_eq_some_iff.mp ey).1
    refine A.mpr ⟨⟨x, ex⟩, ⟨y, ey⟩, ?_⟩
    have one : ∀ {p a}, a < p → p < es.length → al es p a ∨ al fs p a → eqm (mrgL es fs) p a := fun {p a} lt lp q => by
      unfold mrgL
      rw [mrgAll_eq]
      exact fold_one _ _ (prs_mem.mpr ⟨lt, lp⟩) ((lkL_al m lp).mpr q) (by rw [List.length_range]; exact lp) (by rw [List.length_range]; omega)
    rcases Nat.lt_trichotomy j i with lt | e | lt
    · exact one lt li h
    · subst e; exact self li
    · obtain ⟨a, e1, e2⟩ := one lt lj (h.imp al_symm al_symm)
      exact ⟨a, e2, e1⟩
  refine ⟨?_, fun i j h => link (.inl h), fun i j h => link (.inr h), fun E sy tr h1 h2 i j h => ?_⟩
  · show (msk es (mrgL es fs)).map Option.isSome = es.map Option.isSome
    refine List.ext_getElem? fun i => ?_
    rw [List.getElem?_map, List.getElem?_map]
    unfold msk
    rw [List.getElem?_map]
    by_cases lt : i < es.length
    · rw [List.getElem?_range lt, Option.map_some, Option.map_some]
      cases q : es[i]? with
      | none => rw [List.getElem?_eq_none_iff] at q; omega
      | some o => cases o with
        | none => rfl
        | some x =>
          dsimp only
          rw [List.getElem?_eq_getElem (by omega)]
          rfl
    · rw [List.getElem?_eq_none_iff.mpr (by rw [List.length_range]; omega), List.getElem?_eq_none_iff.mpr (by omega)]
      rfl
  · obtain ⟨⟨x, ex⟩, ⟨y, ey⟩, q⟩ := A.mp h
    let F : Nat → Nat → Prop := fun i j => i = j ∨ E i j
    have w : F i j := by
      unfold mrgL at q
      rw [mrgAll_eq] at q
      have ht : ∀ i j k, F i j → F j k → F i k := by
        intro i j k h g
        rcases h with rfl | h
        · exact g
        · rcases g with rfl | g
          · exact .inr h
          · exact .inr (tr _ _ _ h g)
      have ha : ∀ i j, eqm (List.range es.length) i j → F i j := by
        rintro i j ⟨o, x, y⟩
        obtain ⟨l1, e1⟩ := List.getElem?_eq_some_iff.mp x
        obtain ⟨l2, e2⟩ := List.getElem?_eq_some_iff.mp y
        rw [List.getElem_range] at e1 e2
        exact .inl (e1.trans e2.symm)
      have hb : ∀ p a, (p, a) ∈ prs es.length → lkL es fs p a = true → F p a := by
        intro p a hm hl
        rcases (lkL_al m (prs_mem.mp hm).2).mp hl with z | z
        · exact .inr (h1 p a z)
        · exact .inr (h2 p a z)
      exact fold_least (E := F) (fun i j h => h.imp Eq.symm (sy i j)) ht _ _ ha hb q
    rcases w with rfl | w
    · exact h1 i i ⟨x, ex, ex⟩
    · exact w
def orE (es fs : Ent) : Ent := num (mrgP es fs)
theorem above_eq {es fs : Ent} (m : mk es fs) : num (msk es (mrgL es fs)) = orE es fs := or_uniq (mrgL_or m) (mrgP_or m)
theorem orE_is {es fs : Ent} (m : mk es fs) : IsOr es fs (orE es fs) := by
  have a := mrgP_or m
  exact ⟨mk_trans (num_mk _) a.mm, fun i j h => num_al.mpr (a.l i j h), fun i j h => num_al.mpr (a.r i j h), fun E sy tr h1 h2 i j h => a.least E sy tr h1 h2 i j (num_al.mp h)⟩
theorem orE_can {es fs : Ent} : Can (orE es fs) := num_can _
def prE (es fs : Ent) : List (Option (Nat × Nat)) := List.zipWith (fun a b => match a, b with
  | some x, some y => some (x, y)
  | _, _ => none) es fs
def anE (es fs : Ent) : Ent := num (prE es fs)
theorem prE_at {es fs : Ent} {i : Nat} {x y : Nat} : (prE es fs)[i]? = some (some (x, y)) ↔ es[i]? = some (some x) ∧ fs[i]? = some (some y) := by
  unfold prE
  rw [List.getElem?_zipWith]
  cases es[i]? with
  | none => simp
  | some a =>
    cases fs[i]? with
    | none => cases a <;> simp
    | some b => cases a <;> cases b <;> simp
theorem prE_mk {es fs : Ent} (m : mk es fs) : mk (prE es fs) es := by
  refine List.ext_getElem? fun i => ?_
  have l := mk_len m
  have q := congrArg (fun l : List Bool => l[i]?) m
  simp only [List.getElem?_map] at q
  rw [List.getElem?_map, List.getElem?_map]
  unfold prE
  rw [List.getElem?_zipWith]
  cases h : es[i]? with
  | none => rfl
  | some a =>
    cases g : fs[i]? with
    | none => rw [h, g] at q; cases q
    | some b =>
      rw [h, g] at q
      cases a <;> cases b <;> first | rfl | cases q
theorem anE_al {es fs : Ent} {i j : Nat} : al (anE es fs) i j ↔ al es i j ∧ al fs i j := by
  unfold anE
  rw [num_al]
  constructor
  · rintro ⟨⟨x, y⟩, h1, h2⟩
    obtain ⟨a1, a2⟩ := prE_at.mp h1
    obtain ⟨b1, b2⟩ := prE_at.mp h2
    exact ⟨⟨x, a1, b1⟩, ⟨y, a2, b2⟩⟩
  · rintro ⟨⟨x, a1, b1⟩, ⟨y, a2, b2⟩⟩
    exact ⟨(x, y), prE_at.mpr ⟨a1, a2⟩, prE_at.mpr ⟨b1, b2⟩⟩
theorem anE_mk {es fs : Ent} (m : mk es fs) : mk (anE es fs) es := mk_trans (num_mk _) (prE_mk m)
theorem anE_can {es fs : Ent} : Can (anE es fs) := num_can _
def Fin (es fs : Ent) : Prop := ∀ i j, al es i j → al fs i j
theorem or_al {es fs : Ent} (m : mk es fs) : (∀ i j, al es i j → al (orE es fs) i j) ∧ ∀ i j, al fs i j → al (orE es fs) i j := ⟨(orE_is m).l, (orE_is m).r⟩
theorem or_fin {es fs hs : Ent} (m : mk es fs) : Fin (orE es fs) hs ↔ Fin es hs ∧ Fin fs hs := by
  have o := orE_is m
  exact ⟨fun h => ⟨fun i j q => h i j (o.l i j q), fun i j q => h i j (o.r i j q)⟩, fun ⟨h, g⟩ i j q => o.least (al hs) (fun _ _ => al_symm) (fun _ _ _ => al_trans) h g i j q⟩
theorem an_fin {es fs hs : Ent} : Fin hs (anE es fs) ↔ Fin hs es ∧ Fin hs fs := ⟨fun h => ⟨fun i j q => (anE_al.mp (h i j q)).1, fun i j q => (anE_al.mp (h i j q)).2⟩, fun ⟨h, g⟩ i j q => anE_al.mpr ⟨h i j q, g i j q⟩⟩
theorem ent_ext {es fs : Ent} (c1 : Can es) (c2 : Can fs) (m : mk es fs) (h : Fin es fs) (g : Fin fs es) : es = fs := can_uniq c1 c2 m fun i j => ⟨h i j, g i j⟩
section
variable {es fs hs : Ent} (c1 : Can es) (c2 : Can fs) (c3 : Can hs) (m : mk es fs) (m2 : mk fs hs)
theorem or_mk' (m : mk es fs) : mk (orE es fs) es := (orE_is m).mm
theorem or_comm' (m : mk es fs) : orE fs es = orE es fs := ent_ext orE_can orE_can (mk_trans (or_mk' (mk_symm m)) (mk_trans (mk_symm m) (mk_symm (or_mk' m)))) ((or_fin (mk_symm m)).mpr ⟨(or_al m).2, (or_al m).1⟩) ((or_fin m).mpr ⟨(or_al (mk_symm m)).2, (or_al (mk_symm m)).1⟩)
theorem an_comm' (m : mk es fs) : anE fs es = anE es fs := ent_ext anE_can anE_can (mk_trans (anE_mk (mk_symm m)) (mk_trans (mk_symm m) (mk_symm (anE_mk m)))) (fun _ _ q => anE_al.mpr (anE_al.mp q).symm) fun _ _ q => anE_al.mpr (anE_al.mp q).symm
theorem or_self' (c : Can es) : orE es es = es := ent_ext orE_can c (or_mk' rfl) ((or_fin rfl).mpr ⟨fun _ _ q => q, fun _ _ q => q⟩) (or_al rfl).1
theorem an_self' (c : Can es) : anE es es = es := ent_ext anE_can c (anE_mk rfl) (fun _ _ q => (anE_al.mp q).1) fun _ _ q => anE_al.mpr ⟨q, q⟩
theorem or_an (c : Can es) (m : mk es fs) : orE es (anE es fs) = es := by
  have k : mk es (anE es fs) := mk_symm (anE_mk m)
  exact ent_ext orE_can c (or_mk' k) ((or_fin k).mpr ⟨fun _ _ q => q, fun _ _ q => (anE_al.mp q).1⟩) (or_al k).1
theorem an_or (c : Can es) (m : mk es fs) : anE es (orE es fs) = es := ent_ext anE_can c (anE_mk (mk_symm (or_mk' m))) (fun _ _ q => (anE_al.mp q).1) fun i j q => anE_al.mpr ⟨q, (or_al m).1 i j q⟩
theorem fin_or (c : Can fs) (m : mk es fs) : Fin es fs ↔ orE es fs = fs := ⟨fun h => ent_ext orE_can c (mk_trans (or_mk' m) m) ((or_fin m).mpr ⟨h, fun _ _ q => q⟩) (or_al m).2, fun h => h ▸ (or_al m).1⟩
theorem fin_an (c : Can es) (m : mk es fs) : Fin es fs ↔ anE es fs = es := ⟨fun h => ent_ext anE_can c (anE_mk m) (fun _ _ q => (anE_al.mp q).1) fun i j q => anE_al.mpr ⟨q, h i j q⟩, fun h i j q => (anE_al.mp (h.symm ▸ q)).2⟩
theorem or_assoc' (m : mk es fs) (m2 : mk fs hs) : orE (orE es fs) hs = orE es (orE fs hs) := by
  have k1 : mk (orE es fs) hs := mk_trans (or_mk' m) (mk_trans m m2)
  have k2 : mk es (orE fs hs) := mk_trans m (mk_symm (or_mk' m2))
  refine ent_ext orE_can orE_can (mk_trans (or_mk' k1) (mk_trans (or_mk' m) (mk_symm (or_mk' k2)))) ((or_fin k1).mpr ⟨(or_fin m).mpr ⟨(or_al k2).1, fun i j q => (or_al k2).2 i j ((or_al m2).1 i j q)⟩, fun i j q => (or_al k2).2 i j ((or_al m2).2 i j q)⟩) ?_
  exact (or_fin k2).mpr ⟨fun i j q => (or_al k1).1 i j ((or_al m).1 i j q), (or_fin m2).mpr ⟨fun i j q => (or_al k1).1 i j ((or_al m).2 i j q), (or_al k1).2⟩⟩
theorem an_assoc' (m : mk es fs) (m2 : mk fs hs) : anE (anE es fs) hs = anE es (anE fs hs) := by
  have k1 : mk (anE es fs) hs := mk_trans (anE_mk m) (mk_trans m m2)
  have k2 : mk es (anE fs hs) := mk_trans m (mk_symm (anE_mk m2))
  refine ent_ext anE_can anE_can (mk_trans (anE_mk k1) (mk_trans (anE_mk m) (mk_symm (anE_mk k2)))) (fun i j q => ?_) fun i j q => ?_
  · obtain ⟨a, b⟩ := anE_al.mp q
    obtain ⟨c, d⟩ := anE_al.mp a
    exact anE_al.mpr ⟨c, anE_al.mpr ⟨d, b⟩⟩
  · obtain ⟨a, b⟩ := anE_al.mp q
    obtain ⟨c, d⟩ := anE_al.mp b
    exact anE_al.mpr ⟨anE_al.mpr ⟨a, c⟩, d⟩
end
end G

namespace G
open PySem L2 NK TL
section
variable {S : Sto}
end
section
variable {S : Sto}
end
section
variable {S : Sto} {g g' : Gd}
theorem isi_at {env : NK.Env} {i : Nat} {u : U} {t : Tr} {cs : List Tr} {b : Bool} (he : env[i]? = some (some u)) (ht : trOf u S = some t) (hi : isAny isl t cs = some b) : eIsi isl cs (eVar i) env S = Out.ok (.bl b) S := by
  unfold eIsi eVar
  rw [he]
  show (match trOf u S with | some t => (match isAny isl t cs with | some b => Out.ok (U.bl b) S | none => Out.bad) | none => Out.bad) = _
  rw [ht]
  dsimp only
  rw [hi]
end
section
variable {S : Sto} {g g' : Gd}
theorem and_no {a b : ME} {env : NK.Env} (h : a env S = Out.ok (.bl false) S) : eAnd a b env S = Out.ok (.bl false) S := by
  unfold eAnd
  rw [h]
  rfl
end
section
variable {S : Sto} {g g' : Gd}
theorem and_yes {a b : ME} {env : NK.Env} {r : Out U} (h : a env S = Out.ok (.bl true) S) (h2 : b env S = r) : eAnd a b env S = r := by
  unfold eAnd
  rw [h]
  exact h2
end
section
variable {S : Sto} {g g' : Gd}
theorem fld_at {env : NK.Env} {i k j : Nat} {u w : U} (he : env[i]? = some (some u)) (hg : getF k j u S = some w) : eFld k j (eVar i) env S = Out.ok w S := by
  unfold eFld eVar
  rw [he]
  show (match getF k j u S with | some w => Out.ok w S | none => Out.bad) = _
  rw [hg]
end
section
variable {S : Sto} {g g' : Gd}
theorem beq_dec {α : Type} [DecidableEq α] [BEq α] [LawfulBEq α] (a b : α) : (a == b) = decide (a = b) := by
  by_cases h : a = b
  · subst h; simp
  · rw [beq_eq_false_iff_ne.mpr h, decide_eq_false h]
end
section
variable {S : Sto} {g g' : Gd}
end
section
variable {S : Sto} {g g' : Gd}
theorem fEq_int {i j : Int} : fEq (.int i) (.int j) S = Out.ok (.bl (decide (i = j))) S := by rw [fEq_ii, beq_dec]
end
section
variable {S : Sto} {g g' : Gd}
end
section
variable {S : Sto} {g g' : Gd}
theorem own_eq {k : Nat} {us : List U} {w : U} {t : Tr} {nf : List Tr} {mf : MF} {b : Bool} {S' : Sto} (hm : mf [.ins k us, w] S = Out.ok (.bl b) S') (ht : trOf w S = some t) (hn : t ∈ nf) : fEqO k nf mf (.ins k us) w S = Out.ok (.bl b) S' := by
  unfold fEqO
  rw [if_pos (by simp [isK, asIns]), ht]
  dsimp only
  rw [if_pos hn, hm]
end
section
variable {S : Sto} {g g' : Gd}
end
section
variable {S : Sto} {k : Klz} {x : Str}
end
section
def seqOf : U → Option (List U)
  | .tup us => some us
  | .lst us => some us
  | _ => none
end
section
variable {S : Sto} {m : ME} {env : NK.Env}
theorem drop_n {S1 : Sto} {r : U} (h : m env S = Out.ok r S1) : sDrop m env S = SO.next env S1 := by
  unfold sDrop
  rw [h]
  rfl
end
section
variable {S : Sto} {m : ME} {env : NK.Env}
theorem fld_n {k j : Nat} {us : List U} {w : U} {E : NK.Env} (h : m E (S ++ [.ins k us]) = Out.ok w (S ++ [.ins k us])) (h0 : E[0]? = some (some (.loc S.length))) (hj : j = us.length) : NK.sFld k j (eVar 0) m E (S ++ [.ins k us]) = SO.next E (S ++ [.ins k (us ++ [w])]) := by
  have p := put_s (S := S) (k := k) (j := j) (us := us) (w := w) hj
  unfold NK.sFld eVar
  rw [h]
  show (match E[0]? with | some (some u) => Out.ok u (S ++ [Ob.ins k us]) | _ => Out.bad).st E _ = _
  rw [h0]
  show (match putFld k j (.loc S.length) w (S ++ [.ins k us]) with | some st3 => SO.next E st3 | none => SO.bad) = _
  rw [p]
end
section
variable {S : Sto} {e1 e2 e3 e4 e5 : U} {ps qs : List (U × Option Klz)} {hq mq wq : RQ}
theorem call2 {k : Nat} {mf : MF} {a b : ME} {env : NK.Env} {x y : U} {r : Out U} (hk : k = 2) (ha : a env S = Out.ok x S) (hb : b env S = Out.ok y S) (h : mf [x, y] S = r) : eCall k mf [] (aCons a (aCons b aNil)) env S = r := by
  subst hk
  simp only [eCall, aCons, aNil, ha, hb, ob, List.append_nil]
  exact (if_pos rfl).trans h
end
section
variable {S : Sto} {e1 e2 e3 e4 e5 : U} {ps qs : List (U × Option Klz)} {hq mq wq : RQ}
theorem call1 {k : Nat} {mf : MF} {a : ME} {env : NK.Env} {x : U} {r : Out U} (hk : k = 1) (ha : a env S = Out.ok x S) (h : mf [x] S = r) : eCall k mf [] (aCons a aNil) env S = r := by
  subst hk
  unfold eCall aCons
  rw [ha]
  exact h
end
section
variable {S : Sto} {e1 e2 e3 e4 e5 : U} {ps qs : List (U × Option Klz)} {hq mq wq : RQ}
theorem call3 {k : Nat} {mf : MF} {a b c : ME} {env : NK.Env} {x y z : U} {r : Out U} (hk : k = 3) (ha : a env S = Out.ok x S) (hb : b env S = Out.ok y S) (hc : c env S = Out.ok z S) (h : mf [x, y, z] S = r) : eCall k mf [] (aCons a (aCons b (aCons c aNil))) env S = r := by
  subst hk
  simp only [eCall, aCons, aNil, ha, hb, hc, ob, List.append_nil]
  exact (if_pos rfl).trans h
end
section
variable {S : Sto} {e1 e2 e3 e4 e5 : U} {ps qs : List (U × Option Klz)} {hq mq wq : RQ}
theorem v_at {env : NK.Env} {i : Nat} {u : U} (h : env[i]? = some (some u)) : eVar i env S = Out.ok u S := by
  unfold eVar
  rw [h]
end
section
variable {st S : Sto} {h : Ob} {w : Nat} {ss : List Str}
theorem fs_lst {n : Nat} {mb : MS} {us : List U} {env : NK.Env} {st2 : Sto} {ext : Sto} {ws : List U} (he : us.map some ++ List.replicate (n - us.length) none = env) (hb : mb env S = SO.ret (.loc S.length) (st2 ++ ext)) (o : Old S st2) (hx : ext[0]? = some (.lst ws)) (hu : U.underL 0 ws = true) : fScope (runF n mb) us S = Out.ok (.lst ws) st2 := by
  show scopeOut S (runF n mb us S) = _
  rw [run_ret he hb]
  exact sc_loc (j := 0) ext o hx hu
end
section
variable {st S : Sto} {h : Ob} {w : Nat} {ss : List Str}
theorem app_drop {j : Nat} {us : List U} {w : U} {env : NK.Env} {i : Nat} {m : ME} {S1 : Sto} (he : env[i]? = some (some (.loc j))) (hl : isLoc (.loc j) S = true) (hm : m env S = Out.ok w S1) (hj : S1[j]? = some (.lst us)) (hz : us.length < 1000) : sDrop (eBM fApp (eVar i) (aCons m aNil)) env S = SO.next env (S1.set j (.lst (us ++ [w]))) := by
  refine drop_n (r := .non) ?_
  unfold eBM
  rw [v_at he, ob, if_pos hl]
  unfold aCons
  rw [hm]
  exact fApp_s hj (by omega)
end
section
variable {st S : Sto} {h : Ob} {w : Nat} {ss : List Str}
theorem isl_at {j : Nat} {us : List U} (h : S[j]? = some (.lst us)) : isLoc (.loc j) S = true := by
  unfold isLoc
  dsimp only
  rw [h]
end
section
variable {st S : Sto} {h : Ob} {w : Nat} {ss : List Str}
theorem set_last {S1 : Sto} {o o' : Ob} : (S1 ++ [o]).set S1.length o' = S1 ++ [o'] := by simp
end
section
variable {st S : Sto} {h : Ob} {w : Nat} {ss : List Str}
theorem at_last {S1 : Sto} {o : Ob} : (S1 ++ [o])[S1.length]? = some o := by simp
end
section
variable {st S : Sto} {h : Ob} {w : Nat} {ss : List Str}
theorem lit_drw {S S' : Sto} {ma : MA} {env : NK.Env} {us : List U} (h : ma env S = Out.ok us S') (o : Old S S') (hl : us.length ≤ 1000) (hu : U.underL 0 us = true) : eScope (eLst ma) env S = Out.ok (.lst us) S' := by
  rw [esl, h]
  show scopeOut S (lstK us S') = _
  rw [lstK_ok hl, show U.loc S'.length = U.loc (S.length + 0) from by rw [o.1]; rfl]
  exact sc_loc (j := 0) [.lst us] o rfl hu
end
section
variable {st S : Sto} {h : Ob} {w : Nat} {ss : List Str}
theorem call2m {k : Nat} {mf : MF} {a b : ME} {env : NK.Env} {x y : U} {r : Out U} {S1 S2 : Sto} (hk : k = 2) (ha : a env S = Out.ok x S1) (hb : b env S1 = Out.ok y S2) (h : mf [x, y] S2 = r) : eCall k mf [] (aCons a (aCons b aNil)) env S = r := by
  subst hk
  simp only [eCall, aCons, aNil, ha, hb, ob, List.append_nil]
  exact (if_pos rfl).trans h
end
section
variable {S S1 S2 : Sto} {env : NK.Env} {m1 m2 : ME} {a b : U} {us ws : List U}
theorem op2 {f : U → U → Sto → Out U} {r : Out U} (h1 : m1 env S = Out.ok a S1) (h2 : m2 env S1 = Out.ok b S2) (h : f a b S2 = r) : eOp f m1 m2 env S = r := by
  simp only [eOp, h1, h2, ob]
  exact h
end
section
variable {S S1 S2 : Sto} {env : NK.Env} {m1 m2 : ME} {a b : U} {us ws : List U}
end
section
variable {S S1 S2 : Sto} {env : NK.Env} {m1 m2 : ME} {a b : U} {us ws : List U}
end
section
variable {S S1 S2 : Sto} {env : NK.Env} {m1 m2 : ME} {a b : U} {us ws : List U}
theorem ixa {u : U} {i : Nat} {j : Int} (hj : j = (i : Int)) (h : us[i]? = some u) : fIx (.tup us) (.int j) S = Out.ok u S := by
  subst hj
  exact fIx_tup (by rw [NK.atI_nat]; exact h)
end
section
variable {S S1 S2 : Sto} {env : NK.Env} {m1 m2 : ME} {a b : U} {us ws : List U}
theorem tup2 (h1 : m1 env S = Out.ok a S1) (h2 : m2 env S1 = Out.ok b S2) : eTup (aCons m1 (aCons m2 aNil)) env S = Out.ok (.tup [a, b]) S2 := by
  simp only [eTup, aCons, aNil, h1, h2, ob]
  rfl
end
section
variable {S S1 S2 : Sto} {env : NK.Env} {m1 m2 : ME} {a b : U} {us ws : List U}
theorem if_yes {m : ME} {p q : MS} {r : SO} (h : m env S = Out.ok (.bl true) S1) (hp : p env S1 = r) : sIf (NK.tB m) p q env S = r := by
  simp only [sIf, NK.tB, h, ob]
  exact hp
end
section
variable {S S1 S2 : Sto} {env : NK.Env} {m1 m2 : ME} {a b : U} {us ws : List U}
theorem if_no {m : ME} {p q : MS} {r : SO} (h : m env S = Out.ok (.bl false) S1) (hq : q env S1 = r) : sIf (NK.tB m) p q env S = r := by
  simp only [sIf, NK.tB, h, ob]
  exact hq
end
section
variable {S S1 S2 : Sto} {env : NK.Env} {m1 m2 : ME} {a b : U} {us ws : List U}
theorem fs_lst1 {n : Nat} {mb : MS} {env : NK.Env} {vs : List U} {ext : Sto} {j : Nat} (he : vs.map some ++ List.replicate (n - vs.length) none = env) (hb : mb env S = SO.ret (.loc (S.length + j)) (S2 ++ ext)) (o : Old S S2) (hx : ext[j]? = some (.lst ws)) (hu : U.underL 0 ws = true) : fScope (runF n mb) vs S = Out.ok (.lst ws) S2 := by
  show scopeOut S (runF n mb vs S) = _
  rw [run_ret he hb]
  exact sc_loc (j := j) ext o hx hu
end
section
variable {S S1 S2 : Sto} {env : NK.Env} {m1 m2 : ME} {a b : U} {us ws : List U}
theorem ixe {u x : U} {i : Nat} (e : seqOf u = some us) (h : us[i]? = some x) : fIx u (.int (i : Int)) S = Out.ok x S := by
  cases u with
  | tup us' => cases e; exact ixa rfl h
  | lst us' => cases e; exact fIx_lst (by rw [NK.atI_nat]; exact h)
  | _ => cases e
end
section
variable {S S1 S2 S3 : Sto} {env : NK.Env} {m m1 m2 m3 : ME} {a b u x : U} {c : Cu}
theorem cb1 {f : List U → Sto → Out U} {r : Out U} (h : m env S = Out.ok a S1) (hf : f [a] S1 = r) : eCB f (aCons m aNil) env S = r := by
  simp only [eCB, aCons, aNil, h, ob]
  exact hf
end
section
variable {S S1 S2 S3 : Sto} {env : NK.Env} {m m1 m2 m3 : ME} {a b u x : U} {c : Cu}
end
section
variable {S S1 S2 S3 : Sto} {env : NK.Env} {m m1 m2 m3 : ME} {a b u x : U} {c : Cu}
theorem tB_of {b : Bool} (h : m env S = Out.ok (.bl b) S1) : NK.tB m env S = Out.ok b S1 := by
  simp only [NK.tB, h, ob]
end
section
variable {S S1 S2 S3 : Sto} {env : NK.Env} {m m1 m2 m3 : ME} {a b u x : U} {c : Cu}
theorem or_ff {t1 t2 : MT} (h1 : t1 env S = Out.ok false S1) (h2 : t2 env S1 = Out.ok false S2) : NK.tOr t1 t2 env S = Out.ok false S2 := by
  simp only [NK.tOr, h1, ob]
  exact h2
end
section
variable {S S1 S2 S3 : Sto} {env : NK.Env} {m m1 m2 m3 : ME} {a b u x : U} {c : Cu}
theorem if_f {t : MT} {p q : MS} {r : SO} (h : t env S = Out.ok false S1) (hq : q env S1 = r) : sIf t p q env S = r := by
  simp only [sIf, h, ob]
  exact hq
end
section
variable {S S1 : Sto} {env : NK.Env} {m m1 m2 : ME} {a b u x : U} {c : Cu} {n : Nat}
theorem if_t {t : MT} {p q : MS} {r : SO} (h : t env S = Out.ok true S1) (hp : p env S1 = r) : sIf t p q env S = r := by
  simp only [sIf, h, ob]
  exact hp
end
section
variable {S S1 : Sto} {env : NK.Env} {m m1 m2 : ME} {a b u x : U} {c : Cu} {n : Nat}
theorem eif_at {t : MT} {p q : ME} {bb : Bool} (h : t env S = Out.ok bb S1) : eIf t p q env S = if bb = true then p env S1 else q env S1 := by
  simp only [eIf, h, ob]
end
section
variable {S S1 : Sto} {env : NK.Env} {m m1 m2 : ME} {a b u x : U} {c : Cu} {n : Nat}
end
section
variable {S S1 : Sto} {e1 e2 e3 e4 e5 u : U} {ps qs : List (U × Option Klz)} {hq mq wq : RQ} {c c' : Cu} {n : Nat} {env : NK.Env}
end
section
variable {S S1 : Sto} {e1 e2 e3 e4 e5 u : U} {ps qs : List (U × Option Klz)} {hq mq wq : RQ} {c c' : Cu} {n : Nat} {env : NK.Env}
theorem and_at {a b : ME} {b1 b2 : Bool} (h1 : a env S = Out.ok (.bl b1) S) (h2 : b env S = Out.ok (.bl b2) S) : eAnd a b env S = Out.ok (.bl (b1 && b2)) S := by
  cases b1
  · exact and_no h1
  · exact and_yes h1 h2
end
section
variable {S S1 : Sto} {e1 e2 e3 e4 e5 u : U} {ps qs : List (U × Option Klz)} {hq mq wq : RQ} {c c' : Cu} {n : Nat} {env : NK.Env}
end
section
variable {S S1 S2 : Sto} {env : NK.Env} {m m1 m2 m3 : ME} {u v w : U} {r : Out U}
theorem ac1 (h1 : m1 env S = Out.ok u S1) : aCons m1 aNil env S = Out.ok [u] S1 := by
  simp only [aCons, aNil, h1, ob]
end
section
variable {S S1 S2 : Sto} {env : NK.Env} {m m1 m2 m3 : ME} {u v w : U} {r : Out U}
theorem acN {ma : MA} {us : List U} (h1 : m1 env S = Out.ok u S1) (h2 : ma env S1 = Out.ok us S2) : aCons m1 ma env S = Out.ok (u :: us) S2 := by
  simp only [aCons, h1, h2, ob]
end
section
variable {S : Sto} {env : NK.Env} {m m1 m2 : ME} {u v : U} {c : Ce} {s : Str}
end
section
variable {S : Sto} {env : NK.Env} {m m1 m2 : ME} {u v : U} {c : Ce} {s : Str}
end
section
variable {S : Sto} {env : NK.Env} {m m1 m2 : ME} {u v : U} {c : Ce} {s : Str}
theorem notK {t : MT} {b : Bool} {S1 : Sto} (h : t env S = Out.ok b S1) : NK.tNot t env S = Out.ok (!b) S1 := by
  simp only [NK.tNot, h, ob]
end
section
variable {S : Sto} {env : NK.Env} {m m1 m2 : ME} {u v : U} {c : Ce} {s : Str}
theorem truK {m : ME} {b : Bool} {S1 : Sto} (h : m env S = Out.ok (.bl b) S1) : NK.tTru m env S = Out.ok b S1 := by
  simp only [NK.tTru, h, ob, truth_bl]
end
section
variable {S : Sto} {env : NK.Env} {m m1 m2 : ME} {u v : U} {c : Ce} {s : Str}
theorem par_ok {i j : Nat} {ma : MA} {a b : U} {S1 : Sto} (h : ma env S = Out.ok [a, b] S1) : sPar i j ma env S = SO.next ((env.set i (some a)).set j (some b)) S1 := by
  unfold sPar
  rw [h]
  rfl
end
section
variable {S S1 : Sto} {env : NK.Env} {m m1 m2 : ME} {k : Str} {n : Nat} {c : Cu}
theorem asgT2 {i j : Nat} {a b : U} (h : m env S = Out.ok (.tup [a, b]) S1) : sAsg m (gT [i, j]) env S = SO.next ((env.set i (some a)).set j (some b)) S1 := by
  unfold sAsg
  rw [h]
  rfl
end
section
variable {α : Type} {g : Sto → Prop} {gt : MGt} {mt : MT} {me : ME} {mi : MI} {env : NK.Env} {st : Sto} {vs : List Nat}
theorem compM_genF (f r : α → U) (p : α → Bool) (hg : ∀ acc, g (st ++ [.lst acc])) : ∀ (as : List α) (acc : List U), acc.length + as.length ≤ 10000 →
    (∀ a ∈ as, ∀ acc, ∃ env1, gt (f a) (wipeE env vs) (st ++ [.lst acc]) = some env1 ∧ mt env1 (st ++ [.lst acc]) = .ok (p a) (st ++ [.lst acc]) ∧ (p a = true → me env1 (st ++ [.lst acc]) = .ok (r a) (st ++ [.lst acc]))) →
    compM g gt mt me st.length (wipeE env vs) (as.map f) (st ++ [.lst acc]) = .ok (.loc st.length) (st ++ [.lst (acc ++ (as.filter p).map r)])
  | [], acc, _, _ => by
    show compM g gt mt me st.length (wipeE env vs) [] (st ++ [.lst acc]) = _
    unfold compM
    rw [if_pos (hg acc)]
    simp
  | a :: as, acc, hz, h => by
    obtain ⟨env1, h1, h2, h3⟩ := h a List.mem_cons_self acc
    have h' := fun w hw => h w (List.mem_cons_of_mem _ hw)
    rw [List.length_cons] at hz
    rw [List.map_cons]
    unfold compM
    rw [if_pos (hg acc), h1]
    show (match mt env1 (st ++ [.lst acc]) with | .ok true st1 => _ | .ok false st1 => _ | _ => Out.bad) = _
    rw [h2]
    cases hp : p a with
    | false =>
      dsimp only
      rw [compM_genF f r p hg as acc (by omega) h', List.filter_cons_of_neg (by simp [hp])]
    | true =>
      dsimp only
      rw [h3 hp]
      dsimp only
      have e : (st ++ [Ob.lst acc])[st.length]? = some (.lst acc) := by simp
      rw [e]
      dsimp only
      rw [if_pos (by omega)]
      have e2 : (st ++ [Ob.lst acc]).set st.length (.lst (acc ++ [r a])) = st ++ [.lst (acc ++ [r a])] := by simp
      rw [e2, compM_genF f r p hg as (acc ++ [r a]) (by rw [List.length_append, List.length_singleton]; omega) h', List.filter_cons_of_pos hp]
      simp [List.append_assoc]
end
section
variable {α : Type} {g : Sto → Prop} {gt : MGt} {mt : MT} {me : ME} {mi : MI} {env : NK.Env} {st : Sto} {vs : List Nat}
theorem comp_genF (f r : α → U) (p : α → Bool) {as : List α} (hm : mi env st = .ok ⟨as.map f, g⟩ st) (hg : ∀ acc, g (st ++ [.lst acc])) (hz : as.length ≤ 10000)
    (h : ∀ a ∈ as, ∀ acc, ∃ env1, gt (f a) (wipeE env vs) (st ++ [.lst acc]) = some env1 ∧ mt env1 (st ++ [.lst acc]) = .ok (p a) (st ++ [.lst acc]) ∧ (p a = true → me env1 (st ++ [.lst acc]) = .ok (r a) (st ++ [.lst acc])))
    (hu : ∀ a ∈ as, p a = true → (r a).under 0 = true) : eScope (eComp mi gt mt me vs) env st = .ok (.lst ((as.filter p).map r)) st := by
  have e : eComp mi gt mt me vs env st = .ok (.loc st.length) (st ++ [.lst ((as.filter p).map r)]) := by
    unfold eComp
    rw [hm, ob]
    have := compM_genF (env := env) (gt := gt) (mt := mt) (me := me) (vs := vs) f r p hg as [] (by simpa using hz) h
    rw [List.nil_append] at this
    exact this
  unfold eScope
  rw [e]
  refine sc_loc (j := 0) [.lst _] (Old.refl st) rfl (underL_all fun u hu' => ?_)
  obtain ⟨a, ha, rfl⟩ := List.mem_map.mp hu'
  obtain ⟨h1, h2⟩ := List.mem_filter.mp ha
  exact hu a h1 h2
end
section
variable {S S1 : Sto} {env : NK.Env} {m m1 m2 : ME} {k : Klz} {c : Cu}
end
section
variable {S S1 : Sto} {env : NK.Env} {m m1 m2 : ME} {R Q : Six} {xs ys : List Str} {u v w : U} {n : Nat}
end
section
variable {S S1 : Sto} {env : NK.Env} {m m1 m2 : ME} {R Q : Six} {xs ys : List Str} {u v w : U} {n : Nat} {c : Cu} {cs : List Cu} {zs : List Str} {ps lp : List Pk}
end
section
variable {S S1 : Sto} {env : NK.Env} {m m1 m2 : ME} {R Q : Six} {xs ys : List Str} {u v w : U} {n : Nat} {c : Cu} {cs : List Cu} {zs : List Str} {ps lp : List Pk}
end
section
variable {S S1 S2 : Sto} {env : NK.Env} {m m1 m2 : ME} {R Q : Six} {xs ys zs : List Str} {u u0 u1 u2 v w : U} {cs cs' : List Cu} {ps lp ps' lp' : List Pk} {hs : Bool} {h h1 : Ob} {st : Sto}
theorem draw_at {j : Nat} {k : Int} (H : HOb h) (hj : env[j]? = some (some (.loc 0))) (hm : 0 < k) (hk : k < 100) : ∃ (d : Nat) (h' : Ob), HOb h' ∧ (d : Int) < k ∧ eCall 2 m_u_law_draw [] (aCons (eVar j) (aCons (eC (.int k)) aNil)) env (h :: st) = Out.ok (.int (d : Nat)) (h' :: st) := by
  obtain ⟨d, h', H', d0, d1, e⟩ := draw_ok (st := st) (m := k) H hm (Int.lt_trans hk (by decide))
  obtain ⟨i, rfl⟩ := Int.eq_ofNat_of_zero_le d0
  exact ⟨i, h', H', d1, call2 rfl (v_at hj) rfl e⟩
end
section
variable {S S1 S2 : Sto} {env : NK.Env} {m m1 m2 : ME} {R Q : Six} {xs ys zs : List Str} {u u0 u1 u2 v w : U} {cs cs' : List Cu} {ps lp ps' lp' : List Pk} {hs : Bool} {h h1 : Ob} {st : Sto}
end
section
variable {S S1 S2 : Sto} {env : NK.Env} {m m1 m2 : ME} {R Q : Six} {xs ys zs : List Str} {u u0 u1 u2 v w : U} {cs cs' : List Cu} {ps lp ps' lp' : List Pk} {hs : Bool} {h h1 : Ob} {st : Sto}
end
section
variable {S S1 S2 : Sto} {env : NK.Env} {m m1 m2 : ME} {R Q : Six} {xs ys zs : List Str} {u u0 u1 u2 v w : U} {cs cs' : List Cu} {ps lp ps' lp' : List Pk} {hs : Bool} {h h1 : Ob} {st : Sto}
end
section
variable {S S1 S2 : Sto} {env : NK.Env} {m m1 m2 : ME} {R Q : Six} {xs ys zs : List Str} {u u0 u1 u2 v w : U} {cs cs' : List Cu} {ps lp ps' lp' : List Pk} {hs : Bool} {h h1 : Ob} {st : Sto}
end
section
variable {S S1 : Sto} {env : NK.Env} {m m1 m2 : ME} {xs ys zs : List Str} {h h1 : Ob} {st : Sto}
end
end G

namespace G
open PySem L2 NK
def eU : Option Nat → U
  | none => .non
  | some k => .int (k : Nat)
def esU (es : Ent) : List U := es.map eU
def patI (es : Ent) : U := .ins 3 [.tup (esU es)]
theorem eU_und (o : Option Nat) : (eU o).under 0 = true := by cases o <;> rfl
theorem esU_und (es : Ent) : U.underL 0 (esU es) = true := underL_all fun u hu => by
  obtain ⟨o, _, rfl⟩ := List.mem_map.mp hu
  exact eU_und o
theorem pat_und (es : Ent) : (patI es).under 0 = true := by
  unfold patI U.under
  simp only [U.underL, U.under, esU_und, Bool.and_self]
section
variable {S S1 : Sto} {env : NK.Env} {m m1 m2 : ME} {es fs : Ent}
theorem cont_c {p q : MS} {env1 : NK.Env} (h : p env S = SO.cont env1 S1) : sSeq p q env S = SO.cont env1 S1 := by
  show SO.bind _ _ = _
  rw [h]
  rfl
theorem forM_ct {g : Sto → Prop} {gt : MGt} {b : MS} {u : U} {us : List U} {env env1 env2 : NK.Env} {r : SO} (hg : g S) (ht : gt u env S = some env1) (hb : b env1 S = SO.cont env2 S1) (h : NK.forM g gt b us env2 S1 = r) : NK.forM g gt b (u :: us) env S = r := by
  unfold NK.forM
  rw [if_pos hg, ht]
  dsimp only
  rw [hb]
  exact h
theorem ef_loop {e0 : Option U} : ∀ (es : Ent) (i m : Nat) (e2 e3 : Option U), canGo m es → ∃ e2' e3', NK.forM (fun _ => True) (gT [2, 3]) l_entries_fault_1 (enumFrom i (esU es)) [e0, some (.int (m : Nat)), e2, e3] S = SO.next [e0, some (.int (run m es : Nat)), e2', e3'] S
  | [], i, m, e2, e3, _ => ⟨e2, e3, forM_nil True.intro⟩
  | none :: es, i, m, e2, e3, c => by
    obtain ⟨e2', e3', ih⟩ := ef_loop (e0 := e0) es (i + 1) m (some (.int (i : Nat))) (some .non) c
    refine ⟨e2', e3', forM_ct (env1 := [e0, some (.int (m : Nat)), some (.int (i : Nat)), some .non]) (env2 := [e0, some (.int (m : Nat)), some (.int (i : Nat)), some .non]) (S1 := S) True.intro rfl ?_ ih⟩
    unfold l_entries_fault_1
    exact cont_c (if_yes (op2 (S1 := S) (S2 := S) (v_at (i := 3) rfl) rfl rfl) rfl)
  | some k :: es, i, m, e2, e3, c => by
    have le : k ≤ m := by rcases c with ⟨h, _⟩ | ⟨h, _⟩ <;> omega
    have hc : canGo (if k = m then m + 1 else m) es := by
      rcases c with ⟨h, c⟩ | ⟨h, c⟩
      · rw [if_neg (by omega)]; exact c
      · rw [if_pos h]; exact h ▸ c
    have hr : run m (some k :: es) = run (if k = m then m + 1 else m) es := by
      show (if k = m then run (m + 1) es else run m es) = _
      split <;> rfl
    obtain ⟨e2', e3', ih⟩ := ef_loop (e0 := e0) es (i + 1) (if k = m then m + 1 else m) (some (.int (i : Nat))) (some (.int (k : Nat))) hc
    rw [hr]
    refine ⟨e2', e3', (forM_n (env1 := [e0, some (.int (m : Nat)), some (.int (i : Nat)), some (.int (k : Nat))]) True.intro rfl ?_).trans ih⟩
    have n1 : NK.tB (eOp fIsN (eVar 3) (eC .non)) [e0, some (.int (m : Nat)), some (.int (i : Nat)), some (.int (k : Nat))] S = Out.ok false S := tB_of (op2 (S1 := S) (S2 := S) (v_at (i := 3) rfl) rfl rfl)
    have i1 := isi_at (S := S) (env := [e0, some (.int (m : Nat)), some (.int (i : Nat)), some (.int (k : Nat))]) (i := 3) (t := .b .int) (cs := [.b .int]) (b := true) rfl rfl rfl
    have i2 := isi_at (S := S) (env := [e0, some (.int (m : Nat)), some (.int (i : Nat)), some (.int (k : Nat))]) (i := 3) (t := .b .int) (cs := [.b .bool]) (b := false) rfl rfl rfl
    have l0 : eOp fLt (eVar 3) (eC (.int 0)) [e0, some (.int (m : Nat)), some (.int (i : Nat)), some (.int (k : Nat))] S = Out.ok (.bl false) S := op2 (S1 := S) (S2 := S) (v_at (i := 3) rfl) rfl (by
      show Out.ok (U.bl (decide (((k : Nat) : Int) < 0))) S = _
      rw [decide_eq_false (by omega)])
    have t2 := or_ff (notK (b := true) (truK i1)) (or_ff (truK i2) (tB_of l0))
    have g : eOp fGt (eVar 3) (eVar 1) [e0, some (.int (m : Nat)), some (.int (i : Nat)), some (.int (k : Nat))] S = Out.ok (.bl false) S := op2 (S1 := S) (S2 := S) (v_at (i := 3) rfl) (v_at (i := 1) rfl) (by
      show Out.ok (U.bl (decide (((m : Nat) : Int) < ((k : Nat) : Int)))) S = _
      rw [decide_eq_false (by omega)])
    have q : eOp fEq (eVar 3) (eVar 1) [e0, some (.int (m : Nat)), some (.int (i : Nat)), some (.int (k : Nat))] S = Out.ok (.bl (decide (((k : Nat) : Int) = ((m : Nat) : Int)))) S := op2 (S1 := S) (S2 := S) (v_at (i := 3) rfl) (v_at (i := 1) rfl) fEq_int
    unfold l_entries_fault_1
    refine seq_n (if_f n1 rfl) (seq_n (if_f t2 rfl) (seq_n (if_no g rfl) ?_))
    by_cases e : k = m
    · rw [if_pos e]
      refine if_yes (q.trans (by rw [decide_eq_true (by omega)])) (asg_ok (i := 1) (op2 (S1 := S) (S2 := S) (v_at (i := 1) rfl) rfl ?_))
      rw [fAdd_i]
      rfl
    · rw [if_neg e]
      exact if_no (q.trans (by rw [decide_eq_false (by omega)])) rfl
inductive SqE : U → Ent → Prop where
  | l (es : Ent) : SqE (.lst (esU es)) es
  | t (es : Ent) : SqE (.tup (esU es)) es
theorem fault_ok {u : U} (q : SqE u es) (c : Can es) (hl : es.length ≤ 40) : m_entries_fault [u] S = Out.ok .non S := by
  obtain ⟨e2, e3, f⟩ := ef_loop (S := S) (e0 := some u) es 0 0 none none c
  refine fs_same (n := 4) (mb := b_entries_fault) (env := [some u, none, none, none]) rfl ?_ rfl
  have le : (esU es).length = es.length := List.length_map ..
  have t1 : NK.tOr (NK.tNot (NK.tTru (eIsi isl [(.b .list), (.b .tuple)] (eVar 0)))) (NK.tB (eOp fGt (eCB fLen (aCons (eVar 0) aNil)) (eC (.int 40)))) [some u, none, none, none] S = Out.ok false S := by
    have ln : eCB fLen (aCons (eVar 0) aNil) [some u, none, none, none] S = Out.ok (.int (es.length : Nat)) S := cb1 (S1 := S) (v_at (i := 0) rfl) (by
      rw [← le]
      cases q <;> rfl)
    have g : eOp fGt (eCB fLen (aCons (eVar 0) aNil)) (eC (.int 40)) [some u, none, none, none] S = Out.ok (.bl false) S := op2 (S1 := S) (S2 := S) ln rfl (by
      show Out.ok (U.bl (decide ((40 : Int) < ((es.length : Nat) : Int)))) S = _
      rw [decide_eq_false (by omega)])
    cases q with
    | l => exact or_ff (notK (b := true) (truK (isi_at (S := S) (i := 0) (t := .b .list) rfl rfl rfl))) (tB_of g)
    | t => exact or_ff (notK (b := true) (truK (isi_at (S := S) (i := 0) (t := .b .tuple) rfl rfl rfl))) (tB_of g)
  unfold b_entries_fault
  refine seq_n (if_f t1 rfl) (seq_n (asg_ok (i := 1) (u := .int ((0 : Nat) : Int)) rfl) (seq_n (sFor_ok (us := enumFrom 0 (esU es)) (g := fun _ => True) (S1 := S) ?_ f) (ret_ok rfl)))
  cases q <;> rfl
theorem init_ok {u : U} (q : SqE u es) (c : Can es) (hl : es.length ≤ 40) : m_Pattern___init [.loc S.length, u] (S ++ [.ins 3 []]) = Out.ok .non (S ++ [.ins 3 [.tup (esU es)]]) := by
  refine run_next (n := 3) (mb := b_Pattern___init) (env := [some (.loc S.length), some u, none]) rfl (env' := [some (.loc S.length), some u, some .non]) ?_
  unfold b_Pattern___init
  refine seq_n (asg_ok (i := 2) (call1 rfl (v_at rfl) (fault_ok q c hl))) (seq_n (if_no (op2 (S1 := S ++ [.ins 3 []]) (S2 := S ++ [.ins 3 []]) (v_at (i := 2) rfl) rfl rfl) rfl) ?_)
  exact fld_n (us := []) (w := .tup (esU es)) (cb1 (S1 := S ++ [.ins 3 []]) (v_at (i := 1) rfl) (by cases q <;> rfl)) rfl rfl
theorem make_at {u : U} (q : SqE u es) (c : Can es) (hl : es.length ≤ 40) (h : m env S = Out.ok u S) : eScope (eMake 3 2 m_Pattern___init [] (aCons m aNil)) env S = Out.ok (patI es) S := mk_ok (ac1 h) rfl (init_ok q c hl) (by simp only [U.underL, U.under, esU_und, Bool.and_self])
theorem esU_at {i : Nat} {o : Option Nat} (h : es[i]? = some o) : (esU es)[i]? = some (eU o) := by
  unfold esU
  rw [List.getElem?_map, h]
  rfl
theorem cm_step {e0 e1 : Option U} {o p : Option Nat} (h : o.isSome = p.isSome) : l_check_match_1 [e0, e1, some (eU o), some (eU p)] S = SO.next [e0, e1, some (eU o), some (eU p)] S := by
  unfold l_check_match_1
  refine if_no (S1 := S) (op2 (S1 := S) (S2 := S) (a := .bl (!o.isSome)) (b := .bl (!p.isSome)) (op2 (S1 := S) (S2 := S) (v_at (i := 2) rfl) rfl (by cases o <;> rfl)) (op2 (S1 := S) (S2 := S) (v_at (i := 3) rfl) rfl (by cases p <;> rfl)) ?_) rfl
  rw [h]
  exact ne_same rfl
theorem cm_loop {e0 e1 : Option U} : ∀ (es fs : Ent) (e2 e3 : Option U), mk es fs → ∃ e2' e3', NK.forM (fun _ => True) (gT [2, 3]) l_check_match_1 (zipU (esU es) (esU fs)) [e0, e1, e2, e3] S = SO.next [e0, e1, e2', e3'] S
  | [], fs, e2, e3, h => ⟨e2, e3, by
    cases fs with
    | nil => exact forM_nil True.intro
    | cons p fs => cases h⟩
  | o :: es, [], e2, e3, h => by cases h
  | o :: es, p :: fs, e2, e3, h => by
    obtain ⟨h1, h2⟩ := List.cons.inj h
    obtain ⟨e2', e3', ih⟩ := cm_loop (e0 := e0) (e1 := e1) es fs (some (eU o)) (some (eU p)) h2
    exact ⟨e2', e3', (forM_n (env1 := [e0, e1, some (eU o), some (eU p)]) True.intro rfl (cm_step h1)).trans ih⟩
theorem match_ok (h : mk es fs) : m_check_match [patI es, patI fs] S = Out.ok .non S := by
  obtain ⟨e2, e3, f⟩ := cm_loop (S := S) (e0 := some (patI es)) (e1 := some (patI fs)) es fs none none h
  have ln : ∀ {i : Nat} {gs : Ent}, ([some (patI es), some (patI fs), none, none] : NK.Env)[i]? = some (some (patI gs)) → eCB fLen (aCons (eFld 3 0 (eVar i)) aNil) [some (patI es), some (patI fs), none, none] S = Out.ok (.int (gs.length : Nat)) S := fun {i gs} e => cb1 (S1 := S) (fld_at e rfl) (by
    show Out.ok (U.int ((esU gs).length : Nat)) S = _
    unfold esU
    rw [List.length_map])
  refine fs_non0 (n := 4) (mb := b_check_match) (env := [some (patI es), some (patI fs), none, none]) (env' := [some (patI es), some (patI fs), e2, e3]) rfl ?_
  unfold b_check_match
  refine seq_n (if_no (S1 := S) (op2 (S1 := S) (S2 := S) (ln (gs := es) rfl) (ln (gs := fs) rfl) ?_) rfl) (sFor_ok (us := zipU (esU es) (esU fs)) (g := fun _ => True) (S1 := S) ?_ f)
  · rw [mk_len h]
    exact ne_same rfl
  · unfold NK.iZip
    rw [acN (S1 := S) (u := .tup (esU es)) (fld_at rfl rfl) (ac1 (u := .tup (esU fs)) (fld_at rfl rfl))]
    rfl
end
end G

namespace G
open PySem L2 NK
section
variable {S S1 : Sto} {env : NK.Env} {m m1 m2 : ME} {es fs : Ent} {o p : Option Nat}
theorem eU_ok (o : Option Nat) : okU 12 (eU o) = true := by cases o <;> rfl
theorem eU_eqv (o p : Option Nat) : eqvU (eU o) (eU p) = decide (o = p) := by
  cases o with
  | none => cases p with
    | none => exact eqvU_same rfl
    | some b =>
      rw [decide_eq_false (fun z => nomatch z)]
      simp [eU, eqvU, datU, PyData.eqv]
  | some a => cases p with
    | none =>
      rw [decide_eq_false (fun z => nomatch z)]
      simp [eU, eqvU, datU, PyData.eqv]
    | some b =>
      show eqvU (.int (a : Nat)) (.int (b : Nat)) = _
      rw [eqv_ii, beq_dec]
      exact decide_eq_decide.mpr ⟨fun h => by rw [Int.ofNat.inj h], fun h => by cases h; rfl⟩
theorem eU_eq : fEq (eU o) (eU p) S = Out.ok (.bl (decide (o = p))) S := by rw [fEq_ok (eU_ok o) (eU_ok p), eU_eqv]
theorem eU_ne : fNe (eU o) (eU p) S = Out.ok (.bl (!decide (o = p))) S := by rw [fNe_ok (eU_ok o) (eU_ok p), eU_eqv]
theorem tand_at {t1 t2 : MT} {b1 b2 : Bool} (h1 : t1 env S = Out.ok b1 S) (h2 : t2 env S = Out.ok b2 S) : NK.tAnd t1 t2 env S = Out.ok (b1 && b2) S := by
  simp only [NK.tAnd, h1, ob]
  cases b1
  · rfl
  · exact h2
theorem ix_tupE {i : Nat} {u : U} {j : Int} {us : List U} (hm : m env S = Out.ok (.tup us) S) (h2 : m1 env S = Out.ok (.int (i : Nat)) S) (h : us[i]? = some u) : eOp fIx m m1 env S = Out.ok u S := op2 hm h2 (ixe (u := .tup us) rfl h)
theorem ix_lstE {i : Nat} {u : U} {us : List U} (hm : m env S = Out.ok (.lst us) S) (h2 : m1 env S = Out.ok (.int (i : Nat)) S) (h : us[i]? = some u) : eOp fIx m m1 env S = Out.ok u S := op2 hm h2 (ixe (u := .lst us) rfl h)
theorem mm_step {M : Ent} {p a : Nat} {e0 e5 e6 e7 : Option U} (hp : p < fs.length) (ha : a < fs.length) (hM : M.length = fs.length) (hl : fs.length ≤ 1000) :
    ∃ e5' e6', l_merged_marks_1 [e0, some (.tup (esU fs)), some (.lst (esU M)), some (.int (p : Nat)), some (.int (a : Nat)), e5, e6, e7] S = SO.next [e0, some (.tup (esU fs)), some (.lst (esU (stpL (lkP fs) M (p, a)))), some (.int (p : Nat)), some (.int (a : Nat)), e5', e6', e7] S := by
  have fp : fs[p]? = some fs[p] := List.getElem?_eq_getElem hp
  have fa : fs[a]? = some fs[a] := List.getElem?_eq_getElem ha
  have mp : M[p]? = some (M[p]'(by omega)) := List.getElem?_eq_getElem (by omega)
  have ma : M[a]? = some (M[a]'(by omega)) := List.getElem?_eq_getElem (by omega)
  generalize M[p]'(by omega) = x at mp
  generalize M[a]'(by omega) = y at ma
  generalize fs[p] = o at fp
  generalize fs[a] = q at fa
  have v1p : ∀ {e5 e6 : Option U}, eOp fIx (eVar 1) (eVar 3) [e0, some (.tup (esU fs)), some (.lst (esU M)), some (.int (p : Nat)), some (.int (a : Nat)), e5, e6, e7] S = Out.ok (eU o) S := fun {_ _} => ix_tupE (j := 0) (v_at rfl) (v_at rfl) (esU_at fp)
  have v1a : ∀ {e5 e6 : Option U}, eOp fIx (eVar 1) (eVar 4) [e0, some (.tup (esU fs)), some (.lst (esU M)), some (.int (p : Nat)), some (.int (a : Nat)), e5, e6, e7] S = Out.ok (eU q) S := fun {_ _} => ix_tupE (j := 0) (v_at rfl) (v_at rfl) (esU_at fa)
  have v2p : ∀ {e5 e6 : Option U}, eOp fIx (eVar 2) (eVar 3) [e0, some (.tup (esU fs)), some (.lst (esU M)), some (.int (p : Nat)), some (.int (a : Nat)), e5, e6, e7] S = Out.ok (eU x) S := fun {_ _} => ix_lstE (v_at rfl) (v_at rfl) (esU_at mp)
  have v2a : ∀ {e5 e6 : Option U}, eOp fIx (eVar 2) (eVar 4) [e0, some (.tup (esU fs)), some (.lst (esU M)), some (.int (p : Nat)), some (.int (a : Nat)), e5, e6, e7] S = Out.ok (eU y) S := fun {_ _} => ix_lstE (v_at rfl) (v_at rfl) (esU_at ma)
  have n1 : eOp fNotN (eOp fIx (eVar 1) (eVar 3)) (eC .non) [e0, some (.tup (esU fs)), some (.lst (esU M)), some (.int (p : Nat)), some (.int (a : Nat)), e5, e6, e7] S = Out.ok (.bl o.isSome) S := op2 (S1 := S) (S2 := S) (a := eU o) (b := .non) v1p rfl (by cases o <;> rfl)
  have t := tand_at (tB_of n1) (tand_at (tB_of (op2 (S1 := S) (S2 := S) (v1p (e5 := e5) (e6 := e6)) v1a eU_eq)) (tB_of (op2 (S1 := S) (S2 := S) (v2p (e5 := e5) (e6 := e6)) v2a eU_ne)))
  have lk : lkP fs p a = (o.isSome && decide (o = q)) := by
    unfold lkP
    rw [fp, fa]
    cases o with
    | none => rfl
    | some b =>
      cases q with
      | none => rfl
      | some c =>
        show (b == c) = (true && decide (some b = some c))
        rw [beq_dec, Bool.true_and]
        exact decide_eq_decide.mpr ⟨fun h => by rw [h], fun h => by cases h; rfl⟩
  unfold l_merged_marks_1 stpL
  rw [← Bool.and_assoc, ← lk] at t
  cases hl : lkP fs p a with
  | false =>
    rw [hl] at t
    rw [if_neg Bool.false_ne_true]
    exact ⟨e5, e6, if_f t rfl⟩
  | true =>
    rw [hl, Bool.true_and] at t
    rw [if_pos rfl]
    unfold mrg
    rw [mp, ma]
    dsimp only
    by_cases e : x = y
    · rw [decide_eq_true e] at t
      rw [if_pos e]
      exact ⟨e5, e6, if_f t rfl⟩
    · rw [decide_eq_false e] at t
      rw [if_neg e]
      refine ⟨some (eU x), some (eU y), if_t t (seq_n (asgT2 (tup2 (S1 := S) v2p v2a)) (asg_ok (i := 2) ?_))⟩
      have c := comp_all (st := S) (i := 7) (g := fun _ => True) (env := [e0, some (.tup (esU fs)), some (.lst (esU M)), some (.int (p : Nat)), some (.int (a : Nat)), some (eU x), some (eU y), e7]) (mi := iSeq (eVar 2)) (me := eIf (NK.tB (eOp fEq (eVar 7) (eVar 5))) (eVar 6) (eVar 7)) (as := M) eU (fun m => eU (if m = x then y else m)) rfl (fun _ => True.intro) (by omega) (fun m _ acc => by
        have w : eOp fEq (eVar 7) (eVar 5) [e0, some (.tup (esU fs)), some (.lst (esU M)), some (.int (p : Nat)), some (.int (a : Nat)), some (eU x), some (eU y), some (eU m)] (S ++ [.lst acc]) = Out.ok (.bl (decide (m = x))) (S ++ [.lst acc]) := op2 (S1 := S ++ [.lst acc]) (S2 := S ++ [.lst acc]) (a := eU m) (b := eU x) (v_at rfl) (v_at rfl) eU_eq
        refine (eif_at (tB_of w)).trans ?_
        by_cases z : m = x
        · rw [if_pos (decide_eq_true z), if_pos z]
          exact v_at rfl
        · rw [if_neg (by rw [decide_eq_false z]; exact Bool.false_ne_true), if_neg z]
          exact v_at rfl) (fun _ _ => eU_und _)
      refine c.trans ?_
      unfold esU
      rw [List.map_map]
      rfl
end
end G

namespace G
open PySem L2 NK
section
variable {S S1 : Sto} {env : NK.Env} {m m1 m2 : ME} {es fs : Ent}
theorem stpL_len {β : Type} [DecidableEq β] {lk : Nat → Nat → Bool} {M : List β} {q : Nat × Nat} : (stpL lk M q).length = M.length := by
  unfold stpL
  split
  · exact mrg_len
  · rfl
theorem in_len {β : Type} [DecidableEq β] {lk : Nat → Nat → Bool} {p : Nat} : ∀ (as : List Nat) (M : List β), (as.foldl (fun M a => stpL lk M (p, a)) M).length = M.length
  | [], _ => rfl
  | a :: as, M => by rw [List.foldl_cons, in_len as, stpL_len]
theorem mm_in {p : Nat} {e0 e7 : Option U} (hp : p < fs.length) (hl : fs.length ≤ 1000) : ∀ (as : List Nat) (M : Ent) (e4 e5 e6 : Option U), (∀ a ∈ as, a < fs.length) → M.length = fs.length →
    ∃ e4' e5' e6', NK.forM (fun _ => True) (gN 4) l_merged_marks_1 (as.map fun (i : Nat) => U.int (0 + (i : Int))) [e0, some (.tup (esU fs)), some (.lst (esU M)), some (.int (p : Nat)), e4, e5, e6, e7] S = SO.next [e0, some (.tup (esU fs)), some (.lst (esU (as.foldl (fun M a => stpL (lkP fs) M (p, a)) M))), some (.int (p : Nat)), e4', e5', e6', e7] S
  | [], M, e4, e5, e6, _, _ => ⟨e4, e5, e6, forM_nil True.intro⟩
  | a :: as, M, e4, e5, e6, ha, hM => by
    obtain ⟨f5, f6, s⟩ := mm_step (S := S) (e0 := e0) (e5 := e5) (e6 := e6) (e7 := e7) hp (ha a List.mem_cons_self) hM hl
    obtain ⟨e4', e5', e6', ih⟩ := mm_in (e0 := e0) (e7 := e7) hp hl as (stpL (lkP fs) M (p, a)) (some (.int (0 + (a : Int)))) f5 f6 (fun x hx => ha x (List.mem_cons_of_mem _ hx)) (by rw [stpL_len, hM])
    have ei : (0 + (a : Int)) = ((a : Nat) : Int) := Int.zero_add _
    refine ⟨e4', e5', e6', (forM_n (env1 := [e0, some (.tup (esU fs)), some (.lst (esU M)), some (.int (p : Nat)), some (.int (0 + (a : Int))), e5, e6, e7]) True.intro rfl ?_).trans ih⟩
    rw [ei]
    exact s
theorem mm_out {e0 e7 : Option U} (hl : fs.length ≤ 1000) : ∀ (ps : List Nat) (M : Ent) (e3 e4 e5 e6 : Option U), (∀ p ∈ ps, p < fs.length) → M.length = fs.length →
    ∃ e3' e4' e5' e6', NK.forM (fun _ => True) (gN 3) l_merged_marks_2 (ps.map fun (i : Nat) => U.int (0 + (i : Int))) [e0, some (.tup (esU fs)), some (.lst (esU M)), e3, e4, e5, e6, e7] S = SO.next [e0, some (.tup (esU fs)), some (.lst (esU (ps.foldl (fun M p => (List.range p).foldl (fun M a => stpL (lkP fs) M (p, a)) M) M))), e3', e4', e5', e6', e7] S
  | [], M, e3, e4, e5, e6, _, _ => ⟨e3, e4, e5, e6, forM_nil True.intro⟩
  | p :: ps, M, e3, e4, e5, e6, hp, hM => by
    have lp := hp p List.mem_cons_self
    obtain ⟨f4, f5, f6, s⟩ := mm_in (S := S) (e0 := e0) (e7 := e7) lp hl (List.range p) M e4 e5 e6 (fun a ha => Nat.lt_trans (List.mem_range.mp ha) lp) hM
    obtain ⟨e3', e4', e5', e6', ih⟩ := mm_out (e0 := e0) (e7 := e7) hl ps ((List.range p).foldl (fun M a => stpL (lkP fs) M (p, a)) M) (some (.int (0 + (p : Int)))) f4 f5 f6 (fun x hx => hp x (List.mem_cons_of_mem _ hx)) (by rw [in_len, hM])
    have ei : (0 + (p : Int)) = ((p : Nat) : Int) := Int.zero_add _
    refine ⟨e3', e4', e5', e6', (forM_n (env1 := [e0, some (.tup (esU fs)), some (.lst (esU M)), some (.int (0 + (p : Int))), e4, e5, e6, e7]) True.intro rfl ?_).trans ih⟩
    rw [ei]
    unfold l_merged_marks_2
    exact sFor_ok (rng_ok (n := p) (ac1 (v_at rfl)) (by omega)) s
theorem marks_ok (h : mk es fs) (hl : es.length ≤ 1000) : m_merged_marks [.tup (esU es), .tup (esU fs)] S = Out.ok (.lst (esU (mrgP es fs))) S := by
  have le := mk_len h
  obtain ⟨e3, e4, e5, e6, f⟩ := mm_out (S := S) (fs := fs) (e0 := some (.tup (esU es))) (e7 := none) (by omega) (List.range es.length) es none none none none (fun p hp => by have := List.mem_range.mp hp; omega) le
  refine fs_same (n := 8) (mb := b_merged_marks) (env := [some (.tup (esU es)), some (.tup (esU fs)), none, none, none, none, none, none]) rfl ?_ (by unfold U.under; exact esU_und _)
  have a : eScope (eCB fList (aCons (eVar 0) aNil)) [some (.tup (esU es)), some (.tup (esU fs)), none, none, none, none, none, none] S = Out.ok (.lst (esU es)) S := by
    unfold eScope
    rw [show eCB fList (aCons (eVar 0) aNil) [some (.tup (esU es)), some (.tup (esU fs)), none, none, none, none, none, none] S = Out.ok (.loc S.length) (S ++ [.lst (esU es)]) from cb1 (S1 := S) (v_at rfl) rfl]
    exact sc_lit rfl (esU_und _)
  have ln : eCB fLen (aCons (eVar 2) aNil) [some (.tup (esU es)), some (.tup (esU fs)), some (.lst (esU es)), none, none, none, none, none] S = Out.ok (.int (es.length : Nat)) S := cb1 (S1 := S) (v_at (i := 2) rfl) (by
    show Out.ok (U.int ((esU es).length : Nat)) S = _
    unfold esU
    rw [List.length_map])
  unfold b_merged_marks
  exact seq_n (asg_ok (i := 2) a) (seq_n (sFor_ok (rng_ok (n := es.length) (ac1 ln) hl) f) (ret_ok (v_at rfl)))
end
section
variable {α κ : Type} [DecidableEq α] [DecidableEq κ]
def kvG (f : α → κ) : Nat → List α → List (κ × U)
  | _, [] => []
  | i, k :: ks => (f k, .int (i : Nat)) :: kvG f (i + 1) ks
theorem kvG_len {f : α → κ} : ∀ (ks : List α) (i : Nat), (kvG f i ks).length = ks.length
  | [], _ => rfl
  | _ :: ks, i => by unfold kvG; rw [List.length_cons, kvG_len ks, List.length_cons]
theorem kvG_val {f : α → κ} (hf : ∀ a b, f a = f b → a = b) : ∀ (ks : List α) (i : Nat) (x : α), valU (kvG f i ks) (f x) = if x ∈ ks then some (.int ((i + ks.idxOf x : Nat) : Int)) else none
  | [], i, x => by rw [if_neg (by simp)]; rfl
  | k :: ks, i, x => by
    unfold kvG valU
    rw [List.find?_cons]
    by_cases e : k = x
    · subst e
      rw [decide_eq_true rfl]
      dsimp only
      rw [Option.map_some, if_pos List.mem_cons_self, List.idxOf_cons_self]
      rfl
    · rw [decide_eq_false fun z => e (hf _ _ z)]
      dsimp only
      have ih := kvG_val hf ks (i + 1) x
      unfold valU at ih
      rw [ih]
      by_cases m : x ∈ ks
      · rw [if_pos m, if_pos (List.mem_cons_of_mem _ m), List.idxOf_cons, show (k == x) = false from beq_eq_false_iff_ne.mpr e, cond_false]
        congr 3
        omega
      · rw [if_neg m, if_neg fun z => (List.mem_cons.mp z).elim (fun w => e w.symm) m]
theorem kvG_any {f : α → κ} (hf : ∀ a b, f a = f b → a = b) : ∀ (ks : List α) (i : Nat) (x : α), x ∉ ks → ((kvG f i ks).any fun kv => decide (kv.1 = f x)) = false
  | [], _, _, _ => rfl
  | k :: ks, i, x, h => by
    unfold kvG
    rw [List.any_cons, kvG_any hf ks (i + 1) x fun z => h (List.mem_cons_of_mem _ z), Bool.or_false]
    exact decide_eq_false fun z => h (by rw [hf _ _ z]; exact List.mem_cons_self)
theorem kvG_app {f : α → κ} : ∀ (ks : List α) (i : Nat) (x : α), kvG f i (ks ++ [x]) = kvG f i ks ++ [(f x, .int ((i + ks.length : Nat) : Int))]
  | [], i, x => rfl
  | k :: ks, i, x => by
    show (f k, U.int (i : Nat)) :: kvG f (i + 1) (ks ++ [x]) = _
    rw [kvG_app ks (i + 1) x, List.length_cons, show i + 1 + ks.length = i + (ks.length + 1) by omega]
    rfl
theorem kvG_put {f : α → κ} (hf : ∀ a b, f a = f b → a = b) {ks : List α} {x : α} (h : x ∉ ks) : putU (kvG f 0 ks) (f x) (.int (ks.length : Nat)) = kvG f 0 (ks ++ [x]) := by
  unfold putU
  rw [kvG_any hf ks 0 x h, if_neg Bool.false_ne_true, kvG_app, Nat.zero_add]
end
end G

namespace G
open PySem L2 NK
def kI (k : Nat) : Key := .inl (k : Int)
theorem kI_inj (a b : Nat) (h : kI a = kI b) : a = b := Int.ofNat.inj (Sum.inl.inj h)
def CS (S : Sto) (kv : List (Key × U)) (found : List U) : Sto := S ++ [.dK kv, .lst found]
section
variable {S S1 : Sto} {env : NK.Env} {m m1 m2 : ME} {M : Ent} {kv : List (Key × U)} {found : List U}
theorem cs_a : (CS S kv found)[S.length]? = some (.dK kv) := by unfold CS; simp
theorem cs_b : (CS S kv found)[S.length + 1]? = some (.lst found) := by unfold CS; simp
theorem cs_sa {kv' : List (Key × U)} : (CS S kv found).set S.length (.dK kv') = CS S kv' found := by unfold CS; simp
theorem cs_sb {f' : List U} : (CS S kv found).set (S.length + 1) (.lst f') = CS S kv f' := by unfold CS; simp
theorem tand_f {t1 t2 : MT} (h1 : t1 env S = Out.ok false S) : NK.tAnd t1 t2 env S = Out.ok false S := by
  simp only [NK.tAnd, h1, ob]
  rfl
theorem rd_a : dictRd (.loc S.length) (CS S kv found) = some kv := by
  unfold dictRd
  dsimp only
  rw [cs_a]
theorem at_a : dictAt (.loc S.length) (CS S kv found) = some (S.length, kv) := by
  unfold dictAt
  dsimp only
  rw [cs_a]
theorem app_f {e0 e1 e3 : Option U} {w : U} (hm : m [e0, e1, some (.loc (S.length + 1)), e3] (CS S kv found) = Out.ok w (CS S kv found)) (hz : found.length < 1000) : sDrop (eBM fApp (eVar 2) (aCons m aNil)) [e0, e1, some (.loc (S.length + 1)), e3] (CS S kv found) = SO.next [e0, e1, some (.loc (S.length + 1)), e3] (CS S kv (found ++ [w])) := by
  have d := app_drop (S := CS S kv found) (S1 := CS S kv found) (i := 2) (j := S.length + 1) (us := found) (w := w) (env := [e0, e1, some (.loc (S.length + 1)), e3]) (m := m) rfl (isl_at cs_b) hm cs_b hz
  rw [cs_sb] at d
  exact d
def stepM (met : List Nat) : Option Nat → List Nat
  | none => met
  | some k => if k ∈ met then met else met ++ [k]
theorem cn_step {e0 : Option U} {met : List Nat} {o : Option Nat} {found : Ent} (hz : found.length < 1000) (hm : met.length < 1000) : l_class_numbers_1 [e0, some (.loc S.length), some (.loc (S.length + 1)), some (eU o)] (CS S (kvG kI 0 met) (esU found)) = SO.next [e0, some (.loc S.length), some (.loc (S.length + 1)), some (eU o)] (CS S (kvG kI 0 (stepM met o)) (esU (found ++ [o.map (stepM met o).idxOf]))) := by
  have hz' : (esU found).length < 1000 := by unfold esU; rw [List.length_map]; exact hz
  have fin : ∀ w : Option Nat, esU (found ++ [w]) = esU found ++ [eU w] := fun w => by unfold esU; rw [List.map_append]; rfl
  unfold l_class_numbers_1
  rw [fin]
  cases o with
  | none =>
    have t : NK.tB (eOp fNotN (eVar 3) (eC .non)) [e0, some (.loc S.length), some (.loc (S.length + 1)), some (eU none)] (CS S (kvG kI 0 met) (esU found)) = Out.ok false (CS S (kvG kI 0 met) (esU found)) := tB_of (op2 (a := .non) (b := .non) (S2 := CS S (kvG kI 0 met) (esU found)) (v_at (i := 3) rfl) rfl rfl)
    refine seq_n (if_f (tand_f t) rfl) (app_f ?_ hz')
    exact eif_at (tB_of (op2 (a := .non) (b := .non) (S2 := CS S (kvG kI 0 met) (esU found)) (v_at (i := 3) rfl) rfl (r := Out.ok (.bl true) (CS S (kvG kI 0 met) (esU found))) rfl)) |>.trans rfl
  | some k =>
    have t1 : NK.tB (eOp fNotN (eVar 3) (eC .non)) [e0, some (.loc S.length), some (.loc (S.length + 1)), some (eU (some k))] (CS S (kvG kI 0 met) (esU found)) = Out.ok true (CS S (kvG kI 0 met) (esU found)) := tB_of (op2 (a := .int (k : Nat)) (b := .non) (S2 := CS S (kvG kI 0 met) (esU found)) (v_at (i := 3) rfl) rfl rfl)
    have t2 : eOp (fDIn true) (eVar 3) (eVar 1) [e0, some (.loc S.length), some (.loc (S.length + 1)), some (eU (some k))] (CS S (kvG kI 0 met) (esU found)) = Out.ok (.bl (!decide (k ∈ met))) (CS S (kvG kI 0 met) (esU found)) := op2 (a := .int (k : Nat)) (b := .loc S.length) (S2 := CS S (kvG kI 0 met) (esU found)) (v_at (i := 3) rfl) (v_at (i := 1) rfl) (by
      unfold fDIn
      rw [rd_a]
      show Out.ok (U.bl ((valU (kvG kI 0 met) (kI k)).isSome != true)) _ = _
      rw [kvG_val kI_inj]
      by_cases z : k ∈ met
      · rw [if_pos z, decide_eq_true z]; rfl
      · rw [if_neg z, decide_eq_false z]; rfl)
    have get : ∀ {met : List Nat}, k ∈ met → eIf (NK.tB (eOp fIsN (eVar 3) (eC .non))) (eC .non) (eOp fDGet (eVar 1) (eVar 3)) [e0, some (.loc S.length), some (.loc (S.length + 1)), some (eU (some k))] (CS S (kvG kI 0 met) (esU found)) = Out.ok (eU (some (met.idxOf k))) (CS S (kvG kI 0 met) (esU found)) := fun {met} z => by
      have n : eOp fIsN (eVar 3) (eC .non) [e0, some (.loc S.length), some (.loc (S.length + 1)), some (eU (some k))] (CS S (kvG kI 0 met) (esU found)) = Out.ok (.bl false) (CS S (kvG kI 0 met) (esU found)) := op2 (a := .int (k : Nat)) (b := .non) (S2 := CS S (kvG kI 0 met) (esU found)) (v_at (i := 3) rfl) rfl rfl
      refine (eif_at (tB_of n)).trans ?_
      rw [if_neg Bool.false_ne_true]
      refine op2 (a := .loc S.length) (b := .int (k : Nat)) (S2 := CS S (kvG kI 0 met) (esU found)) (v_at (i := 1) rfl) (v_at (i := 3) rfl) ?_
      unfold fDGet
      rw [rd_a]
      show (match valU (kvG kI 0 met) (kI k) with | some w => Out.ok w _ | none => Out.bad) = _
      rw [kvG_val kI_inj, if_pos z]
      show Out.ok (U.int ((0 + met.idxOf k : Nat) : Int)) _ = _
      rw [Nat.zero_add]
      rfl
    have t := tand_at t1 (tB_of t2)
    rw [Bool.true_and] at t
    show _ = SO.next _ (CS S (kvG kI 0 (stepM met (some k))) (esU found ++ [eU (some ((stepM met (some k)).idxOf k))]))
    have sM : stepM met (some k) = if k ∈ met then met else met ++ [k] := rfl
    rw [sM]
    by_cases z : k ∈ met
    · rw [if_pos z]
      rw [decide_eq_true z] at t
      exact seq_n (if_f t rfl) (app_f (get z) hz')
    · rw [if_neg z]
      rw [decide_eq_false z] at t
      refine seq_n (if_t t ?_) (app_f (get (List.mem_append_right _ (List.mem_singleton.mpr rfl))) hz')
      have ln : eCB fLenO (aCons (eVar 1) aNil) [e0, some (.loc S.length), some (.loc (S.length + 1)), some (eU (some k))] (CS S (kvG kI 0 met) (esU found)) = Out.ok (.int (met.length : Nat)) (CS S (kvG kI 0 met) (esU found)) := cb1 (S1 := CS S (kvG kI 0 met) (esU found)) (v_at (i := 1) rfl) (by
        unfold fLenO
        dsimp only
        rw [cs_a]
        dsimp only
        rw [kvG_len])
      have pt : dput (.loc S.length) (.int (k : Nat)) (.int (met.length : Nat)) (CS S (kvG kI 0 met) (esU found)) = some (CS S (kvG kI 0 (met ++ [k])) (esU found)) := by
        unfold dput
        rw [at_a]
        show (if (kvG kI 0 met).length < 16777216 then some ((CS S (kvG kI 0 met) (esU found)).set S.length (.dK (putU (kvG kI 0 met) (kI k) (.int (met.length : Nat))))) else none) = _
        rw [if_pos (by rw [kvG_len]; omega), kvG_put kI_inj z, cs_sa]
      unfold NK.sDPut
      rw [ln]
      show (match dput (.loc S.length) (.int (k : Nat)) (.int (met.length : Nat)) (CS S (kvG kI 0 met) (esU found)) with | some st4 => SO.next [e0, some (.loc S.length), some (.loc (S.length + 1)), some (eU (some k))] st4 | none => SO.bad) = _
      rw [pt]
theorem cn_loop {e0 : Option U} : ∀ (M : Ent) (met : List Nat) (found : Ent) (e3 : Option U), found.length + M.length ≤ 900 → met.length + M.length ≤ 900 →
    ∃ e3', NK.forM (fun _ => True) (gN 3) l_class_numbers_1 (esU M) [e0, some (.loc S.length), some (.loc (S.length + 1)), e3] (CS S (kvG kI 0 met) (esU found)) = SO.next [e0, some (.loc S.length), some (.loc (S.length + 1)), e3'] (CS S (kvG kI 0 (finM met M)) (esU (found ++ numGo met M)))
  | [], met, found, e3, _, _ => ⟨e3, by
    show NK.forM _ _ _ [] _ _ = _
    rw [show numGo met ([] : Ent) = [] from rfl, List.append_nil]
    exact forM_nil True.intro⟩
  | o :: M, met, found, e3, h1, h2 => by
    rw [List.length_cons] at h1 h2
    have l1 : (stepM met o).length ≤ met.length + 1 := by
      cases o with
      | none => exact Nat.le_succ _
      | some k =>
        show (if k ∈ met then met else met ++ [k]).length ≤ _
        split
        · exact Nat.le_succ _
        · rw [List.length_append]; exact Nat.le_refl _
    obtain ⟨e3', ih⟩ := cn_loop (e0 := e0) M (stepM met o) (found ++ [o.map (stepM met o).idxOf]) (some (eU o)) (by rw [List.length_append, List.length_singleton]; omega) (by omega)
    refine ⟨e3', (forM_n (env1 := [e0, some (.loc S.length), some (.loc (S.length + 1)), some (eU o)]) True.intro rfl (cn_step (by omega) (by omega))).trans (ih.trans ?_)⟩
    have f1 : finM met (o :: M) = finM (stepM met o) M := by
      cases o with
      | none => rfl
      | some k =>
        show (if k ∈ met then finM met M else finM (met ++ [k]) M) = finM (if k ∈ met then met else met ++ [k]) M
        split <;> rfl
    have f2 : numGo met (o :: M) = o.map (stepM met o).idxOf :: numGo (stepM met o) M := by
      cases o with
      | none => rfl
      | some k =>
        show (if k ∈ met then some (met.idxOf k) :: numGo met M else some met.length :: numGo (met ++ [k]) M) = some ((if k ∈ met then met else met ++ [k]).idxOf k) :: numGo (if k ∈ met then met else met ++ [k]) M
        by_cases z : k ∈ met
        · rw [if_pos z, if_pos z]
        · rw [if_neg z, if_neg z]
          congr 2
          rw [List.idxOf_append, if_neg z]
          simp
    rw [f1, f2, List.append_assoc]
    rfl
theorem hasL_no {e1 e2 e3 : Option U} : hasL 0 [some (.lst (esU M)), e1, e2, e3] S = false := by
  unfold hasL
  show (esU M).any _ = false
  rw [List.any_eq_false]
  intro u hu
  obtain ⟨o, _, rfl⟩ := List.mem_map.mp hu
  cases o <;> exact Bool.false_ne_true
theorem cn_ok (hl : M.length ≤ 900) : m_class_numbers [.lst (esU M)] S = Out.ok (.tup (esU (num M))) S := by
  obtain ⟨e3, f⟩ := cn_loop (S := S) (e0 := some (.lst (esU M))) M [] [] none (by simpa using hl) (by simpa using hl)
  refine fs_val (n := 4) (mb := b_class_numbers) (env := [some (.lst (esU M)), none, none, none]) (st2 := S) (ext := [.dK (kvG kI 0 (finM [] M)), .lst (esU (num M))]) rfl ?_ (Old.refl S) (by unfold U.under; exact esU_und _)
  unfold b_class_numbers sCase
  rw [hasL_no, if_neg Bool.false_ne_true]
  have a2 : eLst aNil [some (.lst (esU M)), some (.loc S.length), none, none] (S ++ [.dK []]) = Out.ok (.loc (S.length + 1)) (CS S (kvG kI 0 []) (esU [])) := by
    show Out.ok (U.loc (S ++ [Ob.dK []]).length) (S ++ [Ob.dK []] ++ [Ob.lst []]) = _
    rw [List.length_append, List.append_assoc]
    rfl
  refine seq_n (asg_ok (i := 1) (show eDict _ S = Out.ok (.loc S.length) (S ++ [.dK []]) from rfl)) (seq_n (asg_ok (i := 2) a2) (seq_n (sFor_ok (us := esU M) (g := fun _ => True) (S1 := CS S (kvG kI 0 []) (esU [])) rfl f) (ret_ok ?_)))
  refine cb1 (S1 := CS S (kvG kI 0 (finM [] M)) (esU (num M))) (v_at (i := 2) rfl) ?_
  show fTuple [.loc (S.length + 1)] (CS S (kvG kI 0 (finM [] M)) (esU (num M))) = _
  have it : items (.loc (S.length + 1)) (CS S (kvG kI 0 (finM [] M)) (esU (num M))) = some (esU (num M)) := by
    unfold items
    dsimp only
    rw [cs_b]
  unfold fTuple
  dsimp only
  rw [it]
  rfl
end
end G

namespace G
open PySem L2 NK
theorem mrgP_len (es fs : Ent) : (mrgP es fs).length = es.length := by
  unfold mrgP
  rw [mrgAll_eq, fold_len]
theorem orE_len (es fs : Ent) : (orE es fs).length = es.length := by
  unfold orE
  rw [num_len, mrgP_len]
theorem prE_len {es fs : Ent} (h : mk es fs) : (prE es fs).length = es.length := mk_len (prE_mk h)
section
variable {S S1 : Sto} {env : NK.Env} {m m1 m2 : ME} {es fs : Ent}
theorem is_pat {o : Option U} : NK.tNot (NK.tTru (eIsi isl [(.o 3)] (eVar 1))) (o :: some (patI fs) :: env) S = Out.ok false S := by
  have i := isi_at (S := S) (env := o :: some (patI fs) :: env) (i := 1) (u := patI fs) (t := .o 3) (cs := [.o 3]) (b := true) rfl rfl rfl
  exact notK (b := true) (truK i)
theorem or_ok (h : mk es fs) (hl : es.length ≤ 40) : m_Pattern___or [patI es, patI fs] S = Out.ok (patI (orE es fs)) S := by
  refine fs_same (n := 2) (mb := b_Pattern___or) (env := [some (patI es), some (patI fs)]) rfl ?_ (pat_und _)
  unfold b_Pattern___or
  refine seq_n (if_f is_pat rfl) (seq_n (drop_n (call2 rfl (v_at rfl) (v_at rfl) (match_ok h))) (ret_ok ?_))
  exact make_at (.t (orE es fs)) orE_can (by rw [orE_len]; exact hl) (call1 rfl (call2 (x := .tup (esU es)) (y := .tup (esU fs)) rfl (fld_at rfl rfl) (fld_at rfl rfl) (marks_ok h (by omega))) (cn_ok (by rw [mrgP_len]; omega)))
theorem binO_at {k : Nat} {mf : MF} {r : Out U} (h1 : m1 env S = Out.ok (patI es) S) (h2 : m2 env S = Out.ok (patI fs) S) (hk : k = 3) (h : mf [patI es, patI fs] S = r) : eBinO k mf m1 m2 env S = r := by
  subst hk
  unfold eBinO
  rw [h1, ob, h2, ob, if_pos ⟨by simp [isK, asIns, patI], by simp [isK, asIns, patI]⟩]
  exact h
theorem pat_eq (c1 : True) : m_Pattern___eq [patI es, patI fs] S = Out.ok (.bl (decide (es = fs))) S := by
  refine fs_same (n := 2) (mb := b_Pattern___eq) (env := [some (patI es), some (patI fs)]) rfl ?_ rfl
  have i := isi_at (S := S) (env := [some (patI es), some (patI fs)]) (i := 1) (u := patI fs) (t := .o 3) (cs := [.o 3]) (b := true) rfl rfl rfl
  have okE : ∀ gs : Ent, okU 12 (.tup (esU gs)) = true := fun gs => by
    show (esU gs).all (okU 11) = true
    rw [List.all_eq_true]
    intro u hu
    obtain ⟨o, _, rfl⟩ := List.mem_map.mp hu
    cases o <;> rfl
  have q : fEq (.tup (esU es)) (.tup (esU fs)) S = Out.ok (.bl (decide (es = fs))) S := by
    rw [fEq_ok (okE es) (okE fs), eqv_tup]
    congr 2
    exact eqvL_map fun a _ b _ => eU_eqv a b
  unfold b_Pattern___eq
  exact ret_ok (and_yes i (op2 (S1 := S) (S2 := S) (fld_at rfl rfl) (fld_at rfl rfl) q))
end
def look (a : Nat) : List (Nat × Nat) → Option Nat
  | [] => none
  | (x, y) :: l => if x = a then some y else look a l
def finGo : List (Nat × Nat) → Ent → Ent → Bool
  | led, some a :: es, some b :: fs => match look a led with
    | some c => if c = b then finGo led es fs else false
    | none => finGo (led ++ [(a, b)]) es fs
  | led, none :: es, _ :: fs => finGo led es fs
  | _, _, _ => true
theorem look_app {a : Nat} : ∀ (l : List (Nat × Nat)) (x y : Nat), look a l = none → look a (l ++ [(x, y)]) = if x = a then some y else none
  | [], x, y, _ => rfl
  | (p, q) :: l, x, y, h => by
    unfold look at h
    show (if p = a then some q else look a (l ++ [(x, y)])) = _
    split at h
    · cases h
    · rename_i ne
      rw [if_neg ne]
      exact look_app l x y h
theorem look_app_s {a c : Nat} : ∀ (l r : List (Nat × Nat)), look a l = some c → look a (l ++ r) = some c
  | (p, q) :: l, r, h => by
    unfold look at h
    show (if p = a then some q else look a (l ++ r)) = _
    split at h
    · rename_i e
      rw [if_pos e]
      exact h
    · rename_i ne
      rw [if_neg ne]
      exact look_app_s l r h
def FinL (led : List (Nat × Nat)) (es fs : Ent) : Prop := (∀ (i a b c : Nat), es[i]? = some (some a) → fs[i]? = some (some b) → look a led = some c → c = b) ∧ Fin es fs
theorem finGo_iff : ∀ (es fs : Ent) (led : List (Nat × Nat)), mk es fs → (finGo led es fs = true ↔ FinL led es fs)
  | [], fs, led, h => by
    constructor
    · intro _
      exact ⟨fun i a b c e => by simp at e, fun i j ⟨a, e, _⟩ => by simp at e⟩
    · intro _
      cases fs <;> rfl
  | o :: es, [], led, h => by cases h
  | o :: es, p :: fs, led, h => by
    obtain ⟨h1, h2⟩ := List.cons.inj h
    cases o with
    | none =>
      cases p with
      | some b => cases h1
      | none =>
        show finGo led es fs = true ↔ _
        rw [finGo_iff es fs led h2]
        constructor
        · rintro ⟨q1, q2⟩
          refine ⟨fun i a b c e1 e2 => ?_, fun i j ⟨a, e1, e2⟩ => ?_⟩
          · cases i with
            | zero => simp at e1
            | succ i => exact q1 i a b c (by simpa using e1) (by simpa using e2)
          · cases i with
            | zero => simp at e1
            | succ i =>
              cases j with
              | zero => simp at e2
              | succ j =>
                obtain ⟨b, x, y⟩ := q2 i j ⟨a, by simpa using e1, by simpa using e2⟩
                exact ⟨b, by simpa using x, by simpa using y⟩
        · rintro ⟨q1, q2⟩
          refine ⟨fun i a b c e1 e2 => q1 (i + 1) a b c (by simpa using e1) (by simpa using e2), fun i j ⟨a, e1, e2⟩ => ?_⟩
          obtain ⟨b, x, y⟩ := q2 (i + 1) (j + 1) ⟨a, by simpa using e1, by simpa using e2⟩
          exact ⟨b, by simpa using x, by simpa using y⟩
    | some a0 =>
      cases p with
      | none => cases h1
      | some b0 =>
        show (match look a0 led with | some c => if c = b0 then finGo led es fs else false | none => finGo (led ++ [(a0, b0)]) es fs) = true ↔ _
        -- the rest under a table that leads a0 to b0
        have core : ∀ led' : List (Nat × Nat), (∀ a c, look a led' = some c ↔ (a = a0 ∧ c = b0) ∨ (look a led = some c ∧ a ≠ a0)) → (∀ c, look a0 led = some c → c = b0) → (FinL led' es fs ↔ FinL led (some a0 :: es) (some b0 :: fs)) := fun led' hl h0 => by
          have tl : ∀ {i a b : Nat}, es[i]? = some (some a) → fs[i]? = some (some b) → ((∀ c, look a led' = some c → c = b) ↔ ((∀ c, look a led = some c → c = b) ∧ (a = a0 → b = b0))) := fun {i a b} _ _ => by
            constructor
            · intro q
              refine ⟨fun c hc => ?_, fun e => ?_⟩
              · by_cases e : a = a0
                · subst e
                  rw [h0 c hc]
                  exact q b0 ((hl _ _).mpr (.inl ⟨rfl, rfl⟩))
                · exact q c ((hl a c).mpr (.inr ⟨hc, e⟩))
              · exact (q b0 ((hl a b0).mpr (.inl ⟨e, rfl⟩))).symm
            · rintro ⟨q1, q2⟩ c hc
              rcases (hl a c).mp hc with ⟨e, rfl⟩ | ⟨hc, _⟩
              · exact (q2 e).symm
              · exact q1 c hc
          constructor
          · rintro ⟨q1, q2⟩
            have at0 : ∀ {j a}, es[j]? = some (some a) → a = a0 → fs[j]? = some (some b0) := fun {j a} e ea => by
              obtain ⟨b, hb⟩ := mk_at h2 e
              rw [hb, ((tl e hb).mp (fun c => q1 j a b c e hb)).2 ea]
            refine ⟨fun i a b c e1 e2 e3 => ?_, fun i j ⟨a, e1, e2⟩ => ?_⟩
            · cases i with
              | zero =>
                simp only [List.getElem?_cons_zero, Option.some.injEq] at e1 e2
                subst e1 e2
                exact h0 c e3
              | succ i => exact ((tl (by simpa using e1) (by simpa using e2)).mp (fun c => q1 i a b c (by simpa using e1) (by simpa using e2))).1 c e3
            · cases i with
              | zero =>
                simp only [List.getElem?_cons_zero, Option.some.injEq] at e1
                subst e1
                cases j with
                | zero => exact ⟨b0, rfl, rfl⟩
                | succ j => exact ⟨b0, rfl, by simpa using at0 (by simpa using e2) rfl⟩
              | succ i =>
                cases j with
                | zero =>
                  simp only [List.getElem?_cons_zero, Option.some.injEq] at e2
                  subst e2
                  exact ⟨b0, by simpa using at0 (by simpa using e1) rfl, rfl⟩
                | succ j =>
                  obtain ⟨b, x, y⟩ := q2 i j ⟨a, by simpa using e1, by simpa using e2⟩
                  exact ⟨b, by simpa using x, by simpa using y⟩
          · rintro ⟨q1, q2⟩
            refine ⟨fun i a b c e1 e2 => (tl e1 e2).mpr ⟨fun c => q1 (i + 1) a b c (by simpa using e1) (by simpa using e2), fun e => ?_⟩ c, fun i j ⟨a, e1, e2⟩ => ?_⟩
            · subst e
              obtain ⟨b', x, y⟩ := q2 0 (i + 1) ⟨a, rfl, by simpa using e1⟩
              simp only [List.getElem?_cons_zero, Option.some.injEq] at x
              rw [List.getElem?_cons_succ, e2] at y
              cases y
              cases x
              rfl
            · obtain ⟨b, x, y⟩ := q2 (i + 1) (j + 1) ⟨a, by simpa using e1, by simpa using e2⟩
              exact ⟨b, by simpa using x, by simpa using y⟩
        cases q : look a0 led with
        | some c =>
          dsimp only
          by_cases e : c = b0
          · rw [if_pos e, finGo_iff es fs led h2]
            refine core led (fun a c' => ?_) fun c' hc => by rw [q] at hc; cases hc; exact e
            by_cases ea : a = a0
            · subst ea
              rw [q]
              constructor
              · intro hc; cases hc; exact .inl ⟨rfl, e⟩
              · rintro (⟨_, hc⟩ | ⟨_, hc⟩)
                · rw [hc, e]
                · exact absurd rfl hc
            · exact ⟨fun hc => .inr ⟨hc, ea⟩, fun hc => hc.elim (fun z => absurd z.1 ea) fun z => z.1⟩
          · rw [if_neg e]
            exact ⟨fun z => (nomatch z), fun ⟨q1, _⟩ => absurd (q1 0 a0 b0 c rfl rfl q) e⟩
        | none =>
          dsimp only
          rw [finGo_iff es fs (led ++ [(a0, b0)]) h2]
          refine core (led ++ [(a0, b0)]) (fun a c' => ?_) fun c' hc => by rw [q] at hc; cases hc
          by_cases ea : a = a0
          · subst ea
            rw [look_app led a b0 q, if_pos rfl]
            constructor
            · intro hc; cases hc; exact .inl ⟨rfl, rfl⟩
            · rintro (⟨_, hc⟩ | ⟨_, hc⟩)
              · rw [hc]
              · exact absurd rfl hc
          · have w : look a (led ++ [(a0, b0)]) = look a led := by
              cases r : look a led with
              | none => rw [look_app led a0 b0 r, if_neg fun z => ea z.symm]
              | some d => exact look_app_s led _ r
            rw [w]
            exact ⟨fun hc => .inr ⟨hc, ea⟩, fun hc => hc.elim (fun z => absurd z.1 ea) fun z => z.1⟩
theorem finGo_ok {es fs : Ent} (h : mk es fs) : finGo [] es fs = true ↔ Fin es fs := (finGo_iff es fs [] h).trans ⟨fun q => q.2, fun q => ⟨fun i a b c _ _ e => (by cases e), q⟩⟩
end G

namespace G
open PySem L2 NK
def ledK (led : List (Nat × Nat)) : List (Key × U) := led.map fun q => (kI q.1, .int (q.2 : Nat))
theorem ledK_val : ∀ (led : List (Nat × Nat)) (a : Nat), valU (ledK led) (kI a) = (look a led).map fun b => U.int (b : Nat)
  | [], a => rfl
  | (x, y) :: l, a => by
    unfold ledK valU look
    rw [List.map_cons, List.find?_cons]
    by_cases e : x = a
    · subst e
      rw [decide_eq_true rfl, if_pos rfl]
      rfl
    · rw [decide_eq_false fun z => e (kI_inj _ _ z), if_neg e]
      exact ledK_val l a
theorem ledK_put {led : List (Nat × Nat)} {a b : Nat} (h : look a led = none) : putU (ledK led) (kI a) (.int (b : Nat)) = ledK (led ++ [(a, b)]) := by
  have n : ∀ l : List (Nat × Nat), look a l = none → ((ledK l).any fun kv => decide (kv.1 = kI a)) = false := fun l => by
    induction l with
    | nil => intro _; rfl
    | cons q l ih =>
      obtain ⟨x, y⟩ := q
      intro h
      unfold look at h
      split at h
      · cases h
      · rename_i ne
        show (decide (kI x = kI a) || (ledK l).any _) = false
        rw [decide_eq_false fun z => ne (kI_inj _ _ z), Bool.false_or]
        exact ih h
  unfold putU
  rw [n led h, if_neg Bool.false_ne_true]
  unfold ledK
  rw [List.map_append]
  rfl
def LS (S : Sto) (led : List (Nat × Nat)) : Sto := S ++ [.dK (ledK led)]
section
variable {S S1 : Sto} {env : NK.Env} {m m1 m2 : ME} {es fs : Ent} {led : List (Nat × Nat)}
theorem ls_at : (LS S led)[S.length]? = some (.dK (ledK led)) := at_last
theorem ls_set {l2 : List (Nat × Nat)} : (LS S led).set S.length (.dK (ledK l2)) = LS S l2 := set_last
theorem tand_t {t1 t2 : MT} {b : Bool} (h1 : t1 env S = Out.ok true S) (h2 : t2 env S = Out.ok b S1) : NK.tAnd t1 t2 env S = Out.ok b S1 := by
  simp only [NK.tAnd, h1, ob]
  exact h2
theorem setd_at {e0 e1 : Option U} {a b : Nat} (hl : led.length ≤ 1000) : eDSetd (eVar 2) (eVar 3) (eVar 4) [e0, e1, some (.loc S.length), some (.int (a : Nat)), some (.int (b : Nat))] (LS S led) = match look a led with
    | some c => Out.ok (.int (c : Nat)) (LS S led)
    | none => Out.ok (.int (b : Nat)) (LS S (led ++ [(a, b)])) := by
  have d : dictAt (.loc S.length) (LS S led) = some (S.length, ledK led) := by
    unfold dictAt
    dsimp only
    rw [ls_at]
  unfold eDSetd
  rw [v_at (i := 2) rfl, ob, d]
  dsimp only
  rw [v_at (i := 3) rfl, ob, v_at (i := 4) rfl, ob, d]
  show (if (ledK led).length < 16777216 then (match valU (ledK led) (kI a) with | some w => Out.ok w (LS S led) | none => Out.ok (U.int (b : Nat)) ((LS S led).set S.length (.dK (putU (ledK led) (kI a) (.int (b : Nat)))))) else Out.bad) = _
  rw [if_pos (by unfold ledK; rw [List.length_map]; omega), ledK_val]
  cases q : look a led with
  | some c => rfl
  | none =>
    show Out.ok (U.int (b : Nat)) ((LS S led).set S.length (.dK (putU (ledK led) (kI a) (.int (b : Nat))))) = _
    rw [ledK_put q, ls_set]
theorem fi_step {e0 e1 : Option U} {a b : Nat} (hl : led.length ≤ 1000) : l_is_finer_1 [e0, e1, some (.loc S.length), some (.int (a : Nat)), some (.int (b : Nat))] (LS S led) = match look a led with
    | some c => if c = b then SO.next [e0, e1, some (.loc S.length), some (.int (a : Nat)), some (.int (b : Nat))] (LS S led) else SO.ret (.bl false) (LS S led)
    | none => SO.next [e0, e1, some (.loc S.length), some (.int (a : Nat)), some (.int (b : Nat))] (LS S (led ++ [(a, b)])) := by
  have d := setd_at (S := S) (led := led) (e0 := e0) (e1 := e1) (a := a) (b := b) hl
  have n1 : NK.tB (eOp fNotN (eVar 3) (eC .non)) [e0, e1, some (.loc S.length), some (.int (a : Nat)), some (.int (b : Nat))] (LS S led) = Out.ok true (LS S led) := tB_of (op2 (a := .int (a : Nat)) (b := .non) (S2 := LS S led) (v_at (i := 3) rfl) rfl rfl)
  have ne : ∀ {X : Sto} {c : Nat}, fNe (.int (c : Nat)) (.int (b : Nat)) X = Out.ok (.bl (!decide (c = b))) X := fun {X c} => by
    rw [fNe_ii, beq_dec]
    congr 3
    exact decide_eq_decide.mpr ⟨fun h => Int.ofNat.inj h, fun h => by rw [h]⟩
  unfold l_is_finer_1
  cases q : look a led with
  | some c =>
    rw [q] at d
    dsimp only at d ⊢
    have t := tand_t n1 (tB_of (op2 (m2 := eVar 4) (b := .int (b : Nat)) (S2 := LS S led) d (v_at (i := 4) rfl) ne))
    by_cases e : c = b
    · rw [if_pos e]
      rw [decide_eq_true e] at t
      exact if_f t rfl
    · rw [if_neg e]
      rw [decide_eq_false e] at t
      exact if_t t (ret_ok rfl)
  | none =>
    rw [q] at d
    dsimp only at d ⊢
    have t := tand_t n1 (tB_of (op2 (m2 := eVar 4) (b := .int (b : Nat)) (S2 := LS S (led ++ [(a, b)])) d (v_at (i := 4) rfl) ne))
    rw [decide_eq_true rfl] at t
    exact if_f t rfl
theorem fi_loop {e0 e1 : Option U} : ∀ (es fs : Ent) (led : List (Nat × Nat)) (e3 e4 : Option U), mk es fs → led.length + es.length ≤ 900 →
    ∃ e3' e4' led', NK.forM (fun _ => True) (gT [3, 4]) l_is_finer_1 (zipU (esU es) (esU fs)) [e0, e1, some (.loc S.length), e3, e4] (LS S led) = if finGo led es fs = true then SO.next [e0, e1, some (.loc S.length), e3', e4'] (LS S led') else SO.ret (.bl false) (LS S led')
  | [], fs, led, e3, e4, h, _ => ⟨e3, e4, led, by
    have z : finGo led [] fs = true := by cases fs <;> rfl
    rw [if_pos z]
    cases fs with
    | nil => exact forM_nil True.intro
    | cons p fs => cases h⟩
  | o :: es, [], led, e3, e4, h, _ => by cases h
  | o :: es, p :: fs, led, e3, e4, h, hl => by
    obtain ⟨h1, h2⟩ := List.cons.inj h
    rw [List.length_cons] at hl
    cases o with
    | none =>
      obtain ⟨e3', e4', led', ih⟩ := fi_loop (e0 := e0) (e1 := e1) es fs led (some .non) (some (eU p)) h2 (by omega)
      refine ⟨e3', e4', led', (forM_n (env1 := [e0, e1, some (.loc S.length), some .non, some (eU p)]) (env2 := [e0, e1, some (.loc S.length), some .non, some (eU p)]) (st2 := LS S led) True.intro rfl ?_).trans ih⟩
      have n1 : NK.tB (eOp fNotN (eVar 3) (eC .non)) [e0, e1, some (.loc S.length), some .non, some (eU p)] (LS S led) = Out.ok false (LS S led) := tB_of (op2 (a := .non) (b := .non) (S2 := LS S led) (v_at (i := 3) rfl) rfl rfl)
      unfold l_is_finer_1
      exact if_f (tand_f n1) rfl
    | some a =>
      cases p with
      | none => cases h1
      | some b =>
        have s := fi_step (S := S) (led := led) (e0 := e0) (e1 := e1) (a := a) (b := b) (by omega)
        cases q : look a led with
        | some c =>
          rw [q] at s
          dsimp only at s
          have g : finGo led (some a :: es) (some b :: fs) = if c = b then finGo led es fs else false := by
            show (match look a led with | some c => if c = b then finGo led es fs else false | none => finGo (led ++ [(a, b)]) es fs) = _
            rw [q]
          by_cases e : c = b
          · rw [if_pos e] at s g
            obtain ⟨e3', e4', led', ih⟩ := fi_loop (e0 := e0) (e1 := e1) es fs led (some (.int (a : Nat))) (some (.int (b : Nat))) h2 (by omega)
            exact ⟨e3', e4', led', by rw [g]; exact (forM_n (env1 := [e0, e1, some (.loc S.length), some (.int (a : Nat)), some (.int (b : Nat))]) True.intro rfl s).trans ih⟩
          · rw [if_neg e] at s g
            exact ⟨none, none, led, by rw [g, if_neg Bool.false_ne_true]; exact forM_r (env1 := [e0, e1, some (.loc S.length), some (.int (a : Nat)), some (.int (b : Nat))]) True.intro rfl s⟩
        | none =>
          rw [q] at s
          dsimp only at s
          have g : finGo led (some a :: es) (some b :: fs) = finGo (led ++ [(a, b)]) es fs := by
            show (match look a led with | some c => if c = b then finGo led es fs else false | none => finGo (led ++ [(a, b)]) es fs) = _
            rw [q]
          obtain ⟨e3', e4', led', ih⟩ := fi_loop (e0 := e0) (e1 := e1) es fs (led ++ [(a, b)]) (some (.int (a : Nat))) (some (.int (b : Nat))) h2 (by rw [List.length_append, List.length_singleton]; omega)
          exact ⟨e3', e4', led', by rw [g]; exact (forM_n (env1 := [e0, e1, some (.loc S.length), some (.int (a : Nat)), some (.int (b : Nat))]) True.intro rfl s).trans ih⟩
theorem finer_ok (h : mk es fs) (hl : es.length ≤ 40) : m_is_finer [patI es, patI fs] S = Out.ok (.bl (finGo [] es fs)) S := by
  obtain ⟨e3, e4, led', f⟩ := fi_loop (S := S) (e0 := some (patI es)) (e1 := some (patI fs)) es fs [] none none h (by simp; omega)
  have it : NK.iZip (aCons (eFld 3 0 (eVar 0)) (aCons (eFld 3 0 (eVar 1)) aNil)) [some (patI es), some (patI fs), some (.loc S.length), none, none] (LS S []) = Out.ok ⟨zipU (esU es) (esU fs), fun _ => True⟩ (LS S []) := by
    unfold NK.iZip
    rw [acN (S1 := LS S []) (u := .tup (esU es)) (fld_at rfl rfl) (ac1 (u := .tup (esU fs)) (fld_at rfl rfl))]
    rfl
  refine fs_val (n := 5) (mb := b_is_finer) (env := [some (patI es), some (patI fs), none, none, none]) (st2 := S) (ext := [.dK (ledK led')]) rfl ?_ (Old.refl S) rfl
  unfold b_is_finer
  refine seq_n (drop_n (call2 rfl (v_at rfl) (v_at rfl) (match_ok h))) (seq_n (asg_ok (i := 2) (show eDict _ S = Out.ok (.loc S.length) (LS S []) from rfl)) ?_)
  cases q : finGo [] es fs with
  | true =>
    rw [q, if_pos rfl] at f
    exact seq_n (sFor_ok it f) (ret_ok rfl)
  | false =>
    rw [q, if_neg Bool.false_ne_true] at f
    exact seq_r (sFor_ok it f)
end
end G

namespace G
open PySem L2 NK
section
variable {α : Type} [DecidableEq α] {kP : α → List Key}
def PU (kP : α → List Key) (S : Sto) : Option α → U → Prop
  | none, u => u = .non
  | some p, u => ∃ i us, u = .loc i ∧ S[i]? = some (.tp us) ∧ keysU us = some (kP p)
def PUs (kP : α → List Key) (S : Sto) : List (Option α) → List U → Prop
  | [], us => us = []
  | o :: M, us => ∃ u vs, us = u :: vs ∧ PU kP S o u ∧ PUs kP S M vs
def CT (S : Sto) (kv : List (List Key × U)) (found : List U) : Sto := S ++ [.dT kv, .lst found]
section
theorem pu_key {S T : Sto} {p : α} {u : U} (h : PU kP S (some p) u) : keyL u (S ++ T) = some (kP p) := by
  obtain ⟨i, us, rfl, e, k⟩ := h
  have l : i < S.length := (List.getElem?_eq_some_iff.mp e).1
  unfold keyL
  dsimp only
  rw [List.getElem?_append_left l, e]
  exact k
variable {S S1 : Sto} {env : NK.Env} {m m1 m2 : ME} {M : Ent} {kv : List (List Key × U)} {found : List U}
theorem ct_a : (CT S kv found)[S.length]? = some (.dT kv) := by unfold CT; simp
theorem ct_b : (CT S kv found)[S.length + 1]? = some (.lst found) := by unfold CT; simp
theorem ct_sa {kv' : List (List Key × U)} : (CT S kv found).set S.length (.dT kv') = CT S kv' found := by unfold CT; simp
theorem ct_sb {f' : List U} : (CT S kv found).set (S.length + 1) (.lst f') = CT S kv f' := by unfold CT; simp
theorem rdT_a : dicTRd (.loc S.length) (CT S kv found) = some kv := by
  unfold dicTRd
  dsimp only
  rw [ct_a]
theorem atT_a : dicTAt (.loc S.length) (CT S kv found) = some (S.length, kv) := by
  unfold dicTAt
  dsimp only
  rw [ct_a]
theorem appT_f {e0 e1 e3 : Option U} {w : U} (hm : m [e0, e1, some (.loc (S.length + 1)), e3] (CT S kv found) = Out.ok w (CT S kv found)) (hz : found.length < 1000) : sDrop (eBM fApp (eVar 2) (aCons m aNil)) [e0, e1, some (.loc (S.length + 1)), e3] (CT S kv found) = SO.next [e0, e1, some (.loc (S.length + 1)), e3] (CT S kv (found ++ [w])) := by
  have d := app_drop (S := CT S kv found) (S1 := CT S kv found) (i := 2) (j := S.length + 1) (us := found) (w := w) (env := [e0, e1, some (.loc (S.length + 1)), e3]) (m := m) rfl (isl_at ct_b) hm ct_b hz
  rw [ct_sb] at d
  exact d
def stepP (met : List (α)) : Option (α) → List (α)
  | none => met
  | some k => if k ∈ met then met else met ++ [k]
theorem cnT_step {e0 : Option U} {met : List (α)} {o : Option (α)} {u : U} {found : Ent} (inj : ∀ a b, kP a = kP b → a = b) (hu : PU kP S o u) (hz : found.length < 1000) (hm : met.length < 1000) : l_class_numbers_2 [e0, some (.loc S.length), some (.loc (S.length + 1)), some u] (CT S (kvG kP 0 met) (esU found)) = SO.next [e0, some (.loc S.length), some (.loc (S.length + 1)), some u] (CT S (kvG kP 0 (stepP met o)) (esU (found ++ [o.map (stepP met o).idxOf]))) := by
  have hz' : (esU found).length < 1000 := by unfold esU; rw [List.length_map]; exact hz
  have fin : ∀ w : Option Nat, esU (found ++ [w]) = esU found ++ [eU w] := fun w => by unfold esU; rw [List.map_append]; rfl
  unfold l_class_numbers_2
  rw [fin]
  cases o with
  | none =>
    cases (show u = .non from hu)
    have t : NK.tB (eOp fNotN (eVar 3) (eC .non)) [e0, some (.loc S.length), some (.loc (S.length + 1)), some .non] (CT S (kvG kP 0 met) (esU found)) = Out.ok false (CT S (kvG kP 0 met) (esU found)) := tB_of (op2 (a := .non) (b := .non) (S2 := CT S (kvG kP 0 met) (esU found)) (v_at (i := 3) rfl) rfl rfl)
    refine seq_n (if_f (tand_f t) rfl) (appT_f ?_ hz')
    exact eif_at (tB_of (op2 (a := .non) (b := .non) (S2 := CT S (kvG kP 0 met) (esU found)) (v_at (i := 3) rfl) rfl (r := Out.ok (.bl true) (CT S (kvG kP 0 met) (esU found))) rfl)) |>.trans rfl
  | some k =>
    have key : ∀ kv fd, keyL u (CT S kv fd) = some (kP k) := fun kv fd => pu_key hu
    obtain ⟨iu, _, rfl, _⟩ := hu
    have t1 : NK.tB (eOp fNotN (eVar 3) (eC .non)) [e0, some (.loc S.length), some (.loc (S.length + 1)), some (.loc iu)] (CT S (kvG kP 0 met) (esU found)) = Out.ok true (CT S (kvG kP 0 met) (esU found)) := tB_of (op2 (a := .loc iu) (b := .non) (S2 := CT S (kvG kP 0 met) (esU found)) (v_at (i := 3) rfl) rfl rfl)
    have t2 : eDInL true (eVar 3) (eVar 1) [e0, some (.loc S.length), some (.loc (S.length + 1)), some (.loc iu)] (CT S (kvG kP 0 met) (esU found)) = Out.ok (.bl (!decide (k ∈ met))) (CT S (kvG kP 0 met) (esU found)) := by
      have v3 : eVar 3 [e0, some (.loc S.length), some (.loc (S.length + 1)), some (.loc iu)] (CT S (kvG kP 0 met) (esU found)) = Out.ok (.loc iu) (CT S (kvG kP 0 met) (esU found)) := v_at (i := 3) rfl
      have v1 : eVar 1 [e0, some (.loc S.length), some (.loc (S.length + 1)), some (.loc iu)] (CT S (kvG kP 0 met) (esU found)) = Out.ok (.loc S.length) (CT S (kvG kP 0 met) (esU found)) := v_at (i := 1) rfl
      unfold eDInL
      rw [v3, ob, v1, ob, rdT_a, key]
      show Out.ok (U.bl ((valU (kvG kP 0 met) (kP k)).isSome != true)) _ = _
      rw [kvG_val inj]
      by_cases z : k ∈ met
      · rw [if_pos z, decide_eq_true z]; rfl
      · rw [if_neg z, decide_eq_false z]; rfl
    have get : ∀ {met : List (α)}, k ∈ met → eIf (NK.tB (eOp fIsN (eVar 3) (eC .non))) (eC .non) (eDGetL (eVar 1) (eVar 3)) [e0, some (.loc S.length), some (.loc (S.length + 1)), some (.loc iu)] (CT S (kvG kP 0 met) (esU found)) = Out.ok (eU (some (met.idxOf k))) (CT S (kvG kP 0 met) (esU found)) := fun {met} z => by
      have n : eOp fIsN (eVar 3) (eC .non) [e0, some (.loc S.length), some (.loc (S.length + 1)), some (.loc iu)] (CT S (kvG kP 0 met) (esU found)) = Out.ok (.bl false) (CT S (kvG kP 0 met) (esU found)) := op2 (a := .loc iu) (b := .non) (S2 := CT S (kvG kP 0 met) (esU found)) (v_at (i := 3) rfl) rfl rfl
      refine (eif_at (tB_of n)).trans ?_
      rw [if_neg Bool.false_ne_true]
      have v3 : eVar 3 [e0, some (.loc S.length), some (.loc (S.length + 1)), some (.loc iu)] (CT S (kvG kP 0 met) (esU found)) = Out.ok (.loc iu) (CT S (kvG kP 0 met) (esU found)) := v_at (i := 3) rfl
      have v1 : eVar 1 [e0, some (.loc S.length), some (.loc (S.length + 1)), some (.loc iu)] (CT S (kvG kP 0 met) (esU found)) = Out.ok (.loc S.length) (CT S (kvG kP 0 met) (esU found)) := v_at (i := 1) rfl
      unfold eDGetL
      rw [v1, ob, v3, ob, rdT_a, key]
      show (match valU (kvG kP 0 met) (kP k) with | some w => Out.ok w _ | none => Out.bad) = _
      rw [kvG_val inj, if_pos z]
      show Out.ok (U.int ((0 + met.idxOf k : Nat) : Int)) _ = _
      rw [Nat.zero_add]
      rfl
    have t := tand_at t1 (tB_of t2)
    rw [Bool.true_and] at t
    show _ = SO.next _ (CT S (kvG kP 0 (stepP met (some k))) (esU found ++ [eU (some ((stepP met (some k)).idxOf k))]))
    have sM : stepP met (some k) = if k ∈ met then met else met ++ [k] := rfl
    rw [sM]
    by_cases z : k ∈ met
    · rw [if_pos z]
      rw [decide_eq_true z] at t
      exact seq_n (if_f t rfl) (appT_f (get z) hz')
    · rw [if_neg z]
      rw [decide_eq_false z] at t
      refine seq_n (if_t t ?_) (appT_f (get (List.mem_append_right _ (List.mem_singleton.mpr rfl))) hz')
      have ln : eCB fLenT (aCons (eVar 1) aNil) [e0, some (.loc S.length), some (.loc (S.length + 1)), some (.loc iu)] (CT S (kvG kP 0 met) (esU found)) = Out.ok (.int (met.length : Nat)) (CT S (kvG kP 0 met) (esU found)) := cb1 (S1 := CT S (kvG kP 0 met) (esU found)) (v_at (i := 1) rfl) (by
        unfold fLenT
        dsimp only
        rw [ct_a]
        dsimp only
        rw [kvG_len])
      have pt : dputL (.loc S.length) (.loc iu) (.int (met.length : Nat)) (CT S (kvG kP 0 met) (esU found)) = some (CT S (kvG kP 0 (met ++ [k])) (esU found)) := by
        unfold dputL
        rw [atT_a, key]
        show (if (kvG kP 0 met).length < 16777216 then some ((CT S (kvG kP 0 met) (esU found)).set S.length (.dT (putU (kvG kP 0 met) (kP k) (.int (met.length : Nat))))) else none) = _
        rw [if_pos (by rw [kvG_len]; omega), kvG_put inj z, ct_sa]
      unfold sDPutL
      rw [ln]
      show (match dputL (.loc S.length) (.loc iu) (.int (met.length : Nat)) (CT S (kvG kP 0 met) (esU found)) with | some st4 => SO.next [e0, some (.loc S.length), some (.loc (S.length + 1)), some (.loc iu)] st4 | none => SO.bad) = _
      rw [pt]
theorem cnT_loop {e0 : Option U} {g : Sto → Prop} (hg : ∀ T, g (S ++ T)) (inj : ∀ a b, kP a = kP b → a = b) : ∀ (M : List (Option (α))) (us : List U) (met : List (α)) (found : Ent) (e3 : Option U), PUs kP S M us → found.length + M.length ≤ 900 → met.length + M.length ≤ 900 →
    ∃ e3', NK.forM g (gN 3) l_class_numbers_2 us [e0, some (.loc S.length), some (.loc (S.length + 1)), e3] (CT S (kvG kP 0 met) (esU found)) = SO.next [e0, some (.loc S.length), some (.loc (S.length + 1)), e3'] (CT S (kvG kP 0 (finM met M)) (esU (found ++ numGo met M)))
  | [], us, met, found, e3, hu, _, _ => ⟨e3, by
    rw [show us = [] from hu]
    show NK.forM _ _ _ [] _ _ = _
    rw [show numGo met ([] : List (Option (α))) = [] from rfl, List.append_nil]
    exact forM_nil (hg _)⟩
  | o :: M, us, met, found, e3, hu, h1, h2 => by
    obtain ⟨u, vs, rfl, hu, hv⟩ := hu
    rw [List.length_cons] at h1 h2
    have l1 : (stepP met o).length ≤ met.length + 1 := by
      cases o with
      | none => exact Nat.le_succ _
      | some k =>
        show (if k ∈ met then met else met ++ [k]).length ≤ _
        split
        · exact Nat.le_succ _
        · rw [List.length_append]; exact Nat.le_refl _
    obtain ⟨e3', ih⟩ := cnT_loop (e0 := e0) hg inj M vs (stepP met o) (found ++ [o.map (stepP met o).idxOf]) (some u) hv (by rw [List.length_append, List.length_singleton]; omega) (by omega)
    refine ⟨e3', (forM_n (env1 := [e0, some (.loc S.length), some (.loc (S.length + 1)), some u]) (hg _) rfl (cnT_step inj hu (by omega) (by omega))).trans (ih.trans ?_)⟩
    have f1 : finM met (o :: M) = finM (stepP met o) M := by
      cases o with
      | none => rfl
      | some k =>
        show (if k ∈ met then finM met M else finM (met ++ [k]) M) = finM (if k ∈ met then met else met ++ [k]) M
        split <;> rfl
    have f2 : numGo met (o :: M) = o.map (stepP met o).idxOf :: numGo (stepP met o) M := by
      cases o with
      | none => rfl
      | some k =>
        show (if k ∈ met then some (met.idxOf k) :: numGo met M else some met.length :: numGo (met ++ [k]) M) = some ((if k ∈ met then met else met ++ [k]).idxOf k) :: numGo (if k ∈ met then met else met ++ [k]) M
        by_cases z : k ∈ met
        · rw [if_pos z, if_pos z]
        · rw [if_neg z, if_neg z]
          congr 2
          rw [List.idxOf_append, if_neg z]
          simp
    rw [f1, f2, List.append_assoc]
    rfl
theorem it_at {w : U} {us : List U} {g : Sto → Prop} {e1 e2 e3 : Option U} {T : Sto} (hs : ∀ T, src w (S ++ T) = some ⟨us, g⟩) : iSeq (eVar 0) [some w, e1, e2, e3] (S ++ T) = Out.ok ⟨us, g⟩ (S ++ T) := by
  have v0 : eVar 0 [some w, e1, e2, e3] (S ++ T) = Out.ok w (S ++ T) := v_at (i := 0) rfl
  unfold iSeq
  rw [v0, ob, hs]
theorem cnT_ok {M : List (Option α)} {w : U} {us : List U} {g : Sto → Prop} (inj : ∀ a b, kP a = kP b → a = b) (hu : PUs kP S M us) (ha : asLst w S = some us) (hs : ∀ T, src w (S ++ T) = some ⟨us, g⟩) (hg : ∀ T, g (S ++ T)) (hh : (us.any fun w => match w with
      | .loc _ => true
      | _ => false) = true) (hl : M.length ≤ 900) : m_class_numbers [w] S = Out.ok (.tup (esU (num M))) S := by
  obtain ⟨e3, f⟩ := cnT_loop (S := S) (e0 := some w) hg inj M us [] [] none hu (by simpa using hl) (by simpa using hl)
  refine fs_val (n := 4) (mb := b_class_numbers) (env := [some w, none, none, none]) (st2 := S) (ext := [.dT (kvG kP 0 (finM [] M)), .lst (esU (num M))]) rfl ?_ (Old.refl S) (by unfold U.under; exact esU_und _)
  have h0 : hasL 0 [some w, none, none, none] S = true := by
    unfold hasL
    show (match asLst w S with | some us => us.any _ | none => false) = true
    rw [ha]
    exact hh
  unfold b_class_numbers sCase
  rw [h0, if_pos rfl]
  have a2 : eLst aNil [some w, some (.loc S.length), none, none] (S ++ [.dT []]) = Out.ok (.loc (S.length + 1)) (CT S (kvG kP 0 []) (esU [])) := by
    show Out.ok (U.loc (S ++ [Ob.dT []]).length) (S ++ [Ob.dT []] ++ [Ob.lst []]) = _
    rw [List.length_append, List.append_assoc]
    rfl
  refine seq_n (asg_ok (i := 1) (show eDictT _ S = Out.ok (.loc S.length) (S ++ [.dT []]) from rfl)) (seq_n (asg_ok (i := 2) a2) (seq_n (sFor_ok (us := us) (g := g) (S1 := CT S (kvG kP 0 []) (esU [])) (it_at hs) f) (ret_ok ?_)))
  refine cb1 (S1 := CT S (kvG kP 0 (finM [] M)) (esU (num M))) (v_at (i := 2) rfl) ?_
  show fTuple [.loc (S.length + 1)] (CT S (kvG kP 0 (finM [] M)) (esU (num M))) = _
  have it : items (.loc (S.length + 1)) (CT S (kvG kP 0 (finM [] M)) (esU (num M))) = some (esU (num M)) := by
    unfold items
    dsimp only
    rw [ct_b]
  unfold fTuple
  dsimp only
  rw [it]
  rfl
end
end
theorem cnG_loop {S : Sto} {e0 : Option U} {g : Sto → Prop} (hg : ∀ T, g (S ++ T)) : ∀ (M : Ent) (met : List Nat) (found : Ent) (e3 : Option U), found.length + M.length ≤ 900 → met.length + M.length ≤ 900 →
    ∃ e3', NK.forM g (gN 3) l_class_numbers_1 (esU M) [e0, some (.loc S.length), some (.loc (S.length + 1)), e3] (CS S (kvG kI 0 met) (esU found)) = SO.next [e0, some (.loc S.length), some (.loc (S.length + 1)), e3'] (CS S (kvG kI 0 (finM met M)) (esU (found ++ numGo met M)))
  | [], met, found, e3, _, _ => ⟨e3, by
    show NK.forM _ _ _ [] _ _ = _
    rw [show numGo met ([] : Ent) = [] from rfl, List.append_nil]
    exact forM_nil (hg _)⟩
  | o :: M, met, found, e3, h1, h2 => by
    rw [List.length_cons] at h1 h2
    have l1 : (stepM met o).length ≤ met.length + 1 := by
      cases o with
      | none => exact Nat.le_succ _
      | some k =>
        show (if k ∈ met then met else met ++ [k]).length ≤ _
        split
        · exact Nat.le_succ _
        · rw [List.length_append]; exact Nat.le_refl _
    obtain ⟨e3', ih⟩ := cnG_loop (e0 := e0) hg M (stepM met o) (found ++ [o.map (stepM met o).idxOf]) (some (eU o)) (by rw [List.length_append, List.length_singleton]; omega) (by omega)
    refine ⟨e3', (forM_n (env1 := [e0, some (.loc S.length), some (.loc (S.length + 1)), some (eU o)]) (hg _) rfl (cn_step (by omega) (by omega))).trans (ih.trans ?_)⟩
    have f1 : finM met (o :: M) = finM (stepM met o) M := by
      cases o with
      | none => rfl
      | some k =>
        show (if k ∈ met then finM met M else finM (met ++ [k]) M) = finM (if k ∈ met then met else met ++ [k]) M
        split <;> rfl
    have f2 : numGo met (o :: M) = o.map (stepM met o).idxOf :: numGo (stepM met o) M := by
      cases o with
      | none => rfl
      | some k =>
        show (if k ∈ met then some (met.idxOf k) :: numGo met M else some met.length :: numGo (met ++ [k]) M) = some ((if k ∈ met then met else met ++ [k]).idxOf k) :: numGo (if k ∈ met then met else met ++ [k]) M
        by_cases z : k ∈ met
        · rw [if_pos z, if_pos z]
        · rw [if_neg z, if_neg z]
          congr 2
          rw [List.idxOf_append, if_neg z]
          simp
    rw [f1, f2, List.append_assoc]
    rfl
theorem cnG_ok {S : Sto} {M : Ent} {w : U} {g : Sto → Prop} (ha : asLst w S = some (esU M)) (hs : ∀ T, src w (S ++ T) = some ⟨esU M, g⟩) (hg : ∀ T, g (S ++ T)) (hl : M.length ≤ 900) : m_class_numbers [w] S = Out.ok (.tup (esU (num M))) S := by
  obtain ⟨e3, f⟩ := cnG_loop (S := S) (e0 := some w) hg M [] [] none (by simpa using hl) (by simpa using hl)
  refine fs_val (n := 4) (mb := b_class_numbers) (env := [some w, none, none, none]) (st2 := S) (ext := [.dK (kvG kI 0 (finM [] M)), .lst (esU (num M))]) rfl ?_ (Old.refl S) (by unfold U.under; exact esU_und _)
  have h0 : hasL 0 [some w, none, none, none] S = false := by
    unfold hasL
    show (match asLst w S with | some us => us.any _ | none => false) = false
    rw [ha]
    show (esU M).any _ = false
    rw [List.any_eq_false]
    intro u hu
    obtain ⟨o, _, rfl⟩ := List.mem_map.mp hu
    cases o <;> exact Bool.false_ne_true
  unfold b_class_numbers sCase
  rw [h0, if_neg Bool.false_ne_true]
  have a2 : eLst aNil [some w, some (.loc S.length), none, none] (S ++ [.dK []]) = Out.ok (.loc (S.length + 1)) (CS S (kvG kI 0 []) (esU [])) := by
    show Out.ok (U.loc (S ++ [Ob.dK []]).length) (S ++ [Ob.dK []] ++ [Ob.lst []]) = _
    rw [List.length_append, List.append_assoc]
    rfl
  refine seq_n (asg_ok (i := 1) (show eDict _ S = Out.ok (.loc S.length) (S ++ [.dK []]) from rfl)) (seq_n (asg_ok (i := 2) a2) (seq_n (sFor_ok (us := esU M) (g := g) (S1 := CS S (kvG kI 0 []) (esU [])) (it_at hs) f) (ret_ok ?_)))
  refine cb1 (S1 := CS S (kvG kI 0 (finM [] M)) (esU (num M))) (v_at (i := 2) rfl) ?_
  show fTuple [.loc (S.length + 1)] (CS S (kvG kI 0 (finM [] M)) (esU (num M))) = _
  have it : items (.loc (S.length + 1)) (CS S (kvG kI 0 (finM [] M)) (esU (num M))) = some (esU (num M)) := by
    unfold items
    dsimp only
    rw [cs_b]
  unfold fTuple
  dsimp only
  rw [it]
  rfl
def kP (p : Nat × Nat) : List Key := [.inl (p.1 : Int), .inl (p.2 : Int)]
theorem kP_inj (a b : Nat × Nat) (h : kP a = kP b) : a = b := by
  unfold kP at h
  injection h with h1 h2
  injection h2 with h2 _
  exact Prod.ext (Int.ofNat.inj (Sum.inl.inj h1)) (Int.ofNat.inj (Sum.inl.inj h2))
end G

namespace G
open PySem L2 NK
theorem pus_alt {α : Type} {kP : α → List Key} {S : Sto} : ∀ {M : List (Option α)} {us : List U}, PUs kP S M us → (us.any fun w => match w with
      | .loc _ => true
      | _ => false) = true ∨ (us = esU (List.replicate M.length none) ∧ M = List.replicate M.length none)
  | [], us, h => .inr ⟨h, rfl⟩
  | o :: M, us, h => by
    obtain ⟨u, vs, rfl, h1, h2⟩ := h
    cases o with
    | some p =>
      obtain ⟨i, ws, rfl, _, _⟩ := h1
      exact .inl rfl
    | none =>
      cases (show u = .non from h1)
      rcases pus_alt h2 with z | ⟨e1, e2⟩
      · exact .inl (by rw [List.any_cons, z, Bool.or_true])
      · refine .inr ⟨?_, ?_⟩
        · rw [e1, List.length_cons, List.replicate_succ]
          rfl
        · rw [List.length_cons, List.replicate_succ, ← e2]
theorem numGo_none {α : Type} [DecidableEq α] : ∀ (n : Nat) (met : List α), numGo met (List.replicate n none) = List.replicate n none
  | 0, met => rfl
  | n + 1, met => by
    rw [List.replicate_succ]
    show none :: numGo met (List.replicate n none) = _
    rw [numGo_none n met]
    rfl
section
variable {S : Sto} {env : NK.Env} {es fs : Ent}
theorem pr_go {e0 e1 e2 : Option U} {g : Sto → Prop} (hg : ∀ s, g s) : ∀ (es fs : Ent) (acc : List U) (tps : List Ob), mk es fs → acc.length + es.length ≤ 900 →
    ∃ us tps', compM g (gT [3, 4]) NK.tYes (eIf (NK.tB (eOp fIsN (eVar 3) (eC .non))) (eC .non) (eTupL (aCons (eVar 3) (aCons (eVar 4) aNil)))) S.length [e0, e1, e2, none, none] (zipU (esU es) (esU fs)) (S ++ Ob.lst acc :: tps) = Out.ok (.loc S.length) (S ++ Ob.lst (acc ++ us) :: (tps ++ tps')) ∧ ∀ X T, PUs kP (S ++ X :: (tps ++ tps' ++ T)) (prE es fs) us
  | [], fs, acc, tps, h, _ => ⟨[], [], by
    show compM g _ _ _ _ _ [] _ = _
    unfold compM
    rw [if_pos (hg _), List.append_nil, List.append_nil], fun X T => rfl⟩
  | o :: es, [], acc, tps, h, _ => nomatch h
  | o :: es, p :: fs, acc, tps, h, hl => by
    have h1 : o.isSome = p.isSome := (List.cons.inj h).1
    have h2 : mk es fs := (List.cons.inj h).2
    rw [List.length_cons] at hl
    have zz : zipU (esU (o :: es)) (esU (p :: fs)) = .tup [eU o, eU p] :: zipU (esU es) (esU fs) := rfl
    have at_d : ∀ {a : List U} {t : List Ob}, (S ++ Ob.lst a :: t)[S.length]? = some (Ob.lst a) := by intro a t; simp
    have set_d : ∀ {a b : List U} {t : List Ob}, (S ++ Ob.lst a :: t).set S.length (.lst b) = S ++ Ob.lst b :: t := by intro a b t; simp
    have gt : gT [3, 4] (.tup [eU o, eU p]) [e0, e1, e2, none, none] (S ++ Ob.lst acc :: tps) = some [e0, e1, e2, some (eU o), some (eU p)] := rfl
    have v3 : eVar 3 [e0, e1, e2, some (eU o), some (eU p)] (S ++ Ob.lst acc :: tps) = Out.ok (eU o) (S ++ Ob.lst acc :: tps) := v_at (i := 3) rfl
    have v4 : eVar 4 [e0, e1, e2, some (eU o), some (eU p)] (S ++ Ob.lst acc :: tps) = Out.ok (eU p) (S ++ Ob.lst acc :: tps) := v_at (i := 4) rfl
    cases o with
    | none =>
      cases p with
      | some _ => cases h1
      | none =>
        obtain ⟨us, tps', f, k⟩ := pr_go hg es fs (acc ++ [.non]) tps h2 (by rw [List.length_append, List.length_singleton]; omega)
        refine ⟨.non :: us, tps', ?_, fun X T => ⟨.non, us, rfl, rfl, k X T⟩⟩
        have me : eIf (NK.tB (eOp fIsN (eVar 3) (eC .non))) (eC .non) (eTupL (aCons (eVar 3) (aCons (eVar 4) aNil))) [e0, e1, e2, some (eU none), some (eU none)] (S ++ Ob.lst acc :: tps) = Out.ok .non (S ++ Ob.lst acc :: tps) :=
          (eif_at (tB_of (op2 (a := .non) (b := .non) (S2 := S ++ Ob.lst acc :: tps) v3 rfl (r := Out.ok (.bl true) (S ++ Ob.lst acc :: tps)) rfl))).trans rfl
        rw [zz]
        unfold compM
        rw [if_pos (hg _), gt]
        dsimp only [NK.tYes]
        rw [me]
        dsimp only
        rw [at_d]
        dsimp only
        rw [if_pos (by omega), set_d, f, List.append_assoc]
        rfl
    | some a =>
      cases p with
      | none => cases h1
      | some b =>
        obtain ⟨us, tps', f, k⟩ := pr_go hg es fs (acc ++ [.loc (S.length + 1 + tps.length)]) (tps ++ [.tp [.int (a : Nat), .int (b : Nat)]]) h2 (by rw [List.length_append, List.length_singleton]; omega)
        refine ⟨.loc (S.length + 1 + tps.length) :: us, .tp [.int (a : Nat), .int (b : Nat)] :: tps', ?_, fun X T => ⟨.loc (S.length + 1 + tps.length), us, rfl, ⟨_, [.int (a : Nat), .int (b : Nat)], rfl, ?_, rfl⟩, ?_⟩⟩
        · have tl : eTupL (aCons (eVar 3) (aCons (eVar 4) aNil)) [e0, e1, e2, some (eU (some a)), some (eU (some b))] (S ++ Ob.lst acc :: tps) = Out.ok (.loc (S.length + 1 + tps.length)) (S ++ Ob.lst acc :: (tps ++ [.tp [.int (a : Nat), .int (b : Nat)]])) := by
            unfold eTupL
            rw [acN v3 (ac1 v4), ob]
            show (if 2 ≤ 16777216 then Out.ok (U.loc (S ++ Ob.lst acc :: tps).length) (S ++ Ob.lst acc :: tps ++ [Ob.tp [eU (some a), eU (some b)]]) else Out.bad) = _
            rw [if_pos (by omega), List.length_append, List.length_cons, List.append_assoc, List.cons_append, show S.length + (tps.length + 1) = S.length + 1 + tps.length by omega]
            rfl
          have me : eIf (NK.tB (eOp fIsN (eVar 3) (eC .non))) (eC .non) (eTupL (aCons (eVar 3) (aCons (eVar 4) aNil))) [e0, e1, e2, some (eU (some a)), some (eU (some b))] (S ++ Ob.lst acc :: tps) = Out.ok (.loc (S.length + 1 + tps.length)) (S ++ Ob.lst acc :: (tps ++ [.tp [.int (a : Nat), .int (b : Nat)]])) := by
            have n : eOp fIsN (eVar 3) (eC .non) [e0, e1, e2, some (eU (some a)), some (eU (some b))] (S ++ Ob.lst acc :: tps) = Out.ok (.bl false) (S ++ Ob.lst acc :: tps) := op2 (a := .int (a : Nat)) (b := .non) (S2 := S ++ Ob.lst acc :: tps) v3 rfl rfl
            refine (eif_at (tB_of n)).trans ?_
            rw [if_neg Bool.false_ne_true]
            exact tl
          rw [zz]
          unfold compM
          rw [if_pos (hg _), gt]
          dsimp only [NK.tYes]
          rw [me]
          dsimp only
          rw [at_d]
          dsimp only
          rw [if_pos (by omega), set_d, f, List.append_assoc, List.append_assoc]
          rfl
        · rw [List.getElem?_append_right (by omega), show S.length + 1 + tps.length - S.length = tps.length + 1 by omega, List.getElem?_cons_succ, List.append_assoc, List.getElem?_append_right (Nat.le_refl _), Nat.sub_self]
          rfl
        · have q := k X T
          rw [List.append_assoc, List.append_assoc] at q
          rw [List.append_assoc]
          exact q
theorem anE_len (h : mk es fs) : (anE es fs).length = es.length := by
  unfold anE
  rw [num_len, prE_len h]
theorem and_ok (h : mk es fs) (hl : es.length ≤ 40) : m_Pattern___and [patI es, patI fs] S = Out.ok (patI (anE es fs)) S := by
  obtain ⟨us, tps, f, k⟩ := pr_go (S := S) (e0 := some (patI es)) (e1 := some (patI fs)) (e2 := none) (g := fun _ => True) (fun _ => True.intro) es fs [] [] h (by rw [List.length_nil]; omega)
  rw [List.nil_append, List.nil_append] at f
  refine fs_val (n := 5) (mb := b_Pattern___and) (env := [some (patI es), some (patI fs), none, none, none]) (st2 := S) (ext := Ob.lst us :: tps) rfl ?_ (Old.refl S) (pat_und _)
  unfold b_Pattern___and
  refine seq_n (if_f is_pat rfl) (seq_n (drop_n (call2 rfl (v_at rfl) (v_at rfl) (match_ok h))) (seq_n (asg_ok (i := 2) (u := .loc S.length) (S1 := S ++ Ob.lst us :: tps) ?_) (ret_ok ?_)))
  · unfold eComp
    have z : NK.iZip (aCons (eFld 3 0 (eVar 0)) (aCons (eFld 3 0 (eVar 1)) aNil)) [some (patI es), some (patI fs), none, none, none] S = Out.ok ⟨zipU (esU es) (esU fs), fun _ => True⟩ S := by
      unfold NK.iZip
      rw [acN (S1 := S) (u := .tup (esU es)) (fld_at rfl rfl) (ac1 (u := .tup (esU fs)) (fld_at rfl rfl))]
      rfl
    rw [z, ob]
    exact f
  · have al : asLst (.loc S.length) (S ++ Ob.lst us :: tps) = some us := by
      unfold asLst
      dsimp only
      rw [show (S ++ Ob.lst us :: tps)[S.length]? = some (Ob.lst us) by simp]
    have at_T : ∀ T : Sto, (S ++ Ob.lst us :: tps ++ T)[S.length]? = some (Ob.lst us) := by intro T; simp
    have sc : ∀ T : Sto, src (.loc S.length) (S ++ Ob.lst us :: tps ++ T) = some ⟨us, fun s => s[S.length]? = some (Ob.lst us)⟩ := fun T => by
      unfold src
      dsimp only
      rw [at_T]
    have pl : (prE es fs).length ≤ 900 := by rw [prE_len h]; omega
    have k0 : PUs kP (S ++ Ob.lst us :: tps) (prE es fs) us := by
      have q := k (Ob.lst us) []
      rw [List.nil_append, List.append_nil] at q
      exact q
    have cn : m_class_numbers [.loc S.length] (S ++ Ob.lst us :: tps) = Out.ok (.tup (esU (anE es fs))) (S ++ Ob.lst us :: tps) := by
      rcases pus_alt k0 with z | ⟨e1, e2⟩
      · exact cnT_ok (M := prE es fs) (us := us) (g := fun s => s[S.length]? = some (Ob.lst us)) kP_inj k0 al sc at_T z pl
      · have r : anE es fs = num (α := Nat) (List.replicate (prE es fs).length none) := by
          unfold anE
          rw [e2]
          show numGo _ _ = numGo _ _
          rw [numGo_none, List.length_replicate, numGo_none]
        rw [r]
        exact cnG_ok (M := List.replicate (prE es fs).length none) (g := fun s => s[S.length]? = some (Ob.lst us)) (by rw [al, ← e1]) (fun T => by rw [sc, ← e1]) at_T (by rw [List.length_replicate]; exact pl)
    exact make_at (.t (anE es fs)) anE_can (by rw [anE_len h]; exact hl) (call1 rfl (v_at rfl) cn)
end
end G

namespace G
open PySem L2 NK
theorem seq_x {a b : MS} {env env1 : NK.Env} {S S1 : Sto} {x : Ex} (h1 : a env S = SO.exc x env1 S1) : sSeq a b env S = SO.exc x env1 S1 := by
  show SO.bind _ _ = _
  rw [h1]
  rfl
def mW (es fs : Ent) : Str := if es.length = fs.length then "nobody" else "places"
def bmX (w : Str) : Ex := ⟨2, [.str w]⟩
section
variable {S S1 : Sto} {env : NK.Env} {es fs : Ent} {w : Str}
theorem rais_at : sRaise 2 1 (aCons (eC (.str w)) aNil) env S = SO.exc (bmX w) env S := rfl
theorem cm_bad {e0 e1 : Option U} {o p : Option Nat} (h : o.isSome ≠ p.isSome) : l_check_match_1 [e0, e1, some (eU o), some (eU p)] S = SO.exc (bmX "nobody") [e0, e1, some (eU o), some (eU p)] S := by
  unfold l_check_match_1
  refine if_t (S1 := S) (tB_of (op2 (S1 := S) (S2 := S) (a := .bl (!o.isSome)) (b := .bl (!p.isSome)) (op2 (S1 := S) (S2 := S) (v_at (i := 2) rfl) rfl (by cases o <;> rfl)) (op2 (S1 := S) (S2 := S) (v_at (i := 3) rfl) rfl (by cases p <;> rfl)) (r := Out.ok (.bl true) S) ?_)) rais_at
  cases o <;> cases p <;> first | rfl | exact absurd rfl h
theorem cm_loopX {e0 e1 : Option U} : ∀ (es fs : Ent) (e2 e3 : Option U), es.length = fs.length → ¬ mk es fs → ∃ e2' e3', NK.forM (fun _ => True) (gT [2, 3]) l_check_match_1 (zipU (esU es) (esU fs)) [e0, e1, e2, e3] S = SO.exc (bmX "nobody") [e0, e1, e2', e3'] S
  | [], [], e2, e3, _, h => absurd rfl h
  | [], p :: fs, e2, e3, l, h => nomatch l
  | o :: es, [], e2, e3, l, h => nomatch l
  | o :: es, p :: fs, e2, e3, l, h => by
    by_cases q : o.isSome = p.isSome
    · obtain ⟨e2', e3', ih⟩ := cm_loopX (e0 := e0) (e1 := e1) es fs (some (eU o)) (some (eU p)) (Nat.succ.inj l) fun z => h (by
        show o.isSome :: es.map Option.isSome = p.isSome :: fs.map Option.isSome
        rw [q, show es.map Option.isSome = fs.map Option.isSome from z])
      exact ⟨e2', e3', (forM_n (env1 := [e0, e1, some (eU o), some (eU p)]) True.intro rfl (cm_step q)).trans ih⟩
    · exact ⟨_, _, forM_x (env1 := [e0, e1, some (eU o), some (eU p)]) True.intro rfl (cm_bad q)⟩
theorem sFor_x {mi : MI} {gt : MGt} {b : MS} {us : List U} {g : Sto → Prop} {x : Ex} {env' : NK.Env} (h : mi env S = Out.ok ⟨us, g⟩ S1) (f : NK.forM g gt b us env S1 = SO.exc x env' S) : sFor mi gt b env S = SO.exc x env' S := by
  unfold NK.sFor
  rw [h]
  exact f
theorem match_bad (h : ¬ mk es fs) : m_check_match [patI es, patI fs] S = Out.exc (bmX (mW es fs)) S := by
  have ln : ∀ {i : Nat} {gs : Ent}, ([some (patI es), some (patI fs), none, none] : NK.Env)[i]? = some (some (patI gs)) → eCB fLen (aCons (eFld 3 0 (eVar i)) aNil) [some (patI es), some (patI fs), none, none] S = Out.ok (.int (gs.length : Nat)) S := fun {i gs} e => cb1 (S1 := S) (fld_at e rfl) (by
    show Out.ok (U.int ((esU gs).length : Nat)) S = _
    unfold esU
    rw [List.length_map])
  have ne : eOp fNe (eCB fLen (aCons (eFld 3 0 (eVar 0)) aNil)) (eCB fLen (aCons (eFld 3 0 (eVar 1)) aNil)) [some (patI es), some (patI fs), none, none] S = Out.ok (.bl (!decide (es.length = fs.length))) S := op2 (S1 := S) (S2 := S) (ln (gs := es) rfl) (ln (gs := fs) rfl) (by
    refine (fNe_ok rfl rfl).trans ?_
    rw [show eqvU (.int (es.length : Nat)) (.int (fs.length : Nat)) = decide (es.length = fs.length) from (eU_eqv (some es.length) (some fs.length)).trans (decide_eq_decide.mpr ⟨fun z => Option.some.inj z, fun z => by rw [z]⟩)])
  unfold mW
  by_cases l : es.length = fs.length
  · rw [if_pos l]
    obtain ⟨e2, e3, f⟩ := cm_loopX (S := S) (e0 := some (patI es)) (e1 := some (patI fs)) es fs none none l h
    refine fs_exc (n := 4) (mb := b_check_match) (env := [some (patI es), some (patI fs), none, none]) (env' := [some (patI es), some (patI fs), e2, e3]) rfl ?_
    rw [decide_eq_true l] at ne
    unfold b_check_match
    refine seq_n (if_no (S1 := S) ne rfl) (sFor_x (us := zipU (esU es) (esU fs)) (g := fun _ => True) (S1 := S) ?_ f)
    unfold NK.iZip
    rw [acN (S1 := S) (u := .tup (esU es)) (fld_at rfl rfl) (ac1 (u := .tup (esU fs)) (fld_at rfl rfl))]
    rfl
  · rw [if_neg l]
    refine fs_exc (n := 4) (mb := b_check_match) (env := [some (patI es), some (patI fs), none, none]) (env' := [some (patI es), some (patI fs), none, none]) rfl ?_
    rw [decide_eq_false l] at ne
    unfold b_check_match
    exact seq_x (if_t (S1 := S) (tB_of ne) rais_at)
theorem drop_x {m : ME} {x : Ex} (h : m env S = Out.exc x S1) : sDrop m env S = SO.exc x env S1 := by
  unfold NK.sDrop
  rw [h]
  rfl
theorem finer_bad (h : ¬ mk es fs) : m_is_finer [patI es, patI fs] S = Out.exc (bmX (mW es fs)) S := by
  refine fs_exc (n := 5) (mb := b_is_finer) (env := [some (patI es), some (patI fs), none, none, none]) (env' := [some (patI es), some (patI fs), none, none, none]) rfl ?_
  unfold b_is_finer
  exact seq_x (drop_x (call2 rfl (v_at rfl) (v_at rfl) (match_bad h)))
theorem or_bad (h : ¬ mk es fs) : m_Pattern___or [patI es, patI fs] S = Out.exc (bmX (mW es fs)) S := by
  refine fs_exc (n := 2) (mb := b_Pattern___or) (env := [some (patI es), some (patI fs)]) (env' := [some (patI es), some (patI fs)]) rfl ?_
  unfold b_Pattern___or
  exact seq_n (if_f is_pat rfl) (seq_x (drop_x (call2 rfl (v_at rfl) (v_at rfl) (match_bad h))))
theorem and_bad (h : ¬ mk es fs) : m_Pattern___and [patI es, patI fs] S = Out.exc (bmX (mW es fs)) S := by
  refine fs_exc (n := 5) (mb := b_Pattern___and) (env := [some (patI es), some (patI fs), none, none, none]) (env' := [some (patI es), some (patI fs), none, none, none]) rfl ?_
  unfold b_Pattern___and
  exact seq_n (if_f is_pat rfl) (seq_x (drop_x (call2 rfl (v_at rfl) (v_at rfl) (match_bad h))))
theorem lamw_bad {m : ME} (h : m env S = Out.exc (bmX w) S) : eLamW 2 0 m env S = Out.ok (.str w) S := by
  unfold eLamW
  rw [h]
  rfl
theorem lamw_ok {m : ME} {u : U} (h : m env S = Out.ok u S) : eLamW 2 0 m env S = Out.ok .non S := by
  unfold eLamW
  rw [h]
end
end G

namespace G
open PySem L2 NK
instance mkDec (es fs : Ent) : Decidable (mk es fs) := inferInstanceAs (Decidable (es.map Option.isSome = fs.map Option.isSome))
section
variable {S S1 : Sto} {env : NK.Env} {es fs : Ent} {m m1 m2 : ME}
theorem rng_at {n : Nat} (h : m env S = Out.ok (.int (n : Nat)) S) (hn : n ≤ 10000) : NK.iRng1 (aCons m aNil) env S = Out.ok ⟨(List.range n).map fun (i : Nat) => U.int (i : Nat), fun _ => True⟩ S := by
  unfold NK.iRng1
  rw [ac1 h, ob]
  dsimp only
  rw [if_pos (by omega), Int.toNat_natCast]
  congr 3
  funext i
  rw [Int.zero_add]
theorem len_lst {i : Nat} {gs : List U} (h : env[i]? = some (some (.lst gs))) : eCB fLen (aCons (eVar i) aNil) env S = Out.ok (.int (gs.length : Nat)) S := cb1 (S1 := S) (v_at h) rfl
theorem esU_len (gs : Ent) : (esU gs).length = gs.length := by unfold esU; rw [List.length_map]
theorem ne_int {a b : Nat} {m1 m2 : ME} (h1 : m1 env S = Out.ok (.int (a : Nat)) S) (h2 : m2 env S = Out.ok (.int (b : Nat)) S) : eOp fNe m1 m2 env S = Out.ok (.bl (!decide (a = b))) S := op2 (S1 := S) (S2 := S) h1 h2 (by
    refine (fNe_ok rfl rfl).trans ?_
    rw [show eqvU (.int (a : Nat)) (.int (b : Nat)) = decide (a = b) from (eU_eqv (some a) (some b)).trans (decide_eq_decide.mpr ⟨fun z => Option.some.inj z, fun z => by rw [z]⟩)])
def difs (es fs : Ent) : List Nat := (List.range es.length).filter fun i => decide ((es[i]?.join).isSome ≠ (fs[i]?.join).isSome)
theorem difs_mk (l : es.length = fs.length) : difs es fs = [] ↔ mk es fs := by
  unfold difs
  rw [List.filter_eq_nil_iff]
  constructor
  · intro h
    refine List.ext_getElem (by rw [List.length_map, List.length_map, l]) fun i h1 h2 => ?_
    rw [List.length_map] at h1 h2
    have q := h i (List.mem_range.mpr h1)
    rw [List.getElem?_eq_getElem h1, List.getElem?_eq_getElem h2] at q
    rw [List.getElem_map, List.getElem_map]
    simpa using q
  · intro h i hi
    have h1 := List.mem_range.mp hi
    have h2 : i < fs.length := by omega
    have q := congrArg (fun l : List Bool => l[i]?) h
    simp only [List.getElem?_map] at q
    rw [List.getElem?_eq_getElem h1, List.getElem?_eq_getElem h2] at q
    rw [List.getElem?_eq_getElem h1, List.getElem?_eq_getElem h2]
    have q' : (es[i]).isSome = (fs[i]).isSome := by simpa using q
    simp [q']
theorem word_ok (hl : es.length ≤ 900) : m_u_law_match_word [.lst (esU es), .lst (esU fs)] S = Out.ok (if mk es fs then .non else .str (mW es fs)) S := by
  refine fs_same (n := 4) (mb := b_u_law_match_word) (env := [some (.lst (esU es)), some (.lst (esU fs)), none, none]) rfl ?_ (by split <;> rfl)
  have l0 := len_lst (S := S) (env := [some (.lst (esU es)), some (.lst (esU fs)), none, none]) (i := 0) (gs := esU es) rfl
  have l1 := len_lst (S := S) (env := [some (.lst (esU es)), some (.lst (esU fs)), none, none]) (i := 1) (gs := esU fs) rfl
  rw [esU_len] at l0 l1
  have ne := ne_int l0 l1
  unfold b_u_law_match_word mW
  by_cases l : es.length = fs.length
  · rw [decide_eq_true l] at ne
    rw [if_pos l]
    refine seq_n (if_no (S1 := S) ne rfl) ?_
    have c : eScope (eComp (iRng1 (aCons (eCB fLen (aCons (eVar 0) aNil)) aNil)) (gN 3) (NK.tB (eOp fNe (eOp fIsN (eOp fIx (eVar 0) (eVar 3)) (eC .non)) (eOp fIsN (eOp fIx (eVar 1) (eVar 3)) (eC .non)))) (eVar 3) [3]) [some (.lst (esU es)), some (.lst (esU fs)), none, none] S = Out.ok (.lst ((difs es fs).map fun (i : Nat) => U.int (i : Nat))) S := by
      refine comp_genF (fun (i : Nat) => U.int (i : Nat)) (fun (i : Nat) => U.int (i : Nat)) (fun i => decide ((es[i]?.join).isSome ≠ (fs[i]?.join).isSome)) (as := List.range es.length) (g := fun _ => True) (rng_at l0 (by omega)) (fun _ => True.intro) (by rw [List.length_range]; omega) (fun i hi acc => ?_) (fun _ _ _ => rfl)
      have h1 := List.mem_range.mp hi
      have h2 : i < fs.length := by omega
      refine ⟨[some (.lst (esU es)), some (.lst (esU fs)), none, some (.int (i : Nat))], rfl, ?_, fun _ => v_at (i := 3) rfl⟩
      have x0 : eOp fIx (eVar 0) (eVar 3) [some (.lst (esU es)), some (.lst (esU fs)), none, some (.int (i : Nat))] (S ++ [.lst acc]) = Out.ok (eU es[i]) (S ++ [.lst acc]) := ix_lstE (i := i) (v_at rfl) (v_at rfl) (esU_at (List.getElem?_eq_getElem h1))
      have x1 : eOp fIx (eVar 1) (eVar 3) [some (.lst (esU es)), some (.lst (esU fs)), none, some (.int (i : Nat))] (S ++ [.lst acc]) = Out.ok (eU fs[i]) (S ++ [.lst acc]) := ix_lstE (i := i) (v_at rfl) (v_at rfl) (esU_at (List.getElem?_eq_getElem h2))
      refine tB_of (op2 (S1 := S ++ [.lst acc]) (S2 := S ++ [.lst acc]) (a := .bl (!(es[i]).isSome)) (b := .bl (!(fs[i]).isSome)) (op2 x0 rfl (by cases es[i] <;> rfl)) (op2 x1 rfl (by cases fs[i] <;> rfl)) ?_)
      rw [List.getElem?_eq_getElem h1, List.getElem?_eq_getElem h2]
      show _ = Out.ok (U.bl (decide ((es[i]).isSome ≠ (fs[i]).isSome))) _
      cases es[i] <;> cases fs[i] <;> rfl
    refine seq_n (asg_ok (i := 2) c) (ret_ok ?_)
    have nz : eOp fNe (eVar 2) (eScope (eLst aNil)) [some (.lst (esU es)), some (.lst (esU fs)), some (.lst ((difs es fs).map fun (i : Nat) => U.int (i : Nat))), none] S = Out.ok (.bl (!decide (difs es fs = []))) S := by
      refine op2 (S1 := S) (S2 := S) (a := .lst ((difs es fs).map fun (i : Nat) => U.int (i : Nat))) (b := .lst []) (v_at (i := 2) rfl) (sc_loc (j := 0) [.lst []] (Old.refl S) rfl rfl) ?_
      refine (fNe_ok ?_ rfl).trans ?_
      · show ((difs es fs).map fun (i : Nat) => U.int (i : Nat)).all (okU 11) = true
        rw [List.all_eq_true]
        intro u hu
        obtain ⟨i, _, rfl⟩ := List.mem_map.mp hu
        rfl
      · cases difs es fs with
        | nil => rfl
        | cons a t => rfl
    refine (eif_at (tB_of nz)).trans ?_
    by_cases k : mk es fs
    · rw [if_pos k, decide_eq_true ((difs_mk l).mpr k)]
      rfl
    · rw [if_neg k, decide_eq_false fun z => k ((difs_mk l).mp z)]
      rfl
  · rw [decide_eq_false l] at ne
    rw [if_neg l, if_neg fun z => l (mk_len z)]
    exact seq_r (if_t (S1 := S) (tB_of ne) (ret_ok rfl))
end
end G

namespace G
open PySem L2 NK
def wdU (es fs : Ent) : U := if mk es fs then .non else .str (mW es fs)
theorem wd_ok (es fs : Ent) : okU 12 (wdU es fs) = true := by
  unfold wdU mW
  split
  · rfl
  · split <;> exact okU_str (strOk_of _) 11
theorem wd_symm (es fs : Ent) : wdU fs es = wdU es fs := by
  unfold wdU
  by_cases h : mk es fs
  · rw [if_pos h, if_pos (mk_symm h)]
  · rw [if_neg h, if_neg fun z => h (mk_symm z)]
    unfold mW
    by_cases l : es.length = fs.length
    · rw [if_pos l, if_pos l.symm]
    · rw [if_neg l, if_neg fun z => l z.symm]
section
variable {S S1 : Sto} {env : NK.Env} {es fs : Ent} {m m1 m2 : ME}
theorem lamw_at {mf : MF} {v : U} (ok : mk es fs → m env S = Out.ok v S) (bad : ¬ mk es fs → m env S = Out.exc (bmX (mW es fs)) S) : eLamW 2 0 m env S = Out.ok (wdU es fs) S := by
  unfold wdU
  by_cases h : mk es fs
  · rw [if_pos h]
    exact lamw_ok (ok h)
  · rw [if_neg h]
    exact lamw_bad (bad h)
theorem unm_ok (c1 : Can es) (c2 : Can fs) (l1 : es.length ≤ 40) (l2 : fs.length ≤ 40) : m_u_law_unmatched_right [.lst (esU es), .lst (esU fs)] S = Out.ok (.bl true) S := by
  refine fs_same (n := 5) (mb := b_u_law_unmatched_right) (env := [some (.lst (esU es)), some (.lst (esU fs)), none, none, none]) rfl ?_ rfl
  have p0 : eScope (eMake 3 2 m_Pattern___init [] (aCons (eVar 0) aNil)) [some (.lst (esU es)), some (.lst (esU fs)), none, none, none] S = Out.ok (patI es) S := make_at (.l es) c1 l1 (v_at (i := 0) rfl)
  have p1 : eScope (eMake 3 2 m_Pattern___init [] (aCons (eVar 1) aNil)) [some (.lst (esU es)), some (.lst (esU fs)), none, none, none] S = Out.ok (patI fs) S := make_at (.l fs) c2 l2 (v_at (i := 1) rfl)
  have tp : eTup (aCons (eScope (eMake 3 2 m_Pattern___init [] (aCons (eVar 0) aNil))) (aCons (eScope (eMake 3 2 m_Pattern___init [] (aCons (eVar 1) aNil))) aNil)) [some (.lst (esU es)), some (.lst (esU fs)), none, none, none] S = Out.ok (.tup [patI es, patI fs]) S := by
    unfold eTup
    rw [acN p0 (ac1 p1), ob]
    rfl
  have A : NK.sAsg (eTup (aCons (eScope (eMake 3 2 m_Pattern___init [] (aCons (eVar 0) aNil))) (aCons (eScope (eMake 3 2 m_Pattern___init [] (aCons (eVar 1) aNil))) aNil))) (gT [2, 3]) [some (.lst (esU es)), some (.lst (esU fs)), none, none, none] S = SO.next [some (.lst (esU es)), some (.lst (esU fs)), some (patI es), some (patI fs), none] S := by
    unfold NK.sAsg
    rw [tp]
    rfl
  have no : ∀ {m : ME}, m [some (.lst (esU es)), some (.lst (esU fs)), some (patI es), some (patI fs), some (wdU es fs)] S = Out.ok (wdU es fs) S → eOp fNe m (eVar 4) [some (.lst (esU es)), some (.lst (esU fs)), some (patI es), some (patI fs), some (wdU es fs)] S = Out.ok (.bl false) S := fun h => op2 (S1 := S) (S2 := S) h (v_at (i := 4) rfl) (ne_same (wd_ok es fs))
  unfold b_u_law_unmatched_right
  refine seq_n A (seq_n (asg_ok (i := 4) (S1 := S) (u := wdU es fs) (call2 rfl (v_at (i := 0) rfl) (v_at (i := 1) rfl) (word_ok (by omega)))) ?_)
  refine seq_n (if_no (S1 := S) (no (lamw_at (mf := m_is_finer) (v := .bl (finGo [] es fs)) (fun h => call2 rfl (v_at (i := 2) rfl) (v_at (i := 3) rfl) (finer_ok h l1)) (fun h => call2 rfl (v_at (i := 2) rfl) (v_at (i := 3) rfl) (finer_bad h)))) rfl) ?_
  refine seq_n (if_no (S1 := S) (no (lamw_at (mf := m_is_finer) (v := patI (orE es fs)) (fun h => binO_at (v_at (i := 2) rfl) (v_at (i := 3) rfl) rfl (or_ok h l1)) (fun h => binO_at (v_at (i := 2) rfl) (v_at (i := 3) rfl) rfl (or_bad h)))) rfl) ?_
  refine seq_n (if_no (S1 := S) (no (lamw_at (mf := m_is_finer) (v := patI (anE es fs)) (fun h => binO_at (v_at (i := 2) rfl) (v_at (i := 3) rfl) rfl (and_ok h l1)) (fun h => binO_at (v_at (i := 2) rfl) (v_at (i := 3) rfl) rfl (and_bad h)))) rfl) (ret_ok ?_)
  have z : eLamW 2 0 (eCall 2 m_is_finer [] (aCons (eVar 3) (aCons (eVar 2) aNil))) [some (.lst (esU es)), some (.lst (esU fs)), some (patI es), some (patI fs), some (wdU es fs)] S = Out.ok (wdU fs es) S := lamw_at (mf := m_is_finer) (v := .bl (finGo [] fs es)) (fun h => call2 rfl (v_at (i := 3) rfl) (v_at (i := 2) rfl) (finer_ok h l2)) (fun h => call2 rfl (v_at (i := 3) rfl) (v_at (i := 2) rfl) (finer_bad h))
  rw [wd_symm es fs] at z
  refine op2 (S1 := S) (S2 := S) z (v_at (i := 4) rfl) ?_
  rw [fEq_ok (wd_ok es fs) (wd_ok es fs), eqvU_same (wd_ok es fs)]
end
end G

namespace G
open PySem L2 NK
section
variable {S S1 : Sto} {env : NK.Env}
theorem is_ok (a b : Bool) : m_u_law_is [.bl a, .bl b] S = Out.ok (.bl (a == b)) S := by
  refine fs_same (n := 2) (mb := b_u_law_is) (env := [some (.bl a), some (.bl b)]) rfl ?_ rfl
  have i := isi_at (S := S) (env := [some (.bl a), some (.bl b)]) (i := 0) (u := .bl a) (t := .b .bool) (cs := [.b .bool]) (b := true) rfl rfl rfl
  unfold b_u_law_is
  refine ret_ok (and_yes i (op2 (S1 := S) (S2 := S) (v_at (i := 0) rfl) (v_at (i := 1) rfl) ?_))
  rw [fEq_ok rfl rfl]
  cases a <;> cases b <;> rfl
end
end G

namespace G
open PySem L2 NK
def okB (es fs : Ent) (i j : Nat) : Bool := !((es[i]?.join).isSome && (decide (es[i]?.join = es[j]?.join) && !decide (fs[i]?.join = fs[j]?.join)))
section
variable {S S1 : Sto} {env : NK.Env} {es fs : Ent}
theorem eq_eU {o p : Option Nat} {m1 m2 : ME} (h1 : m1 env S = Out.ok (eU o) S) (h2 : m2 env S = Out.ok (eU p) S) : eOp fEq m1 m2 env S = Out.ok (.bl (decide (o = p))) S := op2 (S1 := S) (S2 := S) h1 h2 (by rw [fEq_ok (by cases o <;> rfl) (by cases p <;> rfl), eU_eqv])
theorem ne_eU {o p : Option Nat} {m1 m2 : ME} (h1 : m1 env S = Out.ok (eU o) S) (h2 : m2 env S = Out.ok (eU p) S) : eOp fNe m1 m2 env S = Out.ok (.bl (!decide (o = p))) S := op2 (S1 := S) (S2 := S) h1 h2 (by rw [fNe_ok (by cases o <;> rfl) (by cases p <;> rfl), eU_eqv])
theorem lf_step {i j : Nat} (hi : i < es.length) (hj : j < i) (l : es.length = fs.length) : l_u_law_finer_1 [some (.lst (esU es)), some (.lst (esU fs)), some (.int (i : Nat)), some (eU (es[i]?.join)), some (.int (j : Nat))] S = if okB es fs i j = true then SO.next [some (.lst (esU es)), some (.lst (esU fs)), some (.int (i : Nat)), some (eU (es[i]?.join)), some (.int (j : Nat))] S else SO.ret (.bl false) S := by
  have at_ : ∀ {gs : Ent} {k : Nat}, k < gs.length → (esU gs)[k]? = some (eU (gs[k]?.join)) := fun {gs k} h => by
    rw [esU_at (List.getElem?_eq_getElem h), List.getElem?_eq_getElem h]
    rfl
  have n3 : NK.tB (eOp fNotN (eVar 3) (eC .non)) [some (.lst (esU es)), some (.lst (esU fs)), some (.int (i : Nat)), some (eU (es[i]?.join)), some (.int (j : Nat))] S = Out.ok (es[i]?.join).isSome S := tB_of (op2 (S1 := S) (S2 := S) (v_at (i := 3) rfl) rfl (by cases es[i]?.join <;> rfl))
  have q := eq_eU (m1 := eVar 3) (m2 := eOp fIx (eVar 0) (eVar 4)) (env := [some (.lst (esU es)), some (.lst (esU fs)), some (.int (i : Nat)), some (eU (es[i]?.join)), some (.int (j : Nat))]) (S := S) (v_at (i := 3) rfl) (ix_lstE (i := j) (v_at (i := 0) rfl) (v_at (i := 4) rfl) (at_ (by omega)))
  have r := ne_eU (m1 := eOp fIx (eVar 1) (eVar 2)) (m2 := eOp fIx (eVar 1) (eVar 4)) (env := [some (.lst (esU es)), some (.lst (esU fs)), some (.int (i : Nat)), some (eU (es[i]?.join)), some (.int (j : Nat))]) (S := S) (ix_lstE (i := i) (v_at (i := 1) rfl) (v_at (i := 2) rfl) (at_ (by omega))) (ix_lstE (i := j) (v_at (i := 1) rfl) (v_at (i := 4) rfl) (at_ (by omega)))
  have t := tand_at n3 (tand_at (tB_of q) (tB_of r))
  unfold l_u_law_finer_1 okB
  generalize ((es[i]?.join).isSome && (decide (es[i]?.join = es[j]?.join) && !decide (fs[i]?.join = fs[j]?.join))) = b at t ⊢
  cases b with
  | true => exact if_t (S1 := S) t rfl
  | false => exact if_f (S1 := S) t rfl
theorem lf_in {i : Nat} {e3 : Option U} (hi : i < es.length) (l : es.length = fs.length) (q3 : e3 = some (eU (es[i]?.join))) : ∀ (L : List Nat) (e4 : Option U), (∀ j ∈ L, j < i) →
    (∃ e4', NK.forM (fun _ => True) (gN 4) l_u_law_finer_1 (L.map fun (j : Nat) => U.int (j : Nat)) [some (.lst (esU es)), some (.lst (esU fs)), some (.int (i : Nat)), e3, e4] S = SO.next [some (.lst (esU es)), some (.lst (esU fs)), some (.int (i : Nat)), e3, e4'] S ∧ ∀ j ∈ L, okB es fs i j = true) ∨
    (NK.forM (fun _ => True) (gN 4) l_u_law_finer_1 (L.map fun (j : Nat) => U.int (j : Nat)) [some (.lst (esU es)), some (.lst (esU fs)), some (.int (i : Nat)), e3, e4] S = SO.ret (.bl false) S ∧ ∃ j ∈ L, okB es fs i j = false)
  | [], e4, _ => .inl ⟨e4, forM_nil True.intro, fun _ h => nomatch h⟩
  | j :: L, e4, hL => by
    have st := lf_step (S := S) hi (hL j List.mem_cons_self) l
    rw [← q3] at st
    cases k : okB es fs i j with
    | false =>
      rw [k, if_neg Bool.false_ne_true] at st
      exact .inr ⟨forM_r (env1 := [some (.lst (esU es)), some (.lst (esU fs)), some (.int (i : Nat)), e3, some (.int (j : Nat))]) True.intro rfl st, j, List.mem_cons_self, k⟩
    | true =>
      rw [k, if_pos rfl] at st
      have n := forM_n (env1 := [some (.lst (esU es)), some (.lst (esU fs)), some (.int (i : Nat)), e3, some (.int (j : Nat))]) (g := fun _ => True) (gt := gN 4) (b := l_u_law_finer_1) (us := L.map fun (j : Nat) => U.int (j : Nat)) (u := .int (j : Nat)) (env := [some (.lst (esU es)), some (.lst (esU fs)), some (.int (i : Nat)), e3, e4]) True.intro rfl st
      rcases lf_in hi l q3 L (some (.int (j : Nat))) (fun x h => hL x (List.mem_cons_of_mem _ h)) with ⟨e4', f, a⟩ | ⟨f, x, hx, a⟩
      · exact .inl ⟨e4', n.trans f, fun x h => (List.mem_cons.mp h).elim (fun z => by rw [z]; exact k) (a x)⟩
      · exact .inr ⟨n.trans f, x, List.mem_cons_of_mem _ hx, a⟩
theorem lf_row {i : Nat} {e3 : Option U} (hi : i < es.length) (hl : es.length ≤ 900) (l : es.length = fs.length) (q3 : e3 = some (eU (es[i]?.join))) (e4 : Option U) :
    (∃ e4', l_u_law_finer_2 [some (.lst (esU es)), some (.lst (esU fs)), some (.int (i : Nat)), e3, e4] S = SO.next [some (.lst (esU es)), some (.lst (esU fs)), some (.int (i : Nat)), e3, e4'] S ∧ ∀ j, j < i → okB es fs i j = true) ∨
    (l_u_law_finer_2 [some (.lst (esU es)), some (.lst (esU fs)), some (.int (i : Nat)), e3, e4] S = SO.ret (.bl false) S ∧ ∃ j, j < i ∧ okB es fs i j = false) := by
  have r := rng_at (S := S) (m := eVar 2) (env := [some (.lst (esU es)), some (.lst (esU fs)), some (.int (i : Nat)), e3, e4]) (n := i) (v_at (i := 2) rfl) (by omega)
  unfold l_u_law_finer_2
  rcases lf_in (S := S) hi l q3 (List.range i) e4 (fun j h => List.mem_range.mp h) with ⟨e4', f, a⟩ | ⟨f, x, hx, a⟩
  · exact .inl ⟨e4', sFor_ok r f, fun j h => a j (List.mem_range.mpr h)⟩
  · exact .inr ⟨sFor_ok r f, x, List.mem_range.mp hx, a⟩
theorem lf_out (hl : es.length ≤ 900) (l : es.length = fs.length) : ∀ (M : Ent) (k : Nat) (e2 e3 e4 : Option U), es.drop k = M →
    (∃ e2' e3' e4', NK.forM (fun _ => True) (gT [2, 3]) l_u_law_finer_2 (enumFrom k (esU M)) [some (.lst (esU es)), some (.lst (esU fs)), e2, e3, e4] S = SO.next [some (.lst (esU es)), some (.lst (esU fs)), e2', e3', e4'] S ∧ ∀ i, k ≤ i → i < es.length → ∀ j, j < i → okB es fs i j = true) ∨
    (NK.forM (fun _ => True) (gT [2, 3]) l_u_law_finer_2 (enumFrom k (esU M)) [some (.lst (esU es)), some (.lst (esU fs)), e2, e3, e4] S = SO.ret (.bl false) S ∧ ∃ i j, i < es.length ∧ j < i ∧ okB es fs i j = false)
  | [], k, e2, e3, e4, h => .inl ⟨e2, e3, e4, forM_nil True.intro, fun i h1 h2 => by
    have := List.drop_eq_nil_iff.mp h
    omega⟩
  | o :: M, k, e2, e3, e4, h => by
    have hk : k < es.length := by
      refine Nat.lt_of_not_le fun z => ?_
      rw [List.drop_eq_nil_iff.mpr z] at h
      cases h
    have hc := List.drop_eq_getElem_cons hk
    rw [hc] at h
    obtain ⟨h1, h2⟩ := List.cons.inj h
    have eo : es[k]?.join = o := by rw [List.getElem?_eq_getElem hk, h1]; rfl
    rcases lf_row (S := S) hk hl l (e3 := some (eU o)) (by rw [eo]) e4 with ⟨e4', f, a⟩ | ⟨f, x, hx, a⟩
    · have n := forM_n (env1 := [some (.lst (esU es)), some (.lst (esU fs)), some (.int (k : Nat)), some (eU o), e4]) (g := fun _ => True) (gt := gT [2, 3]) (b := l_u_law_finer_2) (us := enumFrom (k + 1) (esU M)) (u := .tup [.int (k : Nat), eU o]) (env := [some (.lst (esU es)), some (.lst (esU fs)), e2, e3, e4]) True.intro rfl f
      rcases lf_out hl l M (k + 1) (some (.int (k : Nat))) (some (eU o)) e4' h2 with ⟨e2', e3', e4'', f', a'⟩ | ⟨f', b⟩
      · refine .inl ⟨e2', e3', e4'', n.trans f', fun i g1 g2 => ?_⟩
        by_cases z : i = k
        · rw [z]; exact a
        · exact a' i (by omega) g2
      · exact .inr ⟨n.trans f', b⟩
    · exact .inr ⟨forM_r (env1 := [some (.lst (esU es)), some (.lst (esU fs)), some (.int (k : Nat)), some (eU o), e4]) True.intro rfl f, k, x, hk, hx, a⟩
theorem okB_bad {i j : Nat} (hi : i < es.length) (hj : j < es.length) (m : mk es fs) : okB es fs i j = false ↔ al es i j ∧ ¬ al fs i j := by
  have l := mk_len m
  have ei := List.getElem?_eq_getElem hi
  have ej := List.getElem?_eq_getElem hj
  have fi := List.getElem?_eq_getElem (show i < fs.length by omega)
  have fj := List.getElem?_eq_getElem (show j < fs.length by omega)
  unfold okB al
  rw [ei, ej, fi, fj]
  have mi : (es[i]).isSome = (fs[i]'(by omega)).isSome := by
    have q := congrArg (fun l : List Bool => l[i]?) m
    simp only [List.getElem?_map] at q
    rw [ei, fi] at q
    simpa using q
  have mj : (es[j]).isSome = (fs[j]'(by omega)).isSome := by
    have q := congrArg (fun l : List Bool => l[j]?) m
    simp only [List.getElem?_map] at q
    rw [ej, fj] at q
    simpa using q
  revert mi mj
  generalize es[i] = a
  generalize es[j] = b
  generalize fs[i]'(by omega) = c
  generalize fs[j]'(by omega) = d
  intro mi mj
  cases a with
  | none => simp
  | some a =>
    cases c with
    | none => cases mi
    | some c =>
      cases b with
      | none => simp
      | some b =>
        cases d with
        | none => cases mj
        | some d =>
          have A : ∀ a b : Nat, (∃ x, some (some a) = some (some x) ∧ some (some b) = some (some x)) ↔ a = b := fun a b => ⟨fun ⟨x, p, q⟩ => by cases p; cases q; rfl, fun e => ⟨a, rfl, by rw [e]⟩⟩
          rw [A, A]
          show (!(true && (decide (some a = some b) && !decide (some c = some d)))) = false ↔ _
          by_cases p : a = b <;> by_cases q : c = d <;> simp [p, q]
theorem lawfin_ok (m : mk es fs) (hl : es.length ≤ 900) : m_u_law_finer [.lst (esU es), .lst (esU fs)] S = Out.ok (.bl (finGo [] es fs)) S := by
  have l := mk_len m
  refine fs_same (n := 5) (mb := b_u_law_finer) (env := [some (.lst (esU es)), some (.lst (esU fs)), none, none, none]) rfl ?_ rfl
  have it : NK.iEnumA (aCons (eVar 0) aNil) [some (.lst (esU es)), some (.lst (esU fs)), none, none, none] S = Out.ok ⟨enumFrom 0 (esU es), fun _ => True⟩ S := rfl
  unfold b_u_law_finer
  rcases lf_out (S := S) hl l es 0 none none none rfl with ⟨e2, e3, e4, f, a⟩ | ⟨f, i, j, hi, hj, a⟩
  · have t : finGo [] es fs = true := (finGo_ok m).mpr fun i j h => by
      have ⟨x, e1, e2⟩ := h
      have hi : i < es.length := (List.getElem?_eq_some_iff.mp e1).1
      have hj : j < es.length := (List.getElem?_eq_some_iff.mp e2).1
      rcases Nat.lt_trichotomy j i with z | z | z
      · refine Classical.byContradiction fun g => ?_
        have := (okB_bad hi hj m).mpr ⟨h, g⟩
        rw [a i (Nat.zero_le _) hi j z] at this
        cases this
      · obtain ⟨b, e⟩ := mk_at m e1
        exact ⟨b, e, by rw [z]; exact e⟩
      · refine Classical.byContradiction fun g => ?_
        have := (okB_bad hj hi m).mpr ⟨al_symm h, fun q => g (al_symm q)⟩
        rw [a j (Nat.zero_le _) hj i z] at this
        cases this
    rw [t]
    exact seq_n (sFor_ok it f) (ret_ok rfl)
  · have t : finGo [] es fs = false := by
      cases k : finGo [] es fs with
      | false => rfl
      | true =>
        have q := (okB_bad hi (by omega) m).mp a
        exact absurd ((finGo_ok m).mp k i j q.1) q.2
    rw [t]
    exact seq_r (sFor_ok it f)
end
end G

namespace G
open PySem L2 NK
theorem toD_loc {X : Sto} {j : Nat} {us : List U} (hX : X[j]? = some (.lst us)) (hu : okU 12 (.lst us) = true) : toD X 12 (.loc j) = some (.list (datL us)) := by
  have h := (okU_D (st := X) 12 (.lst us) hu).1
  show (match X[j]? with
    | some (.lst us) => (allD (toD X 11) us).map PyData.list
    | _ => none) = _
  rw [hX]
  exact h
structure Enc (α : Type) [DecidableEq α] where
  e : α → U
  ok : ∀ a, okU 11 (e a) = true
  eq : ∀ a b, eqvU (e a) (e b) = decide (a = b)
  nn : ∀ a X, fIsN (e a) .non X = Out.ok (.bl false) X
  yn : ∀ a X, fNotN (e a) .non X = Out.ok (.bl true) X
section
variable {α : Type} [DecidableEq α] (C : Enc α)
def Enc.o : Option α → U
  | none => .non
  | some a => C.e a
theorem Enc.all (met : List α) : okU 12 (.lst (met.map C.e)) = true := by
  show (met.map C.e).all (okU 11) = true
  rw [List.all_eq_true]
  intro u hu
  obtain ⟨a, _, rfl⟩ := List.mem_map.mp hu
  exact C.ok a
theorem Enc.ok12 (a : α) : okU 12 (C.e a) = true := okU_up 11 _ (C.ok a)
theorem Enc.any (a : α) : ∀ met : List α, ((datL (met.map C.e)).any fun z => PyData.eqv z (datU (C.e a))) = decide (a ∈ met)
  | [] => rfl
  | b :: met => by
    show (eqvU (C.e b) (C.e a) || (datL (met.map C.e)).any fun z => PyData.eqv z (datU (C.e a))) = _
    rw [C.eq, Enc.any a met]
    by_cases h : b = a
    · subst h; simp
    · rw [decide_eq_false h, Bool.false_or]
      refine decide_eq_decide.mpr ⟨fun q => List.mem_cons_of_mem _ q, fun q => ?_⟩
      rcases List.mem_cons.mp q with q | q
      · exact absurd q.symm h
      · exact q
theorem Enc.first (a : α) : ∀ (met : List α) (k : Nat), a ∈ met → firstD (datU (C.e a)) (datL (met.map C.e)) k = some (k + met.idxOf a)
  | [], _, h => nomatch h
  | b :: met, k, h => by
    show (if eqvU (C.e b) (C.e a) = true then some k else firstD (datU (C.e a)) (datL (met.map C.e)) (k + 1)) = _
    rw [C.eq, List.idxOf_cons]
    by_cases q : b = a
    · subst q; simp
    · rw [decide_eq_false q, if_neg Bool.false_ne_true, beq_false_of_ne q, Enc.first a met (k + 1) (by
        rcases List.mem_cons.mp h with z | z
        · exact absurd z.symm q
        · exact z)]
      show some (k + 1 + List.idxOf a met) = some (k + (List.idxOf a met + 1))
      congr 1
      omega
variable {S : Sto}
def LN (S : Sto) (met : List α) (found : Ent) : Sto := S ++ [.lst (met.map C.e), .lst (esU found)]
variable {met : List α} {found : Ent} {a : α}
theorem ln_a : (LN C S met found)[S.length]? = some (.lst (met.map C.e)) := by unfold LN; simp
theorem ln_b : (LN C S met found)[S.length + 1]? = some (.lst (esU found)) := by unfold LN; simp
theorem ln_sa : (LN C S met found).set S.length (.lst (met.map C.e ++ [C.e a])) = LN C S (met ++ [a]) found := by unfold LN; simp
theorem ln_sb {o : Option Nat} : (LN C S met found).set (S.length + 1) (.lst (esU found ++ [eU o])) = LN C S met (found ++ [o]) := by
  unfold LN esU
  simp
theorem ln_in : fInD true (C.e a) (.loc S.length) (LN C S met found) = Out.ok (.bl (!decide (a ∈ met))) (LN C S met found) := by
  unfold fInD
  rw [(okU_D 12 _ (C.ok12 a)).1, toD_loc (ln_a C) (C.all met)]
  show (if SeqAt.shaped (datU (C.e a)) = true ∧ SeqAt.shaped (.list (datL (met.map C.e))) = true then Out.ok (U.bl (((datL (met.map C.e)).any fun z => PyData.eqv z (datU (C.e a))) != true)) (LN C S met found) else Out.bad) = _
  rw [if_pos ⟨okU_shaped (C.ok12 a), okU_shaped (u := .lst (met.map C.e)) (C.all met)⟩, C.any]
  cases decide (a ∈ met) <;> rfl
theorem ln_ix (h : a ∈ met) : fIndex (.loc S.length) [C.e a] (LN C S met found) = Out.ok (.int (met.idxOf a : Nat)) (LN C S met found) := by
  unfold fIndex
  dsimp only
  rw [(okU_D 12 _ (C.ok12 a)).1, toD_loc (ln_a C) (C.all met)]
  dsimp only
  rw [if_pos ⟨okU_shaped (C.ok12 a), okU_shaped (u := .lst (met.map C.e)) (C.all met)⟩, C.first a met 0 h, Nat.zero_add]
theorem ln_step {e0 : Option U} {o : Option α} (hm : met.length < 1000) (hf : found.length < 1000) : l_u_law_numbers_1 [e0, some (.loc S.length), some (.loc (S.length + 1)), some (C.o o)] (LN C S met found) = SO.next [e0, some (.loc S.length), some (.loc (S.length + 1)), some (C.o o)] (LN C S (stepP met o) (found ++ [o.map (stepP met o).idxOf])) := by
  have fl : (esU found).length < 1000 := by rw [esU_len]; exact hf
  unfold l_u_law_numbers_1
  cases o with
  | none =>
    have t : NK.tB (eOp fNotN (eVar 3) (eC .non)) [e0, some (.loc S.length), some (.loc (S.length + 1)), some .non] (LN C S met found) = Out.ok false (LN C S met found) := tB_of (op2 (a := .non) (b := .non) (S2 := LN C S met found) (v_at (i := 3) rfl) rfl rfl)
    refine seq_n (if_f (tand_f t) rfl) ?_
    have d := app_drop (S := LN C S met found) (S1 := LN C S met found) (i := 2) (j := S.length + 1) (us := esU found) (w := .non) (env := [e0, some (.loc S.length), some (.loc (S.length + 1)), some .non]) (m := eIf (NK.tB (eOp fIsN (eVar 3) (eC .non))) (eC .non) (eBM fIndex (eVar 1) (aCons (eVar 3) aNil))) rfl (isl_at (ln_b C)) ?_ (ln_b C) fl
    · rw [show U.non = eU none from rfl, ln_sb C] at d
      exact d
    · exact (eif_at (tB_of (op2 (a := .non) (b := .non) (S2 := LN C S met found) (v_at (i := 3) rfl) rfl (r := Out.ok (.bl true) (LN C S met found)) rfl))).trans rfl
  | some a =>
    have t1 : ∀ {met : List α}, NK.tB (eOp fNotN (eVar 3) (eC .non)) [e0, some (.loc S.length), some (.loc (S.length + 1)), some (C.e a)] (LN C S met found) = Out.ok true (LN C S met found) := fun {met} => tB_of (op2 (a := C.e a) (b := .non) (S2 := LN C S met found) (v_at (i := 3) rfl) rfl (C.yn a _))
    have t2 : NK.tB (eOp (fInD true) (eVar 3) (eVar 1)) [e0, some (.loc S.length), some (.loc (S.length + 1)), some (C.e a)] (LN C S met found) = Out.ok (!decide (a ∈ met)) (LN C S met found) := tB_of (op2 (a := C.e a) (b := .loc S.length) (S2 := LN C S met found) (v_at (i := 3) rfl) (v_at (i := 1) rfl) (ln_in C))
    have t := tand_t t1 t2
    have put : ∀ {met : List α}, a ∈ met → sDrop (eBM fApp (eVar 2) (aCons (eIf (NK.tB (eOp fIsN (eVar 3) (eC .non))) (eC .non) (eBM fIndex (eVar 1) (aCons (eVar 3) aNil))) aNil)) [e0, some (.loc S.length), some (.loc (S.length + 1)), some (C.e a)] (LN C S met found) = SO.next [e0, some (.loc S.length), some (.loc (S.length + 1)), some (C.e a)] (LN C S met (found ++ [some (met.idxOf a)])) := fun {met} z => by
      have n : eOp fIsN (eVar 3) (eC .non) [e0, some (.loc S.length), some (.loc (S.length + 1)), some (C.e a)] (LN C S met found) = Out.ok (.bl false) (LN C S met found) := op2 (a := C.e a) (b := .non) (S2 := LN C S met found) (v_at (i := 3) rfl) rfl (C.nn a _)
      have v1 : eVar 1 [e0, some (.loc S.length), some (.loc (S.length + 1)), some (C.e a)] (LN C S met found) = Out.ok (.loc S.length) (LN C S met found) := v_at (i := 1) rfl
      have v3 : aCons (eVar 3) aNil [e0, some (.loc S.length), some (.loc (S.length + 1)), some (C.e a)] (LN C S met found) = Out.ok [C.e a] (LN C S met found) := ac1 (v_at (i := 3) rfl)
      have d := app_drop (S := LN C S met found) (S1 := LN C S met found) (i := 2) (j := S.length + 1) (us := esU found) (w := .int (met.idxOf a : Nat)) (env := [e0, some (.loc S.length), some (.loc (S.length + 1)), some (C.e a)]) (m := eIf (NK.tB (eOp fIsN (eVar 3) (eC .non))) (eC .non) (eBM fIndex (eVar 1) (aCons (eVar 3) aNil))) rfl (isl_at (ln_b C)) ?_ (ln_b C) fl
      · rw [show U.int (met.idxOf a : Nat) = eU (some (met.idxOf a)) from rfl, ln_sb C] at d
        exact d
      · refine (eif_at (tB_of n)).trans ?_
        rw [if_neg Bool.false_ne_true]
        unfold eBM
        rw [v1, ob, if_pos (isl_at (ln_a C)), v3, ob]
        exact ln_ix C z
    by_cases z : a ∈ met
    · rw [decide_eq_true z] at t
      rw [show stepP met (some a) = met from if_pos z]
      exact seq_n (if_f t rfl) (put z)
    · rw [decide_eq_false z] at t
      rw [show stepP met (some a) = met ++ [a] from if_neg z]
      have d := app_drop (S := LN C S met found) (S1 := LN C S met found) (i := 1) (j := S.length) (us := met.map C.e) (w := C.e a) (env := [e0, some (.loc S.length), some (.loc (S.length + 1)), some (C.e a)]) (m := eVar 3) rfl (isl_at (ln_a C)) (v_at (i := 3) rfl) (ln_a C) (by rw [List.length_map]; exact hm)
      rw [ln_sa C] at d
      exact seq_n (if_t t d) (put (List.mem_append_right _ (List.mem_singleton.mpr rfl)))
theorem ln_loop {e0 : Option U} : ∀ (M : List (Option α)) (met : List α) (found : Ent) (e3 : Option U), found.length + M.length ≤ 900 → met.length + M.length ≤ 900 →
    ∃ e3', NK.forM (fun _ => True) (gN 3) l_u_law_numbers_1 (M.map C.o) [e0, some (.loc S.length), some (.loc (S.length + 1)), e3] (LN C S met found) = SO.next [e0, some (.loc S.length), some (.loc (S.length + 1)), e3'] (LN C S (finM met M) (found ++ numGo met M))
  | [], met, found, e3, _, _ => ⟨e3, by
    rw [show numGo met ([] : List (Option α)) = [] from rfl, List.append_nil]
    exact forM_nil True.intro⟩
  | o :: M, met, found, e3, h1, h2 => by
    rw [List.length_cons] at h1 h2
    have l1 : (stepP met o).length ≤ met.length + 1 := by
      cases o with
      | none => exact Nat.le_succ _
      | some k =>
        show (if k ∈ met then met else met ++ [k]).length ≤ _
        split
        · exact Nat.le_succ _
        · rw [List.length_append]; exact Nat.le_refl _
    obtain ⟨e3', ih⟩ := ln_loop (e0 := e0) M (stepP met o) (found ++ [o.map (stepP met o).idxOf]) (some (C.o o)) (by rw [List.length_append, List.length_singleton]; omega) (by omega)
    refine ⟨e3', (forM_n (env1 := [e0, some (.loc S.length), some (.loc (S.length + 1)), some (C.o o)]) True.intro rfl (ln_step C (by omega) (by omega))).trans (ih.trans ?_)⟩
    have f1 : finM met (o :: M) = finM (stepP met o) M := by
      cases o with
      | none => rfl
      | some k =>
        show (if k ∈ met then finM met M else finM (met ++ [k]) M) = finM (if k ∈ met then met else met ++ [k]) M
        split <;> rfl
    have f2 : numGo met (o :: M) = o.map (stepP met o).idxOf :: numGo (stepP met o) M := by
      cases o with
      | none => rfl
      | some k =>
        show (if k ∈ met then some (met.idxOf k) :: numGo met M else some met.length :: numGo (met ++ [k]) M) = some ((if k ∈ met then met else met ++ [k]).idxOf k) :: numGo (if k ∈ met then met else met ++ [k]) M
        by_cases z : k ∈ met
        · rw [if_pos z, if_pos z]
        · rw [if_neg z, if_neg z]
          congr 2
          rw [List.idxOf_append, if_neg z]
          simp
    rw [f1, f2, List.append_assoc]
    rfl
theorem lnum_ok (M : List (Option α)) (hl : M.length ≤ 900) : m_u_law_numbers [.lst (M.map C.o)] S = Out.ok (.lst (esU (num M))) S := by
  obtain ⟨e3, f⟩ := ln_loop C (S := S) (e0 := some (.lst (M.map C.o))) M [] [] none (by simpa using hl) (by simpa using hl)
  refine fs_lst1 (n := 4) (mb := b_u_law_numbers) (env := [some (.lst (M.map C.o)), none, none, none]) (j := 1) (S2 := S) (ext := [.lst ((finM [] M).map C.e), .lst (esU (num M))]) rfl ?_ (Old.refl S) rfl (esU_und _)
  unfold b_u_law_numbers
  have p : aCons (eLst aNil) (aCons (eLst aNil) aNil) [some (.lst (M.map C.o)), none, none, none] S = Out.ok [.loc S.length, .loc (S.length + 1)] (LN C S [] []) := by
    have l2 : eLst aNil [some (.lst (M.map C.o)), none, none, none] (S ++ [.lst []]) = Out.ok (.loc (S.length + 1)) (LN C S [] []) := by
      show Out.ok (U.loc (S ++ [Ob.lst []]).length) (S ++ [Ob.lst []] ++ [Ob.lst []]) = _
      rw [List.length_append, List.append_assoc]
      rfl
    exact acN (S1 := S ++ [.lst []]) (u := .loc S.length) rfl (ac1 l2)
  refine seq_n (par_ok p) (seq_n (sFor_ok (us := M.map C.o) (g := fun _ => True) (S1 := LN C S [] []) rfl f) (ret_ok (v_at (i := 2) rfl)))
end
def encN : Enc Nat where
  e k := .int (k : Nat)
  ok _ := rfl
  eq a b := (eU_eqv (some a) (some b)).trans (decide_eq_decide.mpr ⟨fun z => Option.some.inj z, fun z => by rw [z]⟩)
  nn _ _ := rfl
  yn _ _ := rfl
def encP : Enc (Nat × Nat) where
  e p := .tup [.int (p.1 : Nat), .int (p.2 : Nat)]
  ok _ := rfl
  eq a b := by
    show (PyData.eqv (.int (a.1 : Nat)) (.int (b.1 : Nat)) && (PyData.eqv (.int (a.2 : Nat)) (.int (b.2 : Nat)) && true)) = _
    rw [show PyData.eqv (.int (a.1 : Nat)) (.int (b.1 : Nat)) = decide (a.1 = b.1) from encN.eq a.1 b.1, show PyData.eqv (.int (a.2 : Nat)) (.int (b.2 : Nat)) = decide (a.2 = b.2) from encN.eq a.2 b.2, Bool.and_true, ← Bool.decide_and]
    exact decide_eq_decide.mpr ⟨fun z => Prod.ext z.1 z.2, fun z => by rw [z]; exact ⟨rfl, rfl⟩⟩
  nn _ _ := rfl
  yn _ _ := rfl
theorem encN_o : (encN.o : Option Nat → U) = eU := by
  funext o
  cases o <;> rfl
theorem lnumN (M : Ent) (S : Sto) (hl : M.length ≤ 900) : m_u_law_numbers [.lst (esU M)] S = Out.ok (.lst (esU (num M))) S := by
  have h := lnum_ok encN (S := S) M hl
  rw [encN_o] at h
  exact h
end G

namespace G
open PySem L2 NK
section
variable {S S1 : Sto} {env : NK.Env} {m m1 m2 : ME} {es fs : Ent}
theorem eor_at {a b : ME} {b1 b2 : Bool} (h1 : a env S = Out.ok (.bl b1) S) (h2 : b env S = Out.ok (.bl b2) S) : eOr a b env S = Out.ok (.bl (b1 || b2)) S := by
  unfold eOr
  rw [h1, ob]
  cases b1
  · exact h2
  · rfl
theorem at_o {gs : Ent} {k : Nat} (h : k < gs.length) : (esU gs)[k]? = some (eU (gs[k]?.join)) := by
  rw [esU_at (List.getElem?_eq_getElem h), List.getElem?_eq_getElem h]
  rfl
theorem lkL_o {p a : Nat} (hp : p < es.length) (ha : a < es.length) (l : es.length = fs.length) : lkL es fs p a = ((es[p]?.join).isSome && (decide (es[p]?.join = es[a]?.join) || decide (fs[p]?.join = fs[a]?.join))) := by
  have e1 := List.getElem?_eq_getElem hp
  have e2 := List.getElem?_eq_getElem ha
  have e3 := List.getElem?_eq_getElem (show p < fs.length by omega)
  have e4 := List.getElem?_eq_getElem (show a < fs.length by omega)
  have q : ∀ x y : Option Nat, (some x == some y) = decide (x = y) := fun x y => by
    rw [beq_dec]
    exact decide_eq_decide.mpr ⟨fun h => Option.some.inj h, fun h => by rw [h]⟩
  unfold lkL
  rw [e1, e2, e3, e4, q, q]
  cases es[p] <;> rfl
theorem lw_step {M : Ent} {p a : Nat} {e5 e6 e7 e8 : Option U} (hp : p < es.length) (ha : a < es.length) (l : es.length = fs.length) (hM : M.length = es.length) (hl : es.length ≤ 1000) :
    ∃ e5' e6' e7', l_u_law_above_1 [some (.lst (esU es)), some (.lst (esU fs)), some (.lst (esU M)), some (.int (p : Nat)), some (.int (a : Nat)), e5, e6, e7, e8] S = SO.next [some (.lst (esU es)), some (.lst (esU fs)), some (.lst (esU (stpL (lkL es fs) M (p, a)))), some (.int (p : Nat)), some (.int (a : Nat)), e5', e6', e7', e8] S := by
  have mp : M[p]? = some (M[p]'(by omega)) := List.getElem?_eq_getElem (by omega)
  have ma : M[a]? = some (M[a]'(by omega)) := List.getElem?_eq_getElem (by omega)
  generalize M[p]'(by omega) = x at mp
  generalize M[a]'(by omega) = y at ma
  have v0p : eOp fIx (eVar 0) (eVar 3) [some (.lst (esU es)), some (.lst (esU fs)), some (.lst (esU M)), some (.int (p : Nat)), some (.int (a : Nat)), e5, e6, e7, e8] S = Out.ok (eU (es[p]?.join)) S := ix_lstE (v_at rfl) (v_at rfl) (at_o hp)
  have v0a : eOp fIx (eVar 0) (eVar 4) [some (.lst (esU es)), some (.lst (esU fs)), some (.lst (esU M)), some (.int (p : Nat)), some (.int (a : Nat)), e5, e6, e7, e8] S = Out.ok (eU (es[a]?.join)) S := ix_lstE (v_at rfl) (v_at rfl) (at_o ha)
  have v1p : eOp fIx (eVar 1) (eVar 3) [some (.lst (esU es)), some (.lst (esU fs)), some (.lst (esU M)), some (.int (p : Nat)), some (.int (a : Nat)), e5, e6, e7, e8] S = Out.ok (eU (fs[p]?.join)) S := ix_lstE (v_at rfl) (v_at rfl) (at_o (by omega))
  have v1a : eOp fIx (eVar 1) (eVar 4) [some (.lst (esU es)), some (.lst (esU fs)), some (.lst (esU M)), some (.int (p : Nat)), some (.int (a : Nat)), e5, e6, e7, e8] S = Out.ok (eU (fs[a]?.join)) S := ix_lstE (v_at rfl) (v_at rfl) (at_o (by omega))
  have v2p : ∀ {e5 e6 e7 : Option U}, eOp fIx (eVar 2) (eVar 3) [some (.lst (esU es)), some (.lst (esU fs)), some (.lst (esU M)), some (.int (p : Nat)), some (.int (a : Nat)), e5, e6, e7, e8] S = Out.ok (eU x) S := fun {_ _ _} => ix_lstE (v_at rfl) (v_at rfl) (esU_at mp)
  have v2a : ∀ {e5 e6 e7 : Option U}, eOp fIx (eVar 2) (eVar 4) [some (.lst (esU es)), some (.lst (esU fs)), some (.lst (esU M)), some (.int (p : Nat)), some (.int (a : Nat)), e5, e6, e7, e8] S = Out.ok (eU y) S := fun {_ _ _} => ix_lstE (v_at rfl) (v_at rfl) (esU_at ma)
  have n1 : eOp fNotN (eOp fIx (eVar 0) (eVar 3)) (eC .non) [some (.lst (esU es)), some (.lst (esU fs)), some (.lst (esU M)), some (.int (p : Nat)), some (.int (a : Nat)), e5, e6, e7, e8] S = Out.ok (.bl (es[p]?.join).isSome) S := op2 (S1 := S) (S2 := S) (b := .non) v0p rfl (by cases es[p]?.join <;> rfl)
  have t5 := and_at n1 (eor_at (eq_eU v0p v0a) (eq_eU v1p v1a))
  rw [← lkL_o hp ha l] at t5
  have n2 : ∀ {e5 e6 e7 : Option U}, eOp fNe (eOp fIx (eVar 2) (eVar 3)) (eOp fIx (eVar 2) (eVar 4)) [some (.lst (esU es)), some (.lst (esU fs)), some (.lst (esU M)), some (.int (p : Nat)), some (.int (a : Nat)), e5, e6, e7, e8] S = Out.ok (.bl (!decide (x = y))) S := fun {_ _ _} => ne_eU v2p v2a
  unfold l_u_law_above_1 stpL
  cases hl2 : lkL es fs p a with
  | false =>
    rw [hl2] at t5
    rw [if_neg Bool.false_ne_true]
    exact ⟨some (.bl false), e6, e7, seq_n (asg_ok (i := 5) t5) (if_f (tand_f (truK (b := false) (v_at (i := 5) rfl))) rfl)⟩
  | true =>
    rw [hl2] at t5
    rw [if_pos rfl]
    have t := tand_at (env := [some (.lst (esU es)), some (.lst (esU fs)), some (.lst (esU M)), some (.int (p : Nat)), some (.int (a : Nat)), some (.bl true), e6, e7, e8]) (S := S) (truK (b := true) (v_at (i := 5) rfl)) (tB_of n2)
    rw [Bool.true_and] at t
    unfold mrg
    rw [mp, ma]
    dsimp only
    by_cases e : x = y
    · rw [decide_eq_true e] at t
      rw [if_pos e]
      exact ⟨some (.bl true), e6, e7, seq_n (asg_ok (i := 5) t5) (if_f t rfl)⟩
    · rw [decide_eq_false e] at t
      rw [if_neg e]
      refine ⟨some (.bl true), some (eU x), some (eU y), seq_n (asg_ok (i := 5) t5) (if_t t (seq_n (asgT2 (tup2 (S1 := S) v2p v2a)) (asg_ok (i := 2) ?_)))⟩
      have c := comp_all (st := S) (i := 8) (g := fun _ => True) (env := [some (.lst (esU es)), some (.lst (esU fs)), some (.lst (esU M)), some (.int (p : Nat)), some (.int (a : Nat)), some (.bl true), some (eU x), some (eU y), e8]) (mi := iSeq (eVar 2)) (me := eIf (NK.tB (eOp fEq (eVar 8) (eVar 6))) (eVar 7) (eVar 8)) (as := M) eU (fun m => eU (if m = x then y else m)) rfl (fun _ => True.intro) (by omega) (fun m _ acc => by
        have w : eOp fEq (eVar 8) (eVar 6) [some (.lst (esU es)), some (.lst (esU fs)), some (.lst (esU M)), some (.int (p : Nat)), some (.int (a : Nat)), some (.bl true), some (eU x), some (eU y), some (eU m)] (S ++ [.lst acc]) = Out.ok (.bl (decide (m = x))) (S ++ [.lst acc]) := op2 (S1 := S ++ [.lst acc]) (S2 := S ++ [.lst acc]) (a := eU m) (b := eU x) (v_at rfl) (v_at rfl) eU_eq
        refine (eif_at (tB_of w)).trans ?_
        by_cases z : m = x
        · rw [if_pos (decide_eq_true z), if_pos z]
          exact v_at rfl
        · rw [if_neg (by rw [decide_eq_false z]; exact Bool.false_ne_true), if_neg z]
          exact v_at rfl) (fun _ _ => eU_und _)
      refine c.trans ?_
      unfold esU
      rw [List.map_map]
      rfl
theorem lw_in {p : Nat} {e8 : Option U} (hp : p < es.length) (l : es.length = fs.length) (hl : es.length ≤ 1000) : ∀ (as : List Nat) (M : Ent) (e4 e5 e6 e7 : Option U), (∀ a ∈ as, a < es.length) → M.length = es.length →
    ∃ e4' e5' e6' e7', NK.forM (fun _ => True) (gN 4) l_u_law_above_1 (as.map fun (i : Nat) => U.int (i : Nat)) [some (.lst (esU es)), some (.lst (esU fs)), some (.lst (esU M)), some (.int (p : Nat)), e4, e5, e6, e7, e8] S = SO.next [some (.lst (esU es)), some (.lst (esU fs)), some (.lst (esU (as.foldl (fun M a => stpL (lkL es fs) M (p, a)) M))), some (.int (p : Nat)), e4', e5', e6', e7', e8] S
  | [], M, e4, e5, e6, e7, _, _ => ⟨e4, e5, e6, e7, forM_nil True.intro⟩
  | a :: as, M, e4, e5, e6, e7, ha, hM => by
    obtain ⟨f5, f6, f7, s⟩ := lw_step (S := S) (e5 := e5) (e6 := e6) (e7 := e7) (e8 := e8) hp (ha a List.mem_cons_self) l hM hl
    obtain ⟨e4', e5', e6', e7', ih⟩ := lw_in (e8 := e8) hp l hl as (stpL (lkL es fs) M (p, a)) (some (.int (a : Nat))) f5 f6 f7 (fun x hx => ha x (List.mem_cons_of_mem _ hx)) (by rw [stpL_len, hM])
    exact ⟨e4', e5', e6', e7', (forM_n (env1 := [some (.lst (esU es)), some (.lst (esU fs)), some (.lst (esU M)), some (.int (p : Nat)), some (.int (a : Nat)), e5, e6, e7, e8]) True.intro rfl s).trans ih⟩
theorem lw_out {e8 : Option U} (l : es.length = fs.length) (hl : es.length ≤ 1000) : ∀ (ps : List Nat) (M : Ent) (e3 e4 e5 e6 e7 : Option U), (∀ p ∈ ps, p < es.length) → M.length = es.length →
    ∃ e3' e4' e5' e6' e7', NK.forM (fun _ => True) (gN 3) l_u_law_above_2 (ps.map fun (i : Nat) => U.int (i : Nat)) [some (.lst (esU es)), some (.lst (esU fs)), some (.lst (esU M)), e3, e4, e5, e6, e7, e8] S = SO.next [some (.lst (esU es)), some (.lst (esU fs)), some (.lst (esU (ps.foldl (fun M p => (List.range p).foldl (fun M a => stpL (lkL es fs) M (p, a)) M) M))), e3', e4', e5', e6', e7', e8] S
  | [], M, e3, e4, e5, e6, e7, _, _ => ⟨e3, e4, e5, e6, e7, forM_nil True.intro⟩
  | p :: ps, M, e3, e4, e5, e6, e7, hp, hM => by
    have lp := hp p List.mem_cons_self
    obtain ⟨f4, f5, f6, f7, s⟩ := lw_in (S := S) (e8 := e8) lp l hl (List.range p) M e4 e5 e6 e7 (fun a ha => Nat.lt_trans (List.mem_range.mp ha) lp) hM
    obtain ⟨e3', e4', e5', e6', e7', ih⟩ := lw_out (e8 := e8) l hl ps ((List.range p).foldl (fun M a => stpL (lkL es fs) M (p, a)) M) (some (.int (p : Nat))) f4 f5 f6 f7 (fun x hx => hp x (List.mem_cons_of_mem _ hx)) (by rw [in_len, hM])
    refine ⟨e3', e4', e5', e6', e7', (forM_n (env1 := [some (.lst (esU es)), some (.lst (esU fs)), some (.lst (esU M)), some (.int (p : Nat)), e4, e5, e6, e7, e8]) True.intro rfl ?_).trans ih⟩
    unfold l_u_law_above_2
    exact sFor_ok (rng_at (n := p) (v_at rfl) (by omega)) s
theorem mrg_some {β : Type} [DecidableEq β] {M : List β} {p a : Nat} : mrg (M.map some) p a = (mrg M p a).map some := by
  unfold mrg
  rw [List.getElem?_map, List.getElem?_map]
  cases M[p]? with
  | none => rfl
  | some x =>
    cases M[a]? with
    | none => rfl
    | some y =>
      show (if some x = some y then M.map some else (M.map some).map fun m => if m = some x then some y else m) = (if x = y then M else M.map fun m => if m = x then y else m).map some
      by_cases e : x = y
      · rw [if_pos e, if_pos (by rw [e])]
      · rw [if_neg e, if_neg fun z => e (Option.some.inj z), List.map_map, List.map_map]
        refine List.map_congr_left fun m _ => ?_
        show (if some m = some x then some y else some m) = some (if m = x then y else m)
        by_cases z : m = x
        · rw [if_pos z, if_pos (by rw [z])]
        · rw [if_neg z, if_neg fun w => z (Option.some.inj w)]
theorem stp_some {β : Type} [DecidableEq β] {lk : Nat → Nat → Bool} {M : List β} {q : Nat × Nat} : stpL lk (M.map some) q = (stpL lk M q).map some := by
  unfold stpL
  split
  · exact mrg_some
  · rfl
theorem fold_some {β : Type} [DecidableEq β] {lk : Nat → Nat → Bool} : ∀ (L : List (Nat × Nat)) (M : List β), L.foldl (stpL lk) (M.map some) = (L.foldl (stpL lk) M).map some
  | [], _ => rfl
  | q :: L, M => by rw [List.foldl_cons, List.foldl_cons, stp_some, fold_some L]
theorem mrgL_some : mrgAll (lkL es fs) es.length ((List.range es.length).map some) = (mrgL es fs).map some := by
  unfold mrgL
  rw [mrgAll_eq, mrgAll_eq, fold_some]
theorem msk_len {N : List Nat} : (msk es N).length = es.length := by
  unfold msk
  rw [List.length_map, List.length_range]
theorem lrg_at (h : m env S = Out.ok (.int (es.length : Nat)) S) (hl : es.length ≤ 1000) : eScope (eLstRg m) env S = Out.ok (.lst (esU ((List.range es.length).map some))) S := by
  have e : eLstRg m env S = Out.ok (.loc S.length) (S ++ [.lst (esU ((List.range es.length).map some))]) := by
    unfold eLstRg
    rw [h, ob]
    show (if 0 ≤ ((es.length : Nat) : Int) ∧ ((es.length : Nat) : Int) ≤ 16777216 then Out.ok (U.loc S.length) (S ++ [Ob.lst ((List.range es.length).map fun (i : Nat) => U.int (0 + (i : Int)))]) else Out.bad) = _
    rw [if_pos ⟨by omega, by omega⟩]
    unfold esU
    rw [List.map_map]
    congr 4
    refine List.map_congr_left fun i _ => ?_
    show U.int (0 + (i : Int)) = U.int (i : Nat)
    rw [Int.zero_add]
  unfold eScope
  rw [e]
  exact sc_loc (j := 0) [.lst _] (Old.refl S) rfl (esU_und _)
theorem above_ok (mm : mk es fs) (hl : es.length ≤ 900) : m_u_law_above [.lst (esU es), .lst (esU fs)] S = Out.ok (.lst (esU (orE es fs))) S := by
  have l := mk_len mm
  obtain ⟨e3, e4, e5, e6, e7, f⟩ := lw_out (S := S) (e8 := none) l (by omega) (List.range es.length) ((List.range es.length).map some) none none none none none (fun p hp => List.mem_range.mp hp) (by rw [List.length_map, List.length_range])
  have eM : (List.range es.length).foldl (fun M p => (List.range p).foldl (fun M a => stpL (lkL es fs) M (p, a)) M) ((List.range es.length).map some) = (mrgL es fs).map some := mrgL_some
  rw [eM] at f
  have ll : (mrgL es fs).length = es.length := by
    unfold mrgL
    rw [mrgAll_eq, fold_len, List.length_range]
  refine fs_same (n := 9) (mb := b_u_law_above) (env := [some (.lst (esU es)), some (.lst (esU fs)), none, none, none, none, none, none, none]) rfl ?_ (by unfold U.under; exact esU_und _)
  have ln : ∀ {e2 e3 e4 e5 e6 e7 e8 : Option U}, eCB fLen (aCons (eVar 0) aNil) [some (.lst (esU es)), some (.lst (esU fs)), e2, e3, e4, e5, e6, e7, e8] S = Out.ok (.int (es.length : Nat)) S := fun {_ _ _ _ _ _ _} => by
    rw [len_lst (gs := esU es) rfl, esU_len]
  unfold b_u_law_above
  refine seq_n (asg_ok (i := 2) (lrg_at ln (by omega))) (seq_n (sFor_ok (rng_at ln (by omega)) f) (ret_ok (call1 rfl (x := .lst (esU (msk es (mrgL es fs)))) ?_ ?_)))
  · refine (comp_all (st := S) (i := 3) (g := fun _ => True) (as := List.range es.length) (fun (i : Nat) => U.int (i : Nat)) (fun i => eU (match es[i]? with
      | some (some _) => (mrgL es fs)[i]?
      | _ => none)) (rng_at ln (by omega)) (fun _ => True.intro) (by rw [List.length_range]; omega) (fun i hi acc => ?_) (fun _ _ => eU_und _)).trans ?_
    · have h1 := List.mem_range.mp hi
      have w : eOp fIx (eVar 0) (eVar 3) [some (.lst (esU es)), some (.lst (esU fs)), some (.lst (esU ((mrgL es fs).map some))), some (.int (i : Nat)), e4, e5, e6, e7, none] (S ++ [.lst acc]) = Out.ok (eU (es[i]?.join)) (S ++ [.lst acc]) := ix_lstE (v_at rfl) (v_at rfl) (at_o h1)
      have n : eOp fIsN (eOp fIx (eVar 0) (eVar 3)) (eC .non) [some (.lst (esU es)), some (.lst (esU fs)), some (.lst (esU ((mrgL es fs).map some))), some (.int (i : Nat)), e4, e5, e6, e7, none] (S ++ [.lst acc]) = Out.ok (.bl (!(es[i]?.join).isSome)) (S ++ [.lst acc]) := op2 (S1 := S ++ [.lst acc]) (S2 := S ++ [.lst acc]) (b := .non) w rfl (by cases es[i]?.join <;> rfl)
      refine (eif_at (tB_of n)).trans ?_
      have a2 := at_o (gs := (mrgL es fs).map some) (k := i) (by rw [List.length_map]; omega)
      rw [List.getElem?_map] at a2
      have v : eOp fIx (eVar 2) (eVar 3) [some (.lst (esU es)), some (.lst (esU fs)), some (.lst (esU ((mrgL es fs).map some))), some (.int (i : Nat)), e4, e5, e6, e7, none] (S ++ [.lst acc]) = Out.ok (eU ((mrgL es fs)[i]?)) (S ++ [.lst acc]) := ix_lstE (v_at rfl) (v_at rfl) (a2.trans (by cases (mrgL es fs)[i]? <;> rfl))
      rw [List.getElem?_eq_getElem h1]
      cases es[i] with
      | none => rfl
      | some x => exact v
    · unfold esU msk
      rw [List.map_map]
      rfl
  · rw [lnumN _ S (by rw [msk_len]; omega), above_eq mm]
theorem beneath_ok (mm : mk es fs) (hl : es.length ≤ 900) : m_u_law_beneath [.lst (esU es), .lst (esU fs)] S = Out.ok (.lst (esU (anE es fs))) S := by
  have l := mk_len mm
  refine fs_same (n := 3) (mb := b_u_law_beneath) (env := [some (.lst (esU es)), some (.lst (esU fs)), none]) rfl ?_ (by unfold U.under; exact esU_und _)
  have ln : eCB fLen (aCons (eVar 0) aNil) [some (.lst (esU es)), some (.lst (esU fs)), none] S = Out.ok (.int (es.length : Nat)) S := by
    rw [len_lst (gs := esU es) rfl, esU_len]
  unfold b_u_law_beneath
  refine ret_ok (call1 rfl (x := .lst ((prE es fs).map encP.o)) ?_ (lnum_ok encP (prE es fs) (by rw [prE_len mm]; exact hl)))
  have pl := prE_len mm
  refine (comp_all (st := S) (i := 2) (g := fun _ => True) (as := List.range es.length) (fun (i : Nat) => U.int (i : Nat)) (fun i => encP.o ((prE es fs)[i]?.join)) (rng_at ln (by omega)) (fun _ => True.intro) (by rw [List.length_range]; omega) (fun i hi acc => ?_) (fun i _ => by cases (prE es fs)[i]?.join <;> rfl)).trans ?_
  · have h1 := List.mem_range.mp hi
    have w : eOp fIx (eVar 0) (eVar 2) [some (.lst (esU es)), some (.lst (esU fs)), some (.int (i : Nat))] (S ++ [.lst acc]) = Out.ok (eU (es[i]?.join)) (S ++ [.lst acc]) := ix_lstE (v_at rfl) (v_at rfl) (at_o h1)
    have w1 : eOp fIx (eVar 1) (eVar 2) [some (.lst (esU es)), some (.lst (esU fs)), some (.int (i : Nat))] (S ++ [.lst acc]) = Out.ok (eU (fs[i]?.join)) (S ++ [.lst acc]) := ix_lstE (v_at rfl) (v_at rfl) (at_o (by omega))
    have n : eOp fIsN (eOp fIx (eVar 0) (eVar 2)) (eC .non) [some (.lst (esU es)), some (.lst (esU fs)), some (.int (i : Nat))] (S ++ [.lst acc]) = Out.ok (.bl (!(es[i]?.join).isSome)) (S ++ [.lst acc]) := op2 (S1 := S ++ [.lst acc]) (S2 := S ++ [.lst acc]) (b := .non) w rfl (by cases es[i]?.join <;> rfl)
    refine (eif_at (tB_of n)).trans ?_
    have tp := tup2 (S1 := S ++ [.lst acc]) w w1
    have q : ∀ o p : Option Nat, es[i]? = some o → fs[i]? = some p → (prE es fs)[i]?.join = (match o, p with
      | some x, some y => some (x, y)
      | _, _ => none) := fun o p h g => by
      unfold prE
      rw [List.getElem?_zipWith, h, g]
      rfl
    have e1 := List.getElem?_eq_getElem h1
    have e2 := List.getElem?_eq_getElem (show i < fs.length by omega)
    rw [q _ _ e1 e2]
    rw [e1, e2] at tp
    rw [e1]
    cases h : es[i] with
    | none => rfl
    | some x =>
      rw [h] at tp e1
      obtain ⟨y, hy⟩ := mk_at mm e1
      rw [e2] at hy
      have hy' := Option.some.inj hy
      rw [hy'] at tp ⊢
      exact tp
  · congr 1
    congr 1
    refine List.ext_getElem? fun i => ?_
    rw [List.getElem?_map, List.getElem?_map]
    by_cases h : i < es.length
    · have g := List.getElem?_eq_getElem (show i < (prE es fs).length by omega)
      rw [List.getElem?_range h, g]
      show some (encP.o ((prE es fs)[i]?.join)) = some (encP.o (prE es fs)[i])
      rw [g]
      rfl
    · rw [List.getElem?_eq_none_iff.mpr (show (List.range es.length).length ≤ i by rw [List.length_range]; omega), List.getElem?_eq_none_iff.mpr (show (prE es fs).length ≤ i by omega)]
      rfl
end
end G

namespace G
open PySem L2 NK
section
variable {st : Sto} {env : NK.Env} {h : Ob} {me : ME} {i : Nat}
theorem compM_drw {P : U → Prop} : ∀ (us acc : List U) (h : Ob), HOb h → acc.length + us.length ≤ 1000 →
    (∀ u ∈ us, ∀ h X, HOb h → ∃ w h', P w ∧ HOb h' ∧ me (env.set i (some u)) (h :: X) = Out.ok w (h' :: X)) →
    ∃ ws h', HOb h' ∧ ws.length = us.length ∧ (∀ w ∈ ws, P w) ∧ compM (fun _ => True) (gN i) NK.tYes me (st.length + 1) (wipeE env [i]) us ((h :: st) ++ [.lst acc]) = Out.ok (.loc (st.length + 1)) ((h' :: st) ++ [.lst (acc ++ ws)])
  | [], acc, h, H, _, _ => ⟨[], h, H, rfl, fun _ q => (by cases q), by unfold compM; rw [if_pos True.intro, List.append_nil]⟩
  | u :: us, acc, h, H, hz, hh => by
    rw [List.length_cons] at hz
    obtain ⟨w, h1, pw, H1, e⟩ := hh u List.mem_cons_self h (st ++ [.lst acc]) H
    obtain ⟨ws, h2, H2, l2, p2, e2⟩ := compM_drw (P := P) us (acc ++ [w]) h1 H1 (by rw [List.length_append, List.length_singleton]; omega) (fun v hv => hh v (List.mem_cons_of_mem _ hv))
    refine ⟨w :: ws, h2, H2, by rw [List.length_cons, List.length_cons, l2], fun v hv => (List.mem_cons.mp hv).elim (fun z => z ▸ pw) (p2 v), ?_⟩
    unfold compM
    rw [if_pos True.intro]
    have e' : me (env.set i (some u)) ((h :: st) ++ [.lst acc]) = Out.ok w ((h1 :: st) ++ [.lst acc]) := e
    rw [show gN i u (wipeE env [i]) ((h :: st) ++ [Ob.lst acc]) = some (env.set i (some u)) from congrArg some (wipe1 env i u)]
    dsimp only [NK.tYes]
    rw [e']
    dsimp only
    rw [show ((h1 :: st) ++ [Ob.lst acc])[st.length + 1]? = some (.lst acc) by simp]
    dsimp only
    rw [if_pos (by omega), show ((h1 :: st) ++ [Ob.lst acc]).set (st.length + 1) (.lst (acc ++ [w])) = (h1 :: st) ++ [.lst (acc ++ [w])] by simp, e2, List.append_assoc]
    rfl
theorem comp_drw {P : U → Prop} {mi : MI} {us : List U} (H : HOb h) (hm : mi env (h :: st) = Out.ok ⟨us, fun _ => True⟩ (h :: st)) (hz : us.length ≤ 1000) (hP : ∀ w, P w → w.under 0 = true)
    (hh : ∀ u ∈ us, ∀ h X, HOb h → ∃ w h', P w ∧ HOb h' ∧ me (env.set i (some u)) (h :: X) = Out.ok w (h' :: X)) :
    ∃ ws h', HOb h' ∧ ws.length = us.length ∧ (∀ w ∈ ws, P w) ∧ eScope (eComp mi (gN i) NK.tYes me [i]) env (h :: st) = Out.ok (.lst ws) (h' :: st) := by
  obtain ⟨ws, h', H', l, p, e⟩ := compM_drw (st := st) (env := env) (me := me) (i := i) (P := P) us [] h H (by simpa using hz) hh
  refine ⟨ws, h', H', l, p, ?_⟩
  unfold eScope eComp
  rw [hm, ob]
  show scopeOut (h :: st) (compM (fun _ => True) (gN i) NK.tYes me (st.length + 1) (wipeE env [i]) us ((h :: st) ++ [.lst []])) = _
  rw [e, List.nil_append]
  exact sc_loc (st := h :: st) (j := 0) [.lst ws] (Old.hand H'.under) rfl (underL_all fun w hw => hP w (p w hw))
theorem bls_of : ∀ {ws : List U}, (∀ w ∈ ws, ∃ b, w = U.bl b) → ∃ bs : List Bool, ws = bs.map U.bl
  | [], _ => ⟨[], rfl⟩
  | w :: ws, hh => by
    obtain ⟨b, rfl⟩ := hh w List.mem_cons_self
    obtain ⟨bs, rfl⟩ := bls_of fun v hv => hh v (List.mem_cons_of_mem _ hv)
    exact ⟨b :: bs, rfl⟩
theorem bls_und : ∀ bs : List Bool, U.underL 0 (bs.map U.bl) = true
  | [] => rfl
  | b :: bs => by
    show U.underL 0 (U.bl b :: bs.map U.bl) = true
    unfold U.underL
    rw [bls_und bs]
    rfl
theorem mask_ok (H : HOb h) : ∃ (bs : List Bool) (h' : Ob), HOb h' ∧ bs.length ≤ 40 ∧ m_u_law_mask [.loc 0] (h :: st) = Out.ok (.lst (bs.map U.bl)) (h' :: st) := by
  obtain ⟨k, h1, H1, _, d1⟩ := draw_at (st := st) (env := [some (.loc 0), none, none, none, none]) (j := 0) (k := 10) H rfl (by decide) (by decide)
  have q : ∀ n : Int, NK.tB (eOp fEq (eVar 1) (eC (.int n))) [some (.loc 0), some (.int (k : Nat)), none, none, none] (h1 :: st) = Out.ok (decide (((k : Nat) : Int) = n)) (h1 :: st) := fun n => tB_of (op2 (S1 := h1 :: st) (S2 := h1 :: st) (v_at (i := 1) rfl) rfl fEq_int)
  have D2 : ∃ (n : Nat) (h2 : Ob), HOb h2 ∧ n ≤ 40 ∧ eIf (NK.tB (eOp fEq (eVar 1) (eC (.int 9)))) (eCall 2 m_u_law_draw [] (aCons (eVar 0) (aCons (eC (.int 41)) aNil))) (eIf (NK.tB (eOp fEq (eVar 1) (eC (.int 8)))) (eC (.int 40)) (eCall 2 m_u_law_draw [] (aCons (eVar 0) (aCons (eC (.int 8)) aNil)))) [some (.loc 0), some (.int (k : Nat)), none, none, none] (h1 :: st) = Out.ok (.int (n : Nat)) (h2 :: st) := by
    by_cases z9 : ((k : Nat) : Int) = 9
    · obtain ⟨n, h2, H2, l2, d2⟩ := draw_at (st := st) (env := [some (.loc 0), some (.int (k : Nat)), none, none, none]) (j := 0) (k := 41) H1 rfl (by decide) (by decide)
      refine ⟨n, h2, H2, by omega, (eif_at (q 9)).trans ?_⟩
      rw [if_pos (decide_eq_true z9)]
      exact d2
    · by_cases z8 : ((k : Nat) : Int) = 8
      · refine ⟨40, h1, H1, Nat.le_refl _, (eif_at (q 9)).trans ?_⟩
        rw [if_neg (by rw [decide_eq_false z9]; exact Bool.false_ne_true)]
        refine (eif_at (q 8)).trans ?_
        rw [if_pos (decide_eq_true z8)]
        rfl
      · obtain ⟨n, h2, H2, l2, d2⟩ := draw_at (st := st) (env := [some (.loc 0), some (.int (k : Nat)), none, none, none]) (j := 0) (k := 8) H1 rfl (by decide) (by decide)
        refine ⟨n, h2, H2, by omega, (eif_at (q 9)).trans ?_⟩
        rw [if_neg (by rw [decide_eq_false z9]; exact Bool.false_ne_true)]
        refine (eif_at (q 8)).trans ?_
        rw [if_neg (by rw [decide_eq_false z8]; exact Bool.false_ne_true)]
        exact d2
  obtain ⟨n, h2, H2, ln, d2⟩ := D2
  obtain ⟨u, h3, hu, H3, d3⟩ := pick_ok (st := st) H2 (us := [.int 1, .int 1, .int 4, .int 2]) (by simp) (by decide)
  have lt : eScope (eLst (aCons (eC (.int 1)) (aCons (eC (.int 1)) (aCons (eC (.int 4)) (aCons (eC (.int 2)) aNil))))) [some (.loc 0), some (.int (k : Nat)), some (.int (n : Nat)), none, none] (h2 :: st) = Out.ok (.lst [.int 1, .int 1, .int 4, .int 2]) (h2 :: st) := lit_drw (S' := h2 :: st) rfl (Old.refl _) (by decide) rfl
  have ho : ∃ o : Int, u = .int o ∧ 0 < o ∧ o < 100 := by
    simp only [List.mem_cons, List.not_mem_nil, or_false] at hu
    rcases hu with rfl | rfl | rfl | rfl
    · exact ⟨1, rfl, by decide, by decide⟩
    · exact ⟨1, rfl, by decide, by decide⟩
    · exact ⟨4, rfl, by decide, by decide⟩
    · exact ⟨2, rfl, by decide, by decide⟩
  obtain ⟨o, rfl, o0, o1⟩ := ho
  obtain ⟨ws, h4, H4, l4, p4, c4⟩ := comp_drw (st := st) (h := h3) (i := 4) (P := fun w => ∃ b, w = U.bl b) (mi := iRng1 (aCons (eVar 2) aNil)) (me := eOr (eOp fEq (eVar 3) (eC (.int 1))) (eOp fGt (eCall 2 m_u_law_draw [] (aCons (eVar 0) (aCons (eVar 3) aNil))) (eC (.int 0)))) (env := [some (.loc 0), some (.int (k : Nat)), some (.int (n : Nat)), some (.int o), none]) H3 (rng_at (v_at (i := 2) rfl) (by omega)) (by rw [List.length_map, List.length_range]; omega) (fun w ⟨b, e⟩ => by rw [e]; rfl) (fun u _ h X H => by
    have e1 : eOp fEq (eVar 3) (eC (.int 1)) [some (.loc 0), some (.int (k : Nat)), some (.int (n : Nat)), some (.int o), some u] (h :: X) = Out.ok (.bl (decide (o = 1))) (h :: X) := op2 (S1 := h :: X) (S2 := h :: X) (v_at (i := 3) rfl) rfl fEq_int
    by_cases z : o = 1
    · refine ⟨.bl true, h, ⟨true, rfl⟩, H, ?_⟩
      rw [decide_eq_true z] at e1
      show eOr _ _ [some (.loc 0), some (.int (k : Nat)), some (.int (n : Nat)), some (.int o), some u] (h :: X) = _
      unfold eOr
      rw [e1, ob]
    · obtain ⟨d, h', H', _, _, e⟩ := draw_ok (st := X) (m := o) H o0 (Int.lt_trans o1 (by decide))
      refine ⟨.bl (decide (0 < d)), h', ⟨_, rfl⟩, H', ?_⟩
      rw [decide_eq_false z] at e1
      show eOr _ _ [some (.loc 0), some (.int (k : Nat)), some (.int (n : Nat)), some (.int o), some u] (h :: X) = _
      unfold eOr
      rw [e1, ob]
      exact op2 (S1 := h' :: X) (S2 := h' :: X) (call2 rfl (v_at (i := 0) rfl) (v_at (i := 3) rfl) e) rfl rfl)
  obtain ⟨bs, rfl⟩ := bls_of p4
  refine ⟨bs, h4, H4, by rw [List.length_map, List.length_map, List.length_range] at l4; omega, ?_⟩
  refine fs_old (n := 5) (mb := b_u_law_mask) (env := [some (.loc 0), none, none, none, none]) rfl ?_ (Old.hand H4.under) (by unfold U.under; exact bls_und bs)
  unfold b_u_law_mask
  exact seq_n (asg_ok (i := 1) d1) (seq_n (asg_ok (i := 2) d2) (seq_n (asg_ok (i := 3) (call2 rfl (v_at (i := 0) rfl) lt d3)) (ret_ok c4)))
theorem on_loop {e1 : Option U} : ∀ (bs : List Bool) (m : Nat) (acc : Ent) (h : Ob) (e4 e5 : Option U), HOb h → acc.length + bs.length ≤ 900 → m + bs.length ≤ 900 →
    ∃ es h' e3' e4' e5', HOb h' ∧ es.map Option.isSome = bs ∧ canGo m es ∧ NK.forM (fun _ => True) (gN 4) l_u_law_on_1 (bs.map U.bl) [some (.loc 0), e1, some (.loc (st.length + 1)), some (.int (m : Nat)), e4, e5] ((h :: st) ++ [.lst (esU acc)]) = SO.next [some (.loc 0), e1, some (.loc (st.length + 1)), e3', e4', e5'] ((h' :: st) ++ [.lst (esU (acc ++ es))])
  | [], m, acc, h, e4, e5, H, _, _ => ⟨[], h, _, _, _, H, rfl, True.intro, by rw [List.append_nil]; exact forM_nil True.intro⟩
  | b :: bs, m, acc, h, e4, e5, H, h1, h2 => by
    rw [List.length_cons] at h1 h2
    obtain ⟨d0, h', H', g0, g1, e⟩ := draw_ok (st := st ++ [.lst (esU acc)]) (m := (m : Int) + 1) H (by omega) (Int.lt_trans (show (m : Int) + 1 < 1000 by omega) (by decide))
    obtain ⟨d, rfl⟩ := Int.eq_ofNat_of_zero_le g0
    have ar : eOp fAdd (eVar 3) (eC (.int 1)) [some (.loc 0), e1, some (.loc (st.length + 1)), some (.int (m : Nat)), some (.bl b), e5] (h :: (st ++ [.lst (esU acc)])) = Out.ok (.int ((m : Int) + 1)) (h :: (st ++ [.lst (esU acc)])) := op2 (S1 := h :: (st ++ [.lst (esU acc)])) (S2 := h :: (st ++ [.lst (esU acc)])) (v_at (i := 3) rfl) rfl fAdd_i
    have dr := call2 (k := 2) rfl (v_at (i := 0) rfl) ar e
    have it := eif_at (t := tTru (eVar 4)) (p := eVar 5) (q := eC .non) (S1 := h' :: (st ++ [.lst (esU acc)])) (env := [some (.loc 0), e1, some (.loc (st.length + 1)), some (.int (m : Nat)), some (.bl b), some (.int (d : Nat))]) (truK (S := h' :: (st ++ [.lst (esU acc)])) (b := b) (v_at (i := 4) rfl))
    have it' : eIf (tTru (eVar 4)) (eVar 5) (eC .non) [some (.loc 0), e1, some (.loc (st.length + 1)), some (.int (m : Nat)), some (.bl b), some (.int (d : Nat))] (h' :: (st ++ [.lst (esU acc)])) = Out.ok (eU (if b = true then some d else none)) (h' :: (st ++ [.lst (esU acc)])) := it.trans (by
      cases b
      · rfl
      · rw [if_pos rfl, if_pos rfl]
        exact v_at (i := 5) rfl)
    have ap := app_drop (i := 2) (j := st.length + 1) (us := esU acc) (S := h' :: (st ++ [.lst (esU acc)])) (S1 := h' :: (st ++ [.lst (esU acc)])) (env := [some (.loc 0), e1, some (.loc (st.length + 1)), some (.int (m : Nat)), some (.bl b), some (.int (d : Nat))]) rfl (isl_at (us := esU acc) (by simp)) it' (by simp) (by rw [esU_len]; omega)
    have ss : (h' :: (st ++ [Ob.lst (esU acc)])).set (st.length + 1) (.lst (esU acc ++ [eU (if b = true then some d else none)])) = h' :: (st ++ [.lst (esU (acc ++ [if b = true then some d else none]))]) := by
      unfold esU
      simp
    rw [ss] at ap
    have tt := tand_at (env := [some (.loc 0), e1, some (.loc (st.length + 1)), some (.int (m : Nat)), some (.bl b), some (.int (d : Nat))]) (truK (S := h' :: (st ++ [.lst (esU (acc ++ [if b = true then some d else none]))])) (b := b) (v_at (i := 4) rfl)) (tB_of (op2 (S2 := h' :: (st ++ [.lst (esU (acc ++ [if b = true then some d else none]))])) (v_at (env := [some (.loc 0), e1, some (.loc (st.length + 1)), some (.int (m : Nat)), some (.bl b), some (.int (d : Nat))]) (i := 5) (u := .int (d : Nat)) rfl) (v_at (i := 3) (u := .int (m : Nat)) rfl) fEq_int))
    have mv : eIf (tAnd (tTru (eVar 4)) (NK.tB (eOp fEq (eVar 5) (eVar 3)))) (eOp fAdd (eVar 3) (eC (.int 1))) (eVar 3) [some (.loc 0), e1, some (.loc (st.length + 1)), some (.int (m : Nat)), some (.bl b), some (.int (d : Nat))] (h' :: (st ++ [.lst (esU (acc ++ [if b = true then some d else none]))])) = Out.ok (.int ((if b = true ∧ d = m then m + 1 else m : Nat) : Nat)) (h' :: (st ++ [.lst (esU (acc ++ [if b = true then some d else none]))])) := by
      refine (eif_at tt).trans ?_
      by_cases z : b = true ∧ d = m
      · rw [if_pos (by rw [z.1, z.2]; simp), if_pos z]
        exact op2 (S1 := h' :: (st ++ [.lst (esU (acc ++ [if b = true then some d else none]))])) (S2 := h' :: (st ++ [.lst (esU (acc ++ [if b = true then some d else none]))])) (v_at (i := 3) rfl) rfl fAdd_i
      · rw [if_neg (fun q => z (by
          rw [Bool.and_eq_true] at q
          exact ⟨q.1, Int.ofNat.inj (of_decide_eq_true q.2)⟩)), if_neg z]
        exact v_at (i := 3) rfl
    obtain ⟨es, h3, e3', e4', e5', H3, me, cg, f⟩ := on_loop (e1 := e1) bs (if b = true ∧ d = m then m + 1 else m) (acc ++ [if b = true then some d else none]) h' (some (.bl b)) (some (.int (d : Nat))) H' (by rw [List.length_append, List.length_singleton]; omega) (by split <;> omega)
    refine ⟨(if b = true then some d else none) :: es, h3, e3', e4', e5', H3, ?_, ?_, ?_⟩
    · rw [List.map_cons, me]
      cases b <;> rfl
    · cases b with
      | false => 
        rw [if_neg (fun q => Bool.false_ne_true q.1)] at cg
        exact cg
      | true =>
        show (d < m ∧ canGo m es) ∨ (d = m ∧ canGo (m + 1) es)
        by_cases z : d = m
        · rw [if_pos ⟨rfl, z⟩] at cg
          exact .inr ⟨z, cg⟩
        · rw [if_neg (fun q => z q.2)] at cg
          exact .inl ⟨by omega, cg⟩
    · refine (forM_n (env1 := [some (.loc 0), e1, some (.loc (st.length + 1)), some (.int (m : Nat)), some (.bl b), e5]) True.intro rfl ?_).trans (f.trans (by rw [List.append_assoc]; rfl))
      unfold l_u_law_on_1
      exact seq_n (asg_ok (i := 5) dr) (seq_n ap (asg_ok (i := 3) mv))
theorem on_ok {bs : List Bool} (H : HOb h) (hl : bs.length ≤ 40) : ∃ es h', HOb h' ∧ es.map Option.isSome = bs ∧ Can es ∧ m_u_law_on [.loc 0, .lst (bs.map U.bl)] (h :: st) = Out.ok (.lst (esU es)) (h' :: st) := by
  obtain ⟨es, h', e3, e4, e5, H', me, cg, f⟩ := on_loop (st := st) (e1 := some (.lst (bs.map U.bl))) bs 0 [] h none none H (by simpa using (by omega : bs.length ≤ 900)) (by omega)
  refine ⟨es, h', H', me, cg, ?_⟩
  refine fs_lst (n := 6) (mb := b_u_law_on) (env := [some (.loc 0), some (.lst (bs.map U.bl)), none, none, none, none]) (S := h :: st) (st2 := h' :: st) (ext := [.lst (esU es)]) rfl ?_ (Old.hand H'.under) rfl (esU_und _)
  unfold b_u_law_on
  refine seq_n (par_ok (a := .loc (st.length + 1)) (b := .int ((0 : Nat) : Int)) (S1 := (h :: st) ++ [Ob.lst (esU [])]) rfl) (seq_n (sFor_ok (us := bs.map U.bl) (g := fun _ => True) (S1 := (h :: st) ++ [Ob.lst (esU [])]) rfl f) (ret_ok (v_at (i := 2) rfl)))
end
end G

namespace G
open PySem L2 NK
def nbr : Nat → Ent → List (Nat × Option Nat)
  | _, [] => []
  | k, o :: es => (k, o) :: nbr (k + 1) es
def nbU (q : Nat × Option Nat) : U := .tup [.int (q.1 : Nat), eU q.2]
theorem nbr_en : ∀ (es : Ent) (k : Nat), (nbr k es).map nbU = enumFrom k (esU es)
  | [], _ => rfl
  | o :: es, k => by
    show nbU (k, o) :: (nbr (k + 1) es).map nbU = _
    rw [nbr_en es (k + 1)]
    rfl
theorem nbr_len : ∀ (es : Ent) (k : Nat), (nbr k es).length = es.length
  | [], _ => rfl
  | o :: es, k => by
    show (nbr (k + 1) es).length + 1 = es.length + 1
    rw [nbr_len es (k + 1)]
theorem nbr_at : ∀ (es : Ent) (k : Nat) (q : Nat × Option Nat), q ∈ nbr k es → k ≤ q.1 ∧ es[q.1 - k]? = some q.2
  | o :: es, k, q, h => by
    rcases List.mem_cons.mp h with rfl | h
    · exact ⟨Nat.le_refl _, by simp⟩
    · obtain ⟨h1, h2⟩ := nbr_at es (k + 1) q h
      refine ⟨by omega, ?_⟩
      rw [show q.1 - k = (q.1 - (k + 1)) + 1 by omega, List.getElem?_cons_succ]
      exact h2
theorem nbr_snd : ∀ (es : Ent) (k : Nat), (nbr k es).map (fun q => q.2) = es
  | [], _ => rfl
  | o :: es, k => by
    show o :: (nbr (k + 1) es).map (fun q => q.2) = _
    rw [nbr_snd es (k + 1)]
theorem all_yes {α : Type} (as : List α) : as.filter (fun _ => true) = as := List.filter_eq_self.mpr fun _ _ => rfl
section
variable {st : Sto} {env : NK.Env} {h : Ob} {es : Ent}
theorem near_ok (H : HOb h) (c : Can es) (hl : es.length ≤ 40) : ∃ fs h', HOb h' ∧ mk fs es ∧ Can fs ∧ m_u_law_near [.loc 0, .lst (esU es)] (h :: st) = Out.ok (.lst (esU fs)) (h' :: st) := by
  have pl : eScope (eComp (iEnumA (aCons (eVar 1) aNil)) (gT [5, 6]) (NK.tB (eOp fNotN (eVar 6) (eC .non))) (eVar 5) [5, 6]) [some (.loc 0), some (.lst (esU es)), none, none, none, none, none] (h :: st) = Out.ok (.lst (((nbr 0 es).filter fun q => q.2.isSome).map fun q => U.int (q.1 : Nat))) (h :: st) := by
    refine comp_genF nbU (fun q => U.int (q.1 : Nat)) (fun q => q.2.isSome) (as := nbr 0 es) (g := fun _ => True) (by rw [nbr_en]; rfl) (fun _ => True.intro) (by rw [nbr_len]; omega) (fun q _ acc => ?_) (fun _ _ _ => rfl)
    refine ⟨[some (.loc 0), some (.lst (esU es)), none, none, none, some (.int (q.1 : Nat)), some (eU q.2)], rfl, ?_, fun _ => v_at (i := 5) rfl⟩
    exact tB_of (op2 (S1 := (h :: st) ++ [.lst acc]) (S2 := (h :: st) ++ [.lst acc]) (a := eU q.2) (b := .non) (v_at (i := 6) rfl) rfl (by cases q.2 <;> rfl))
  have ps_at : ∀ q ∈ (nbr 0 es).filter fun q => q.2.isSome, ∃ x, es[q.1]? = some (some x) := fun q hq => by
    obtain ⟨h1, h2⟩ := List.mem_filter.mp hq
    obtain ⟨_, h3⟩ := nbr_at es 0 q h1
    rw [Nat.sub_zero] at h3
    obtain ⟨x, hx⟩ := Option.isSome_iff_exists.mp h2
    exact ⟨x, by rw [h3, hx]⟩
  have plen : ((nbr 0 es).filter fun q => q.2.isSome).length ≤ 40 := Nat.le_trans (List.length_filter_le _ _) (by rw [nbr_len]; exact hl)
  generalize ((nbr 0 es).filter fun q => q.2.isSome) = ps at pl ps_at plen
  have ok2 : okU 12 (.lst (ps.map fun q => U.int (q.1 : Nat))) = true := by
    show (ps.map fun q => U.int (q.1 : Nat)).all (okU 11) = true
    rw [List.all_eq_true]
    intro u hu
    obtain ⟨q, _, rfl⟩ := List.mem_map.mp hu
    rfl
  have e0 : eScope (eLst aNil) [some (.loc 0), some (.lst (esU es)), some (.lst (ps.map fun q => U.int (q.1 : Nat))), none, none, none, none] (h :: st) = Out.ok (.lst []) (h :: st) := lit_drw (S' := h :: st) rfl (Old.refl _) (by decide) rfl
  have em : eOp fEq (eVar 2) (eScope (eLst aNil)) [some (.loc 0), some (.lst (esU es)), some (.lst (ps.map fun q => U.int (q.1 : Nat))), none, none, none, none] (h :: st) = Out.ok (.bl (eqvU (.lst (ps.map fun q => U.int (q.1 : Nat))) (.lst []))) (h :: st) := op2 (S1 := h :: st) (S2 := h :: st) (v_at (i := 2) rfl) e0 (fEq_ok ok2 rfl)
  cases ps with
  | nil =>
    refine ⟨es, h, H, rfl, c, ?_⟩
    refine fs_old (n := 7) (mb := b_u_law_near) (env := [some (.loc 0), some (.lst (esU es)), none, none, none, none, none]) rfl ?_ (Old.refl _) (by unfold U.under; exact esU_und _)
    have em' : eOp fEq (eVar 2) (eScope (eLst aNil)) [some (.loc 0), some (.lst (esU es)), some (.lst []), none, none, none, none] (h :: st) = Out.ok (.bl true) (h :: st) := em
    have cp : eScope (eCB fList (aCons (eVar 1) aNil)) [some (.loc 0), some (.lst (esU es)), some (.lst []), none, none, none, none] (h :: st) = Out.ok (.lst (esU es)) (h :: st) := by
      unfold eScope
      rw [show eCB fList (aCons (eVar 1) aNil) [some (.loc 0), some (.lst (esU es)), some (.lst []), none, none, none, none] (h :: st) = Out.ok (.loc (h :: st).length) ((h :: st) ++ [.lst (esU es)]) from cb1 (S1 := h :: st) (v_at rfl) rfl]
      exact sc_lit rfl (esU_und _)
    unfold b_u_law_near
    exact seq_n (asg_ok (i := 2) pl) (seq_r (if_yes em' (ret_ok cp)))
  | cons p0 ps =>
    have em' : eOp fEq (eVar 2) (eScope (eLst aNil)) [some (.loc 0), some (.lst (esU es)), some (.lst ((p0 :: ps).map fun q => U.int (q.1 : Nat))), none, none, none, none] (h :: st) = Out.ok (.bl false) (h :: st) := em
    have pk : ∀ {h : Ob}, HOb h → ∃ (i : Nat) (h' : Ob), HOb h' ∧ (∃ x, es[i]? = some (some x)) ∧ m_u_law_pick [.loc 0, .lst ((p0 :: ps).map fun q => U.int (q.1 : Nat))] (h :: st) = Out.ok (.int (i : Nat)) (h' :: st) := fun {h} H => by
      obtain ⟨u, h', hu, H', e⟩ := pick_ok (st := st) H (us := (p0 :: ps).map fun q => U.int (q.1 : Nat)) (by simp) (by rw [List.length_map]; omega)
      obtain ⟨q, hq, rfl⟩ := List.mem_map.mp hu
      exact ⟨q.1, h', H', ps_at q hq, e⟩
    obtain ⟨one, h1, H1, ⟨x1, x1e⟩, k1⟩ := pk H
    obtain ⟨oth, h2, H2, ⟨x2, x2e⟩, k2⟩ := pk H1
    have tp : eTup (aCons (eCall 2 m_u_law_pick [] (aCons (eVar 0) (aCons (eVar 2) aNil))) (aCons (eCall 2 m_u_law_pick [] (aCons (eVar 0) (aCons (eVar 2) aNil))) aNil)) [some (.loc 0), some (.lst (esU es)), some (.lst ((p0 :: ps).map fun q => U.int (q.1 : Nat))), none, none, none, none] (h :: st) = Out.ok (.tup [.int (one : Nat), .int (oth : Nat)]) (h2 :: st) := tup2 (S1 := h1 :: st) (call2 rfl (v_at (i := 0) rfl) (v_at (i := 2) rfl) k1) (call2 rfl (v_at (i := 0) rfl) (v_at (i := 2) rfl) k2)
    obtain ⟨d, h3, H3, _, k3⟩ := draw_at (st := st) (env := [some (.loc 0), some (.lst (esU es)), some (.lst ((p0 :: ps).map fun q => U.int (q.1 : Nat))), some (.int (one : Nat)), some (.int (oth : Nat)), none, none]) (j := 0) (k := 2) H2 rfl (by decide) (by decide)
    have q0 : eOp fEq (eCall 2 m_u_law_draw [] (aCons (eVar 0) (aCons (eC (.int 2)) aNil))) (eC (.int 0)) [some (.loc 0), some (.lst (esU es)), some (.lst ((p0 :: ps).map fun q => U.int (q.1 : Nat))), some (.int (one : Nat)), some (.int (oth : Nat)), none, none] (h2 :: st) = Out.ok (.bl (decide (((d : Nat) : Int) = 0))) (h3 :: st) := op2 (S1 := h3 :: st) (S2 := h3 :: st) k3 rfl fEq_int
    by_cases z : ((d : Nat) : Int) = 0
    · rw [decide_eq_true z] at q0
      have ml : (es.map fun o => if o = some x2 then some x1 else o).length = es.length := List.length_map ..
      have mm : mk (es.map fun o => if o = some x2 then some x1 else o) es := by
        unfold mk
        rw [List.map_map]
        refine List.map_congr_left fun o _ => ?_
        show (if o = some x2 then some x1 else o).isSome = o.isSome
        split
        · rename_i e; rw [e]; rfl
        · rfl
      refine ⟨num (es.map fun o => if o = some x2 then some x1 else o), h3, H3, mk_trans (num_mk _) mm, num_can _, ?_⟩
      refine fs_old (n := 7) (mb := b_u_law_near) (env := [some (.loc 0), some (.lst (esU es)), none, none, none, none, none]) rfl ?_ (Old.hand H3.under) (by unfold U.under; exact esU_und _)
      unfold b_u_law_near
      refine seq_n (asg_ok (i := 2) pl) (seq_n (if_no em' rfl) (seq_n (asgT2 tp) (seq_r (if_yes q0 (ret_ok (call1 rfl (x := .lst (esU (es.map fun o => if o = some x2 then some x1 else o))) ?_ (lnumN _ _ (by omega)))))))) 
      refine (comp_all (st := h3 :: st) (i := 6) (g := fun _ => True) (env := [some (.loc 0), some (.lst (esU es)), some (.lst ((p0 :: ps).map fun q => U.int (q.1 : Nat))), some (.int (one : Nat)), some (.int (oth : Nat)), none, none]) (mi := iSeq (eVar 1)) (as := es) eU (fun o => eU (if o = some x2 then some x1 else o)) rfl (fun _ => True.intro) (by omega) (fun o _ acc => ?_) (fun _ _ => eU_und _)).trans ?_
      · have i4 : eOp fIx (eVar 1) (eVar 4) [some (.loc 0), some (.lst (esU es)), some (.lst ((p0 :: ps).map fun q => U.int (q.1 : Nat))), some (.int (one : Nat)), some (.int (oth : Nat)), none, some (eU o)] ((h3 :: st) ++ [.lst acc]) = Out.ok (eU (some x2)) ((h3 :: st) ++ [.lst acc]) := ix_lstE (v_at (i := 1) rfl) (v_at (i := 4) rfl) (esU_at x2e)
        have i3 : eOp fIx (eVar 1) (eVar 3) [some (.loc 0), some (.lst (esU es)), some (.lst ((p0 :: ps).map fun q => U.int (q.1 : Nat))), some (.int (one : Nat)), some (.int (oth : Nat)), none, some (eU o)] ((h3 :: st) ++ [.lst acc]) = Out.ok (eU (some x1)) ((h3 :: st) ++ [.lst acc]) := ix_lstE (v_at (i := 1) rfl) (v_at (i := 3) rfl) (esU_at x1e)
        refine (eif_at (tB_of (eq_eU (v_at (i := 6) rfl) i4))).trans ?_
        by_cases w : o = some x2
        · rw [if_pos (decide_eq_true w), if_pos w]
          exact i3
        · rw [if_neg (by rw [decide_eq_false w]; exact Bool.false_ne_true), if_neg w]
          exact v_at (i := 6) rfl
      · unfold esU
        rw [List.map_map]
        rfl
    · rw [decide_eq_false z] at q0
      have ml : ((nbr 0 es).map fun q => if q.1 = one then some 41 else q.2).length = es.length := by rw [List.length_map, nbr_len]
      have mm : mk ((nbr 0 es).map fun q => if q.1 = one then some 41 else q.2) es := by
        unfold mk
        conv => rhs; rw [← nbr_snd es 0]
        rw [List.map_map, List.map_map]
        refine List.map_congr_left fun q hq => ?_
        show (if q.1 = one then some 41 else q.2).isSome = q.2.isSome
        split
        · rename_i e
          obtain ⟨_, q2⟩ := nbr_at es 0 q hq
          rw [Nat.sub_zero, e, x1e] at q2
          rw [← Option.some.inj q2]
          rfl
        · rfl
      refine ⟨num ((nbr 0 es).map fun q => if q.1 = one then some 41 else q.2), h3, H3, mk_trans (num_mk _) mm, num_can _, ?_⟩
      refine fs_old (n := 7) (mb := b_u_law_near) (env := [some (.loc 0), some (.lst (esU es)), none, none, none, none, none]) rfl ?_ (Old.hand H3.under) (by unfold U.under; exact esU_und _)
      unfold b_u_law_near
      refine seq_n (asg_ok (i := 2) pl) (seq_n (if_no em' rfl) (seq_n (asgT2 tp) (seq_n (if_no q0 rfl) (ret_ok (call1 rfl (x := .lst (esU ((nbr 0 es).map fun q => if q.1 = one then some 41 else q.2))) ?_ (lnumN _ _ (by omega))))))) 
      refine (comp_genF (st := h3 :: st) (g := fun _ => True) (mi := iEnumA (aCons (eVar 1) aNil)) (env := [some (.loc 0), some (.lst (esU es)), some (.lst ((p0 :: ps).map fun q => U.int (q.1 : Nat))), some (.int (one : Nat)), some (.int (oth : Nat)), none, none]) nbU (fun q => eU (if q.1 = one then some 41 else q.2)) (fun _ => true) (as := nbr 0 es) (by rw [nbr_en]; rfl) (fun _ => True.intro) (by rw [nbr_len]; omega) (fun q _ acc => ?_) (fun _ _ _ => eU_und _)).trans ?_
      · refine ⟨[some (.loc 0), some (.lst (esU es)), some (.lst ((p0 :: ps).map fun q => U.int (q.1 : Nat))), some (.int (one : Nat)), some (.int (oth : Nat)), some (.int (q.1 : Nat)), some (eU q.2)], rfl, rfl, fun _ => ?_⟩
        have w0 : eOp fEq (eVar 5) (eVar 3) [some (.loc 0), some (.lst (esU es)), some (.lst ((p0 :: ps).map fun q => U.int (q.1 : Nat))), some (.int (one : Nat)), some (.int (oth : Nat)), some (.int (q.1 : Nat)), some (eU q.2)] ((h3 :: st) ++ [.lst acc]) = Out.ok (.bl (decide (((q.1 : Nat) : Int) = ((one : Nat) : Int)))) ((h3 :: st) ++ [.lst acc]) := op2 (S1 := (h3 :: st) ++ [.lst acc]) (S2 := (h3 :: st) ++ [.lst acc]) (v_at (i := 5) rfl) (v_at (i := 3) rfl) fEq_int
        refine (eif_at (tB_of w0)).trans ?_
        by_cases w : q.1 = one
        · rw [if_pos (decide_eq_true (by rw [w])), if_pos w]
          rfl
        · rw [decide_eq_false (fun z : ((q.1 : Nat) : Int) = ((one : Nat) : Int) => w (Int.ofNat.inj z)), if_neg Bool.false_ne_true, if_neg w]
          exact v_at (i := 6) rfl
      · rw [all_yes]
        unfold esU
        rw [List.map_map]
        rfl
end
end G

namespace G
open PySem L2 NK
theorem es_ok (es : Ent) : okU 12 (.lst (esU es)) = true := by
  show (esU es).all (okU 11) = true
  rw [List.all_eq_true]
  intro u hu
  obtain ⟨o, _, rfl⟩ := List.mem_map.mp hu
  cases o <;> rfl
section
variable {S : Sto} {env : NK.Env} {m1 m2 : ME} {es fs hs : Ent}
theorem par3_ok {i j k : Nat} {ma : MA} {a b c : U} {S1 : Sto} (h : ma env S = Out.ok [a, b, c] S1) : sPar3 i j k ma env S = SO.next (((env.set i (some a)).set j (some b)).set k (some c)) S1 := by
  unfold sPar3
  rw [h]
  rfl
theorem peq (h1 : m1 env S = Out.ok (patI es) S) (h2 : m2 env S = Out.ok (patI fs) S) : eOp (fEqO 3 [.o 3] m_Pattern___eq) m1 m2 env S = Out.ok (.bl (decide (es = fs))) S := op2 (S1 := S) (S2 := S) h1 h2 (own_eq (pat_eq True.intro) (t := .o 3) rfl (by simp))
theorem peqT (h1 : m1 env S = Out.ok (patI es) S) (h2 : m2 env S = Out.ok (patI fs) S) (e : es = fs) : NK.tNot (NK.tB (eOp (fEqO 3 [.o 3] m_Pattern___eq) m1 m2)) env S = Out.ok false S := by
  have h := peq h1 h2
  rw [decide_eq_true e] at h
  exact notK (b := true) (tB_of h)
theorem por (h1 : m1 env S = Out.ok (patI es) S) (h2 : m2 env S = Out.ok (patI fs) S) (m : mk es fs) (hl : es.length ≤ 40) : eBinO 3 m_Pattern___or m1 m2 env S = Out.ok (patI (orE es fs)) S := binO_at h1 h2 rfl (or_ok m hl)
theorem pan (h1 : m1 env S = Out.ok (patI es) S) (h2 : m2 env S = Out.ok (patI fs) S) (m : mk es fs) (hl : es.length ≤ 40) : eBinO 3 m_Pattern___and m1 m2 env S = Out.ok (patI (anE es fs)) S := binO_at h1 h2 rfl (and_ok m hl)
theorem lst_ent {i : Nat} (h : env[i]? = some (some (patI es))) : eScope (eCB fList (aCons (eFld 3 0 (eVar i)) aNil)) env S = Out.ok (.lst (esU es)) S := by
  unfold eScope
  rw [show eCB fList (aCons (eFld 3 0 (eVar i)) aNil) env S = Out.ok (.loc S.length) (S ++ [.lst (esU es)]) from cb1 (S1 := S) (fld_at h rfl) rfl]
  exact sc_lit rfl (esU_und _)
theorem bne {a b : Bool} (h1 : m1 env S = Out.ok (.bl a) S) (h2 : m2 env S = Out.ok (.bl b) S) (e : a = b) : eOp fNe m1 m2 env S = Out.ok (.bl false) S := by
  subst e
  exact op2 (S1 := S) (S2 := S) h1 h2 (ne_same rfl)
theorem lne {us : List U} (h1 : m1 env S = Out.ok (.lst (esU es)) S) (h2 : m2 env S = Out.ok (.lst (esU es)) S) : eOp fNe m1 m2 env S = Out.ok (.bl false) S := op2 (S1 := S) (S2 := S) h1 h2 (ne_same (es_ok es))
theorem leq (h1 : m1 env S = Out.ok (.lst (esU es)) S) (h2 : m2 env S = Out.ok (.lst (esU es)) S) : eOp fEq m1 m2 env S = Out.ok (.bl true) S := op2 (S1 := S) (S2 := S) h1 h2 (eq_same (es_ok es))
theorem fin_self (es : Ent) : finGo [] es es = true := (finGo_ok rfl).mpr fun _ _ h => h
theorem bool_iff {a b : Bool} (h : a = true ↔ b = true) : a = b := by
  cases a <;> cases b
  · rfl
  · exact absurd (h.mpr rfl) Bool.false_ne_true
  · exact absurd (h.mp rfl) Bool.false_ne_true
  · rfl
theorem pair_ok (c1 : Can es) (c2 : Can fs) (m : mk es fs) (hl : es.length ≤ 40) : m_u_law_pair_right [.lst (esU es), .lst (esU fs)] S = Out.ok (.bl true) S := by
  have l := mk_len m
  have hl2 : fs.length ≤ 40 := by omega
  refine fs_same (n := 6) (mb := b_u_law_pair_right) (env := [some (.lst (esU es)), some (.lst (esU fs)), none, none, none, none]) rfl ?_ rfl
  have p0 : eScope (eMake 3 2 m_Pattern___init [] (aCons (eVar 0) aNil)) [some (.lst (esU es)), some (.lst (esU fs)), none, none, none, none] S = Out.ok (patI es) S := make_at (.l es) c1 hl (v_at (i := 0) rfl)
  have p1 : eScope (eMake 3 2 m_Pattern___init [] (aCons (eVar 1) aNil)) [some (.lst (esU es)), some (.lst (esU fs)), none, none, none, none] S = Out.ok (patI fs) S := make_at (.l fs) c2 hl2 (v_at (i := 1) rfl)
  have v0 : ∀ {e4 e5 : Option U}, eVar 0 [some (.lst (esU es)), some (.lst (esU fs)), some (patI es), some (patI fs), e4, e5] S = Out.ok (.lst (esU es)) S := fun {_ _} => v_at (i := 0) rfl
  have v1 : ∀ {e4 e5 : Option U}, eVar 1 [some (.lst (esU es)), some (.lst (esU fs)), some (patI es), some (patI fs), e4, e5] S = Out.ok (.lst (esU fs)) S := fun {_ _} => v_at (i := 1) rfl
  have v2 : ∀ {e4 e5 : Option U}, eVar 2 [some (.lst (esU es)), some (.lst (esU fs)), some (patI es), some (patI fs), e4, e5] S = Out.ok (patI es) S := fun {_ _} => v_at (i := 2) rfl
  have v3 : ∀ {e4 e5 : Option U}, eVar 3 [some (.lst (esU es)), some (.lst (esU fs)), some (patI es), some (patI fs), e4, e5] S = Out.ok (patI fs) S := fun {_ _} => v_at (i := 3) rfl
  have v4 : eVar 4 [some (.lst (esU es)), some (.lst (esU fs)), some (patI es), some (patI fs), some (patI (orE es fs)), some (patI (anE es fs))] S = Out.ok (patI (orE es fs)) S := v_at (i := 4) rfl
  have v5 : eVar 5 [some (.lst (esU es)), some (.lst (esU fs)), some (patI es), some (patI fs), some (patI (orE es fs)), some (patI (anE es fs))] S = Out.ok (patI (anE es fs)) S := v_at (i := 5) rfl
  have lf : ∀ {e4 e5 : Option U}, eCall 2 m_u_law_finer [] (aCons (eVar 0) (aCons (eVar 1) aNil)) [some (.lst (esU es)), some (.lst (esU fs)), some (patI es), some (patI fs), e4, e5] S = Out.ok (.bl (finGo [] es fs)) S := fun {_ _} => call2 rfl v0 v1 (lawfin_ok m (by omega))
  have t1 : NK.tNot (NK.tTru (eCall 2 m_u_law_is [] (aCons (eCall 2 m_is_finer [] (aCons (eVar 2) (aCons (eVar 3) aNil))) (aCons (eCall 2 m_u_law_finer [] (aCons (eVar 0) (aCons (eVar 1) aNil))) aNil)))) [some (.lst (esU es)), some (.lst (esU fs)), some (patI es), some (patI fs), none, none] S = Out.ok false S := by
    have q := call2 (env := [some (.lst (esU es)), some (.lst (esU fs)), some (patI es), some (patI fs), none, none]) (k := 2) rfl (call2 (k := 2) rfl v2 v3 (finer_ok m hl)) lf (is_ok (S := S) (finGo [] es fs) (finGo [] es fs))
    rw [beq_self_eq_true] at q
    exact notK (b := true) (truK q)
  have t2 : NK.tNot (NK.tTru (eCall 2 m_u_law_is [] (aCons (eCall 2 m_is_finer [] (aCons (eVar 2) (aCons (eVar 2) aNil))) (aCons (eC (.bl true)) aNil)))) [some (.lst (esU es)), some (.lst (esU fs)), some (patI es), some (patI fs), none, none] S = Out.ok false S := by
    have q := call2 (env := [some (.lst (esU es)), some (.lst (esU fs)), some (patI es), some (patI fs), none, none]) (k := 2) (b := eC (.bl true)) (y := .bl true) rfl (call2 (k := 2) rfl v2 v2 (finer_ok (es := es) (fs := es) rfl hl)) rfl (is_ok (S := S) (finGo [] es es) true)
    rw [fin_self] at q
    exact notK (b := true) (truK q)
  have mo : mk (orE es fs) es := or_mk' m
  have ma : mk (anE es fs) es := anE_mk m
  have lo := orE_len es fs
  have la := anE_len m
  unfold b_u_law_pair_right
  refine seq_n (par_ok (acN p0 (ac1 p1))) (seq_n (if_f (or_ff t1 t2) rfl) (seq_n (par_ok (acN (por v2 v3 m hl) (ac1 (pan v2 v3 m hl)))) ?_))
  refine seq_n (if_f (or_ff (tB_of (lne (us := []) (lst_ent (i := 4) rfl) (call2 rfl v0 v1 (above_ok m (by omega))))) (tB_of (lne (us := []) (lst_ent (i := 5) rfl) (call2 rfl v0 v1 (beneath_ok m (by omega)))))) rfl) ?_
  refine seq_n (if_f (or_ff (peqT (por v3 v2 (mk_symm m) hl2) v4 (or_comm' m)) (or_ff (peqT (pan v3 v2 (mk_symm m) hl2) v5 (an_comm' m)) (peqT (por v2 v2 rfl hl) v2 (or_self' c1)))) rfl) ?_
  refine seq_n (if_f (or_ff (peqT (pan v2 v2 rfl hl) v2 (an_self' c1)) (or_ff (peqT (por v2 v5 (mk_symm ma) hl) v2 (or_an c1 m)) (peqT (pan v2 v4 (mk_symm mo) hl) v2 (an_or c1 m)))) rfl) ?_
  refine seq_n (if_f (or_ff (tB_of (bne lf (peq v4 v3) (bool_iff ?_))) (tB_of (bne lf (peq v5 v2) (bool_iff ?_)))) rfl) (ret_ok ?_)
  · rw [decide_eq_true_iff]
    exact (finGo_ok m).trans (fin_or c2 m)
  · rw [decide_eq_true_iff]
    exact (finGo_ok m).trans (fin_an c1 m)
  · exact and_at (leq (lst_ent (i := 2) rfl) v0) (leq (lst_ent (i := 3) rfl) v1)
theorem three_ok (c1 : Can es) (c2 : Can fs) (c3 : Can hs) (m : mk es fs) (m2 : mk fs hs) (hl : es.length ≤ 40) : m_u_law_three_right [.lst (esU es), .lst (esU fs), .lst (esU hs)] S = Out.ok (.bl true) S := by
  have l := mk_len m
  have l2 := mk_len m2
  have hl2 : fs.length ≤ 40 := by omega
  have hl3 : hs.length ≤ 40 := by omega
  have m3 : mk es hs := mk_trans m m2
  refine fs_same (n := 6) (mb := b_u_law_three_right) (env := [some (.lst (esU es)), some (.lst (esU fs)), some (.lst (esU hs)), none, none, none]) rfl ?_ rfl
  have p0 : eScope (eMake 3 2 m_Pattern___init [] (aCons (eVar 0) aNil)) [some (.lst (esU es)), some (.lst (esU fs)), some (.lst (esU hs)), none, none, none] S = Out.ok (patI es) S := make_at (.l es) c1 hl (v_at (i := 0) rfl)
  have p1 : eScope (eMake 3 2 m_Pattern___init [] (aCons (eVar 1) aNil)) [some (.lst (esU es)), some (.lst (esU fs)), some (.lst (esU hs)), none, none, none] S = Out.ok (patI fs) S := make_at (.l fs) c2 hl2 (v_at (i := 1) rfl)
  have p2 : eScope (eMake 3 2 m_Pattern___init [] (aCons (eVar 2) aNil)) [some (.lst (esU es)), some (.lst (esU fs)), some (.lst (esU hs)), none, none, none] S = Out.ok (patI hs) S := make_at (.l hs) c3 hl3 (v_at (i := 2) rfl)
  have v0 : eVar 0 [some (.lst (esU es)), some (.lst (esU fs)), some (.lst (esU hs)), some (patI es), some (patI fs), some (patI hs)] S = Out.ok (.lst (esU es)) S := v_at (i := 0) rfl
  have v1 : eVar 1 [some (.lst (esU es)), some (.lst (esU fs)), some (.lst (esU hs)), some (patI es), some (patI fs), some (patI hs)] S = Out.ok (.lst (esU fs)) S := v_at (i := 1) rfl
  have v2 : eVar 2 [some (.lst (esU es)), some (.lst (esU fs)), some (.lst (esU hs)), some (patI es), some (patI fs), some (patI hs)] S = Out.ok (.lst (esU hs)) S := v_at (i := 2) rfl
  have v3 : eVar 3 [some (.lst (esU es)), some (.lst (esU fs)), some (.lst (esU hs)), some (patI es), some (patI fs), some (patI hs)] S = Out.ok (patI es) S := v_at (i := 3) rfl
  have v4 : eVar 4 [some (.lst (esU es)), some (.lst (esU fs)), some (.lst (esU hs)), some (patI es), some (patI fs), some (patI hs)] S = Out.ok (patI fs) S := v_at (i := 4) rfl
  have v5 : eVar 5 [some (.lst (esU es)), some (.lst (esU fs)), some (.lst (esU hs)), some (patI es), some (patI fs), some (patI hs)] S = Out.ok (patI hs) S := v_at (i := 5) rfl
  have mo : mk (orE es fs) hs := mk_trans (or_mk' m) m3
  have ma : mk (anE es fs) hs := mk_trans (anE_mk m) m3
  have mo2 : mk es (orE fs hs) := mk_trans m (mk_symm (or_mk' m2))
  have ma2 : mk es (anE fs hs) := mk_trans m (mk_symm (anE_mk m2))
  have lo := orE_len es fs
  have la := anE_len m
  unfold b_u_law_three_right
  refine seq_n (par3_ok (acN p0 (acN p1 (ac1 p2)))) ?_
  refine seq_n (if_f (tB_of (bne (call2 rfl (por v3 v4 m hl) v5 (finer_ok mo (by omega))) (and_at (call2 rfl v0 v2 (lawfin_ok m3 (by omega))) (call2 rfl v1 v2 (lawfin_ok m2 (by omega)))) (bool_iff ?_))) rfl) ?_
  · rw [Bool.and_eq_true]
    exact (finGo_ok mo).trans ((or_fin m).trans (and_congr (finGo_ok m3).symm (finGo_ok m2).symm))
  refine seq_n (if_f (tB_of (bne (call2 rfl v5 (pan v3 v4 m hl) (finer_ok (mk_symm ma) (by omega))) (and_at (call2 rfl v2 v0 (lawfin_ok (mk_symm m3) (by omega))) (call2 rfl v2 v1 (lawfin_ok (mk_symm m2) (by omega)))) (bool_iff ?_))) rfl) ?_
  · rw [Bool.and_eq_true]
    exact (finGo_ok (mk_symm ma)).trans (an_fin.trans (and_congr (finGo_ok (mk_symm m3)).symm (finGo_ok (mk_symm m2)).symm))
  refine seq_n (if_f (peqT (por (por v3 v4 m hl) v5 mo (by omega)) (por v3 (por v4 v5 m2 hl2) mo2 hl) (or_assoc' m m2)) rfl) (ret_ok ?_)
  have q := peq (pan (pan v3 v4 m hl) v5 ma (by omega)) (pan v3 (pan v4 v5 m2 hl2) ma2 hl)
  rw [decide_eq_true (an_assoc' m m2)] at q
  exact q
end
end G

namespace G
open PySem L2 NK
section
variable {st : Sto} {h : Ob}
theorem law_true (ns : List Int) (hl : ns.length ≤ 63) : m_law [.scr (ns.map U.int)] [] = .ok (.bl true) [] := by
  obtain ⟨h0, H0, k0⟩ := hand_ok ns hl
  obtain ⟨bs, h1, H1, bl, k1⟩ := mask_ok (st := []) H0
  obtain ⟨es, h2, H2, e2, c2, k2⟩ := on_ok (st := []) H1 bl
  have les : es.length = bs.length := by rw [← e2, List.length_map]
  have E3 : ∃ fs h3, HOb h3 ∧ mk fs es ∧ Can fs ∧ eIf (NK.tB (eOp fEq (eCall 2 m_u_law_draw [] (aCons (eVar 1) (aCons (eC (.int 2)) aNil))) (eC (.int 0)))) (eCall 2 m_u_law_near [] (aCons (eVar 1) (aCons (eVar 3) aNil))) (eCall 2 m_u_law_on [] (aCons (eVar 1) (aCons (eVar 2) aNil))) [some (.scr (ns.map U.int)), some (.loc 0), some (.lst (bs.map U.bl)), some (.lst (esU es)), none, none, none, none, none] [h2] = Out.ok (.lst (esU fs)) [h3] := by
    obtain ⟨d, h', H', _, k⟩ := draw_at (st := []) (env := [some (.scr (ns.map U.int)), some (.loc 0), some (.lst (bs.map U.bl)), some (.lst (esU es)), none, none, none, none, none]) (j := 1) (k := 2) H2 rfl (by decide) (by decide)
    have q := tB_of (op2 (m2 := eC (.int 0)) (b := .int 0) (S2 := [h']) k rfl fEq_int)
    by_cases z : ((d : Nat) : Int) = 0
    · rw [decide_eq_true z] at q
      obtain ⟨fs, h3, H3, m, c, k3⟩ := near_ok (st := []) H' c2 (by omega)
      exact ⟨fs, h3, H3, m, c, (eif_at q).trans (call2 rfl (v_at (i := 1) rfl) (v_at (i := 3) rfl) k3)⟩
    · rw [decide_eq_false z] at q
      obtain ⟨fs, h3, H3, e, c, k3⟩ := on_ok (st := []) H' bl
      exact ⟨fs, h3, H3, e.trans e2.symm, c, (eif_at q).trans (call2 rfl (v_at (i := 1) rfl) (v_at (i := 2) rfl) k3)⟩
  obtain ⟨fs, h3, H3, m3, c3, k3⟩ := E3
  have lfs := mk_len m3
  obtain ⟨a1, h4, H4, e4, c4, k4⟩ := on_ok (st := []) H3 bl
  obtain ⟨a2, h5, H5, m5, c5, k5⟩ := near_ok (st := []) H4 c3 (by omega)
  have m4 : mk a1 es := e4.trans e2.symm
  have mef : mk es fs := mk_symm m3
  obtain ⟨u, h6, hu, H6, k6⟩ := pick_ok (st := []) H5 (us := [.lst (esU a1), .lst (esU a2), .lst (esU (orE es fs)), .lst (esU (anE es fs))]) (by simp) (by show 4 ≤ 1000; decide)
  have P : ∃ hs, u = .lst (esU hs) ∧ mk hs es ∧ Can hs := by
    simp only [List.mem_cons, List.not_mem_nil, or_false] at hu
    rcases hu with rfl | rfl | rfl | rfl
    · exact ⟨a1, rfl, m4, c4⟩
    · exact ⟨a2, rfl, mk_trans m5 m3, c5⟩
    · exact ⟨_, rfl, or_mk' mef, orE_can⟩
    · exact ⟨_, rfl, anE_mk mef, anE_can⟩
  obtain ⟨hs, rfl, mh, ch⟩ := P
  have lhs := mk_len mh
  obtain ⟨b2, h7, H7, bl2, k7⟩ := mask_ok (st := []) H6
  obtain ⟨ss, h8, H8, e8, c8, k8⟩ := on_ok (st := []) H7 bl2
  have lss : ss.length = b2.length := by rw [← e8, List.length_map]
  obtain ⟨ts, h9, H9, e9, c9, k9⟩ := on_ok (st := []) H8 (bs := bs.map fun b => !b) (by rw [List.length_map]; exact bl)
  have lts : ts.length = bs.length := by rw [← List.length_map (f := Option.isSome) (as := ts), e9, List.length_map]
  have mfh : mk fs hs := mk_trans m3 (mk_symm mh)
  refine fs_val (n := 9) (mb := b_law) (env := [some (.scr (ns.map U.int)), none, none, none, none, none, none, none, none]) (st2 := []) (ext := [h9]) rfl ?_ (Old.refl []) rfl
  have lt : eScope (eLst (aCons (eCall 2 m_u_law_on [] (aCons (eVar 1) (aCons (eVar 2) aNil))) (aCons (eCall 2 m_u_law_near [] (aCons (eVar 1) (aCons (eVar 4) aNil))) (aCons (eCall 2 m_u_law_above [] (aCons (eVar 3) (aCons (eVar 4) aNil))) (aCons (eCall 2 m_u_law_beneath [] (aCons (eVar 3) (aCons (eVar 4) aNil))) aNil))))) [some (.scr (ns.map U.int)), some (.loc 0), some (.lst (bs.map U.bl)), some (.lst (esU es)), some (.lst (esU fs)), none, none, none, none] [h3] = Out.ok (.lst [.lst (esU a1), .lst (esU a2), .lst (esU (orE es fs)), .lst (esU (anE es fs))]) [h5] := by
    refine lit_drw (S := [h3]) (S' := [h5]) (acN (S1 := [h4]) (call2 rfl (v_at (i := 1) rfl) (v_at (i := 2) rfl) k4) (acN (S1 := [h5]) (call2 rfl (v_at (i := 1) rfl) (v_at (i := 4) rfl) k5) (acN (S1 := [h5]) (call2 rfl (v_at (i := 3) rfl) (v_at (i := 4) rfl) (above_ok mef (by omega))) (ac1 (call2 rfl (v_at (i := 3) rfl) (v_at (i := 4) rfl) (beneath_ok mef (by omega))))))) (Old.hand H5.under) (by show 4 ≤ 1000; decide) ?_
    simp only [U.underL, U.under, esU_und, Bool.and_self]
  have no : ∀ {m : ME} {env : NK.Env} {S S1 : Sto}, m env S = Out.ok (.bl true) S1 → NK.tNot (NK.tTru m) env S = Out.ok false S1 := fun h => notK (b := true) (truK h)
  have nb : ∀ {e3 e4 e5 e6 : Option U}, eScope (eComp (iSeq (eVar 2)) (gN 8) NK.tYes (eNot (eVar 8)) [8]) [some (.scr (ns.map U.int)), some (.loc 0), some (.lst (bs.map U.bl)), e3, e4, e5, e6, none, none] [h8] = Out.ok (.lst ((bs.map fun b => !b).map U.bl)) [h8] := fun {e3 e4 e5 e6} => by
    refine (comp_all (st := [h8]) (i := 8) (g := fun _ => True) (as := bs) U.bl (fun b => U.bl (!b)) rfl (fun _ => True.intro) (by omega) (fun b _ acc => ?_) (fun _ _ => rfl)).trans ?_
    · show eNot (eVar 8) [some (.scr (ns.map U.int)), some (.loc 0), some (.lst (bs.map U.bl)), e3, e4, e5, e6, none, some (.bl b)] ([h8] ++ [.lst acc]) = _
      unfold eNot
      rw [v_at (i := 8) (u := .bl b) rfl, ob]
    · rw [List.map_map]
      rfl
  unfold b_law
  refine seq_n (asg_ok (i := 1) (S1 := [h0]) (call1 rfl (v_at (i := 0) rfl) k0)) (seq_n (asg_ok (i := 2) (S1 := [h1]) (call1 rfl (v_at (i := 1) rfl) k1)) (seq_n (asg_ok (i := 3) (S1 := [h2]) (call2 rfl (v_at (i := 1) rfl) (v_at (i := 2) rfl) k2)) (seq_n (asg_ok (i := 4) (S1 := [h3]) k3) (seq_n (asg_ok (i := 5) (S1 := [h6]) (call2m rfl (v_at (i := 1) rfl) lt k6)) ?_))))
  refine seq_n (if_f (or_ff (no (call2 rfl (v_at (i := 3) rfl) (v_at (i := 4) rfl) (pair_ok c2 c3 mef (by omega)))) (or_ff (no (call2 rfl (v_at (i := 4) rfl) (v_at (i := 5) rfl) (pair_ok c3 ch mfh (by omega)))) (no (call2 rfl (v_at (i := 5) rfl) (v_at (i := 3) rfl) (pair_ok ch c2 mh (by omega)))))) rfl) ?_
  refine seq_n (if_f (or_ff (no (call3 rfl (v_at (i := 3) rfl) (v_at (i := 4) rfl) (v_at (i := 5) rfl) (three_ok c2 c3 ch mef mfh (by omega)))) (no (call3 rfl (v_at (i := 5) rfl) (v_at (i := 4) rfl) (v_at (i := 3) rfl) (three_ok ch c3 c2 (mk_symm mfh) m3 (by omega))))) rfl) ?_
  refine seq_n (asg_ok (i := 6) (S1 := [h8]) (call2m rfl (v_at (i := 1) rfl) (call1 rfl (v_at (i := 1) rfl) k7) k8)) (seq_n (asg_ok (i := 7) nb) ?_)
  refine seq_n (if_f (or_ff (no (call2 rfl (v_at (i := 3) rfl) (v_at (i := 6) rfl) (unm_ok c2 c8 (by omega) (by omega)))) (no (call2m rfl (v_at (i := 4) rfl) (call2 rfl (v_at (i := 1) rfl) (v_at (i := 7) rfl) k9) (unm_ok c3 c9 (by omega) (by omega))))) rfl) (ret_ok ?_)
  exact and_at (call2 rfl (v_at (i := 3) rfl) (v_at (i := 4) rfl) (unm_ok c2 c3 (by omega) (by omega))) (call2 rfl (v_at (i := 3) rfl) (v_at (i := 4) rfl) (pair_ok c2 c3 mef (by omega)))
end
end G

set_option maxHeartbeats 4000000
namespace G
open PySem L2 NK
theorem kit_ref {K : PySem.W.Frag} {C : Addr} {t : Value} {b : Bool} (hne : (t == .ref C) = true → b = true) (hc : PySem.W.isClsIn K C = true) (ht : PySem.W.typeIn K (.ref C) = some (.type "type")) (hs : PySem.W.subIn K t (.ref C) = some b) : PySem.W.kitOne K t (.ref C) = some b := by
  unfold PySem.W.kitOne
  split
  · rename_i h
    rw [hne h]
  · have hc' : (PySem.W.clsIn K C).isSome = true := hc
    have e2 : ((PySem.W.clsIn K C).isSome && PySem.W.typeIn K (.ref C) == some (.type "type")) = true := by
      rw [hc', ht]
      rfl
    show (if ((PySem.W.clsIn K C).isSome && PySem.W.typeIn K (.ref C) == some (.type "type")) = true then PySem.W.subIn K t (.ref C) else none) = some b
    rw [if_pos e2]
    exact hs
theorem lookup_mem {l : List (Str × NameKind)} {y : Str} {v : NameKind} (h : l.lookup y = some v) : (y, v) ∈ l := by
  induction l with
  | nil => cases h
  | cons p l ih =>
    obtain ⟨x, u⟩ := p
    rw [List.lookup] at h
    split at h
    · rename_i e
      cases h
      rw [beq_iff_eq.mp e]
      exact List.mem_cons_self
    · exact List.mem_cons_of_mem _ (ih h)
def spLaw (K : PySem.W.Frag) (P : Addr) : Sp := fun vs H Q _ => ∃ (a : Addr) (ns : List Int), vs = [V.ref a] ∧ SqL K H a (ns.map V.int) ∧ ns.length ≤ 63 ∧ H P = some (.tbl #[]) ∧ ∀ H', Q (V.bl true) H'
theorem law_spec {w : World} {K : PySem.W.Frag} {a : Ad} (vs : List V) (H : Hp) (Q : VK) (E : XK) (h : spLaw K a.p_u_law_unmatched_right vs H Q E) : spOf (tb w K a) 1 m_law vs H Q E := by
  obtain ⟨b, ns, rfl, hS, hl, hP, k⟩ := h
  refine ⟨rfl, ⟨fun _ => 0, 0, begF H b, fun _ => none⟩, _, [], beg_rh (T := tb w K a) (fun p hp => by cases List.mem_singleton.mp hp; exact hP), .one (.scr (beg_sq hS) (rpl_ints ns)), ?_⟩
  rw [law_true ns hl]
  intro c' v H' _ _ r
  cases r.inv_bl
  exact k H'

theorem all_mk {w : World} {K : PySem.W.Frag} {h : Heap} {mg : Str → Option Value} {fa : Addr} (X : K.In h) (G : h.Ns mainGlobals mg) (hfa : mg "law" = some (.ref fa))
    {tk_MOST_PLACES : _}
    {C_CustomError C_BadPattern C_BadMatch C_Pattern : Addr}
    {f_u_law_hand f_u_law_mix f_u_law_draw f_u_law_pick f_u_law_mask f_u_law_on f_u_law_numbers f_u_law_near f_u_law_match_word f_entries_fault f_BadPattern___init f_Pattern___init f_u_law_word f_BadMatch___init f_check_match f_is_finer f_class_numbers f_merged_marks f_Pattern___or f_Pattern___and f_u_law_unmatched_right f_u_law_is f_u_law_above f_u_law_beneath f_Pattern___eq f_u_law_finer f_u_law_pair_right f_u_law_three_right f_law : Addr}
    {od_u_law_hand an_u_law_hand : Option Addr} {sl_u_law_hand : Array (Option Value)} {oc_u_law_hand kV_u_law_hand dc_u_law_hand pm_u_law_hand ct_u_law_hand : Value}
    {cd_u_law_hand : Value}
    {od_u_law_mix an_u_law_mix : Option Addr} {sl_u_law_mix : Array (Option Value)} {oc_u_law_mix kV_u_law_mix dc_u_law_mix pm_u_law_mix ct_u_law_mix : Value}
    {cd_u_law_mix : Value}
    {od_u_law_draw an_u_law_draw : Option Addr} {sl_u_law_draw : Array (Option Value)} {oc_u_law_draw kV_u_law_draw dc_u_law_draw pm_u_law_draw ct_u_law_draw : Value}
    {cd_u_law_draw : Value}
    {od_u_law_pick an_u_law_pick : Option Addr} {sl_u_law_pick : Array (Option Value)} {oc_u_law_pick kV_u_law_pick dc_u_law_pick pm_u_law_pick ct_u_law_pick : Value}
    {cd_u_law_pick : Value}
    {od_u_law_mask an_u_law_mask : Option Addr} {sl_u_law_mask : Array (Option Value)} {oc_u_law_mask kV_u_law_mask dc_u_law_mask pm_u_law_mask ct_u_law_mask : Value}
    {cd_u_law_mask : Value}
    {od_u_law_on an_u_law_on : Option Addr} {sl_u_law_on : Array (Option Value)} {oc_u_law_on kV_u_law_on dc_u_law_on pm_u_law_on ct_u_law_on : Value}
    {cd_u_law_on : Value}
    {od_u_law_numbers an_u_law_numbers : Option Addr} {sl_u_law_numbers : Array (Option Value)} {oc_u_law_numbers kV_u_law_numbers dc_u_law_numbers pm_u_law_numbers ct_u_law_numbers : Value}
    {cd_u_law_numbers : Value}
    {od_u_law_near an_u_law_near : Option Addr} {sl_u_law_near : Array (Option Value)} {oc_u_law_near kV_u_law_near dc_u_law_near pm_u_law_near ct_u_law_near : Value}
    {cd_u_law_near : Value}
    {od_u_law_match_word an_u_law_match_word : Option Addr} {sl_u_law_match_word : Array (Option Value)} {oc_u_law_match_word kV_u_law_match_word dc_u_law_match_word pm_u_law_match_word ct_u_law_match_word : Value}
    {cd_u_law_match_word : Value}
    {od_entries_fault an_entries_fault : Option Addr} {sl_entries_fault : Array (Option Value)} {oc_entries_fault kV_entries_fault dc_entries_fault pm_entries_fault ct_entries_fault : Value}
    {cd_entries_fault : Value}
    {od_BadPattern___init an_BadPattern___init : Option Addr} {sl_BadPattern___init : Array (Option Value)} {oc_BadPattern___init kV_BadPattern___init dc_BadPattern___init pm_BadPattern___init ct_BadPattern___init : Value}
    {cda_BadPattern cc_BadPattern : Addr}
    {ccl_BadPattern : Value} {cdd_BadPattern : Option Addr} {vs_BadPattern : Array Value} {ccs_BadPattern : Array (Option Value)} {file_BadPattern : Str} {tf_BadPattern : _} {cl_BadPattern : Value} {cld_BadPattern : Option Addr} {csl_BadPattern : Array (Option Value)}
    {nm_BadPattern q_BadPattern : Str} {N_BadPattern : Addr} {bs_BadPattern sub_BadPattern : List Value} {sn_BadPattern : List Str} {ab_BadPattern : Bool} {col_BadPattern : Option Bool} {dd_BadPattern : Option Addr} {m0_BadPattern m1_BadPattern m2_BadPattern m3_BadPattern m5_BadPattern : Option Value}
    {od_Pattern___init an_Pattern___init : Option Addr} {sl_Pattern___init : Array (Option Value)} {oc_Pattern___init kV_Pattern___init dc_Pattern___init pm_Pattern___init ct_Pattern___init : Value}
    {cd_Pattern___init : Value}
    {od_u_law_word an_u_law_word : Option Addr} {sl_u_law_word : Array (Option Value)} {oc_u_law_word kV_u_law_word dc_u_law_word pm_u_law_word ct_u_law_word : Value}
    {cd_u_law_word : Value}
    {od_BadMatch___init an_BadMatch___init : Option Addr} {sl_BadMatch___init : Array (Option Value)} {oc_BadMatch___init kV_BadMatch___init dc_BadMatch___init pm_BadMatch___init ct_BadMatch___init : Value}
    {cda_BadMatch cc_BadMatch : Addr}
    {ccl_BadMatch : Value} {cdd_BadMatch : Option Addr} {vs_BadMatch : Array Value} {ccs_BadMatch : Array (Option Value)} {file_BadMatch : Str} {tf_BadMatch : _} {cl_BadMatch : Value} {cld_BadMatch : Option Addr} {csl_BadMatch : Array (Option Value)}
    {nm_BadMatch q_BadMatch : Str} {N_BadMatch : Addr} {bs_BadMatch sub_BadMatch : List Value} {sn_BadMatch : List Str} {ab_BadMatch : Bool} {col_BadMatch : Option Bool} {dd_BadMatch : Option Addr} {m0_BadMatch m1_BadMatch m2_BadMatch m3_BadMatch m5_BadMatch : Option Value}
    {od_check_match an_check_match : Option Addr} {sl_check_match : Array (Option Value)} {oc_check_match kV_check_match dc_check_match pm_check_match ct_check_match : Value}
    {cd_check_match : Value}
    {od_is_finer an_is_finer : Option Addr} {sl_is_finer : Array (Option Value)} {oc_is_finer kV_is_finer dc_is_finer pm_is_finer ct_is_finer : Value}
    {cd_is_finer : Value}
    {od_class_numbers an_class_numbers : Option Addr} {sl_class_numbers : Array (Option Value)} {oc_class_numbers kV_class_numbers dc_class_numbers pm_class_numbers ct_class_numbers : Value}
    {cd_class_numbers : Value}
    {od_merged_marks an_merged_marks : Option Addr} {sl_merged_marks : Array (Option Value)} {oc_merged_marks kV_merged_marks dc_merged_marks pm_merged_marks ct_merged_marks : Value}
    {cd_merged_marks : Value}
    {od_Pattern___or an_Pattern___or : Option Addr} {sl_Pattern___or : Array (Option Value)} {oc_Pattern___or kV_Pattern___or dc_Pattern___or pm_Pattern___or ct_Pattern___or : Value}
    {cd_Pattern___or : Value}
    {od_Pattern___and an_Pattern___and : Option Addr} {sl_Pattern___and : Array (Option Value)} {oc_Pattern___and kV_Pattern___and dc_Pattern___and pm_Pattern___and ct_Pattern___and : Value}
    {cd_Pattern___and : Value}
    {od_u_law_unmatched_right an_u_law_unmatched_right : Option Addr} {sl_u_law_unmatched_right : Array (Option Value)} {oc_u_law_unmatched_right kV_u_law_unmatched_right dc_u_law_unmatched_right pm_u_law_unmatched_right ct_u_law_unmatched_right : Value}
    {q_u_law_unmatched_right p_u_law_unmatched_right : Addr}
    {kc_u_law_unmatched_right : Value} {kd_u_law_unmatched_right : Option Addr} {kv_u_law_unmatched_right : Array Value} {ks_u_law_unmatched_right : Array (Option Value)}
    {od_u_law_is an_u_law_is : Option Addr} {sl_u_law_is : Array (Option Value)} {oc_u_law_is kV_u_law_is dc_u_law_is pm_u_law_is ct_u_law_is : Value}
    {cd_u_law_is : Value}
    {od_u_law_above an_u_law_above : Option Addr} {sl_u_law_above : Array (Option Value)} {oc_u_law_above kV_u_law_above dc_u_law_above pm_u_law_above ct_u_law_above : Value}
    {cd_u_law_above : Value}
    {od_u_law_beneath an_u_law_beneath : Option Addr} {sl_u_law_beneath : Array (Option Value)} {oc_u_law_beneath kV_u_law_beneath dc_u_law_beneath pm_u_law_beneath ct_u_law_beneath : Value}
    {cd_u_law_beneath : Value}
    {od_Pattern___eq an_Pattern___eq : Option Addr} {sl_Pattern___eq : Array (Option Value)} {oc_Pattern___eq kV_Pattern___eq dc_Pattern___eq pm_Pattern___eq ct_Pattern___eq : Value}
    {cd_Pattern___eq : Value}
    {od_u_law_finer an_u_law_finer : Option Addr} {sl_u_law_finer : Array (Option Value)} {oc_u_law_finer kV_u_law_finer dc_u_law_finer pm_u_law_finer ct_u_law_finer : Value}
    {cd_u_law_finer : Value}
    {od_u_law_pair_right an_u_law_pair_right : Option Addr} {sl_u_law_pair_right : Array (Option Value)} {oc_u_law_pair_right kV_u_law_pair_right dc_u_law_pair_right pm_u_law_pair_right ct_u_law_pair_right : Value}
    {cd_u_law_pair_right : Value}
    {od_u_law_three_right an_u_law_three_right : Option Addr} {sl_u_law_three_right : Array (Option Value)} {oc_u_law_three_right kV_u_law_three_right dc_u_law_three_right pm_u_law_three_right ct_u_law_three_right : Value}
    {cd_u_law_three_right : Value}
    {od_law an_law : Option Addr} {sl_law : Array (Option Value)} {oc_law kV_law dc_law pm_law ct_law : Value}
    {cd_law : Value}
    (z_abs : PySem.W.nsIn K mainGlobals "abs" = some none)
    (z_bool : PySem.W.nsIn K mainGlobals "bool" = some none)
    (z_enumerate : PySem.W.nsIn K mainGlobals "enumerate" = some none)
    (z_int : PySem.W.nsIn K mainGlobals "int" = some none)
    (z_isinstance : PySem.W.nsIn K mainGlobals "isinstance" = some none)
    (z_len : PySem.W.nsIn K mainGlobals "len" = some none)
    (z_list : PySem.W.nsIn K mainGlobals "list" = some none)
    (z_range : PySem.W.nsIn K mainGlobals "range" = some none)
    (z_super : PySem.W.nsIn K mainGlobals "super" = some none)
    (z_tuple : PySem.W.nsIn K mainGlobals "tuple" = some none)
    (z_zip : PySem.W.nsIn K mainGlobals "zip" = some none)
    (g_MOST_PLACES : PySem.W.nsIn K mainGlobals "MOST_PLACES" = some (some (.int 40 tk_MOST_PLACES)))
    (a_CustomError : PySem.W.nsIn K mainGlobals "CustomError" = some (some (.ref C_CustomError)))
    (a_BadPattern : PySem.W.nsIn K mainGlobals "BadPattern" = some (some (.ref C_BadPattern)))
    (a_BadMatch : PySem.W.nsIn K mainGlobals "BadMatch" = some (some (.ref C_BadMatch)))
    (a_Pattern : PySem.W.nsIn K mainGlobals "Pattern" = some (some (.ref C_Pattern)))
    (a_u_law_hand : PySem.W.nsIn K mainGlobals "_law_hand" = some (some (.ref f_u_law_hand)))
    (l_u_law_hand : K.lookup f_u_law_hand = some ⟨oc_u_law_hand, od_u_law_hand, .func (PySem.W.fnOf "_law_hand" "_law_hand" (defArgs s_u_law_hand) (defBody s_u_law_hand) (defScope s_u_law_hand) .none kV_u_law_hand dc_u_law_hand pm_u_law_hand an_u_law_hand cd_u_law_hand ct_u_law_hand), sl_u_law_hand⟩)
    (c_u_law_hand : PySem.W.codeIn K cd_u_law_hand "_law_hand" = true)
    (k_u_law_hand : PySem.W.keepIn K (.ref f_u_law_hand) = true)
    (a_u_law_mix : PySem.W.nsIn K mainGlobals "_law_mix" = some (some (.ref f_u_law_mix)))
    (l_u_law_mix : K.lookup f_u_law_mix = some ⟨oc_u_law_mix, od_u_law_mix, .func (PySem.W.fnOf "_law_mix" "_law_mix" (defArgs s_u_law_mix) (defBody s_u_law_mix) (defScope s_u_law_mix) .none kV_u_law_mix dc_u_law_mix pm_u_law_mix an_u_law_mix cd_u_law_mix ct_u_law_mix), sl_u_law_mix⟩)
    (c_u_law_mix : PySem.W.codeIn K cd_u_law_mix "_law_mix" = true)
    (k_u_law_mix : PySem.W.keepIn K (.ref f_u_law_mix) = true)
    (a_u_law_draw : PySem.W.nsIn K mainGlobals "_law_draw" = some (some (.ref f_u_law_draw)))
    (l_u_law_draw : K.lookup f_u_law_draw = some ⟨oc_u_law_draw, od_u_law_draw, .func (PySem.W.fnOf "_law_draw" "_law_draw" (defArgs s_u_law_draw) (defBody s_u_law_draw) (defScope s_u_law_draw) .none kV_u_law_draw dc_u_law_draw pm_u_law_draw an_u_law_draw cd_u_law_draw ct_u_law_draw), sl_u_law_draw⟩)
    (c_u_law_draw : PySem.W.codeIn K cd_u_law_draw "_law_draw" = true)
    (k_u_law_draw : PySem.W.keepIn K (.ref f_u_law_draw) = true)
    (a_u_law_pick : PySem.W.nsIn K mainGlobals "_law_pick" = some (some (.ref f_u_law_pick)))
    (l_u_law_pick : K.lookup f_u_law_pick = some ⟨oc_u_law_pick, od_u_law_pick, .func (PySem.W.fnOf "_law_pick" "_law_pick" (defArgs s_u_law_pick) (defBody s_u_law_pick) (defScope s_u_law_pick) .none kV_u_law_pick dc_u_law_pick pm_u_law_pick an_u_law_pick cd_u_law_pick ct_u_law_pick), sl_u_law_pick⟩)
    (c_u_law_pick : PySem.W.codeIn K cd_u_law_pick "_law_pick" = true)
    (k_u_law_pick : PySem.W.keepIn K (.ref f_u_law_pick) = true)
    (a_u_law_mask : PySem.W.nsIn K mainGlobals "_law_mask" = some (some (.ref f_u_law_mask)))
    (l_u_law_mask : K.lookup f_u_law_mask = some ⟨oc_u_law_mask, od_u_law_mask, .func (PySem.W.fnOf "_law_mask" "_law_mask" (defArgs s_u_law_mask) (defBody s_u_law_mask) (defScope s_u_law_mask) .none kV_u_law_mask dc_u_law_mask pm_u_law_mask an_u_law_mask cd_u_law_mask ct_u_law_mask), sl_u_law_mask⟩)
    (c_u_law_mask : PySem.W.codeIn K cd_u_law_mask "_law_mask" = true)
    (k_u_law_mask : PySem.W.keepIn K (.ref f_u_law_mask) = true)
    (a_u_law_on : PySem.W.nsIn K mainGlobals "_law_on" = some (some (.ref f_u_law_on)))
    (l_u_law_on : K.lookup f_u_law_on = some ⟨oc_u_law_on, od_u_law_on, .func (PySem.W.fnOf "_law_on" "_law_on" (defArgs s_u_law_on) (defBody s_u_law_on) (defScope s_u_law_on) .none kV_u_law_on dc_u_law_on pm_u_law_on an_u_law_on cd_u_law_on ct_u_law_on), sl_u_law_on⟩)
    (c_u_law_on : PySem.W.codeIn K cd_u_law_on "_law_on" = true)
    (k_u_law_on : PySem.W.keepIn K (.ref f_u_law_on) = true)
    (a_u_law_numbers : PySem.W.nsIn K mainGlobals "_law_numbers" = some (some (.ref f_u_law_numbers)))
    (l_u_law_numbers : K.lookup f_u_law_numbers = some ⟨oc_u_law_numbers, od_u_law_numbers, .func (PySem.W.fnOf "_law_numbers" "_law_numbers" (defArgs s_u_law_numbers) (defBody s_u_law_numbers) (defScope s_u_law_numbers) .none kV_u_law_numbers dc_u_law_numbers pm_u_law_numbers an_u_law_numbers cd_u_law_numbers ct_u_law_numbers), sl_u_law_numbers⟩)
    (c_u_law_numbers : PySem.W.codeIn K cd_u_law_numbers "_law_numbers" = true)
    (k_u_law_numbers : PySem.W.keepIn K (.ref f_u_law_numbers) = true)
    (a_u_law_near : PySem.W.nsIn K mainGlobals "_law_near" = some (some (.ref f_u_law_near)))
    (l_u_law_near : K.lookup f_u_law_near = some ⟨oc_u_law_near, od_u_law_near, .func (PySem.W.fnOf "_law_near" "_law_near" (defArgs s_u_law_near) (defBody s_u_law_near) (defScope s_u_law_near) .none kV_u_law_near dc_u_law_near pm_u_law_near an_u_law_near cd_u_law_near ct_u_law_near), sl_u_law_near⟩)
    (c_u_law_near : PySem.W.codeIn K cd_u_law_near "_law_near" = true)
    (k_u_law_near : PySem.W.keepIn K (.ref f_u_law_near) = true)
    (a_u_law_match_word : PySem.W.nsIn K mainGlobals "_law_match_word" = some (some (.ref f_u_law_match_word)))
    (l_u_law_match_word : K.lookup f_u_law_match_word = some ⟨oc_u_law_match_word, od_u_law_match_word, .func (PySem.W.fnOf "_law_match_word" "_law_match_word" (defArgs s_u_law_match_word) (defBody s_u_law_match_word) (defScope s_u_law_match_word) .none kV_u_law_match_word dc_u_law_match_word pm_u_law_match_word an_u_law_match_word cd_u_law_match_word ct_u_law_match_word), sl_u_law_match_word⟩)
    (c_u_law_match_word : PySem.W.codeIn K cd_u_law_match_word "_law_match_word" = true)
    (k_u_law_match_word : PySem.W.keepIn K (.ref f_u_law_match_word) = true)
    (a_entries_fault : PySem.W.nsIn K mainGlobals "entries_fault" = some (some (.ref f_entries_fault)))
    (l_entries_fault : K.lookup f_entries_fault = some ⟨oc_entries_fault, od_entries_fault, .func (PySem.W.fnOf "entries_fault" "entries_fault" (defArgs s_entries_fault) (defBody s_entries_fault) (defScope s_entries_fault) .none kV_entries_fault dc_entries_fault pm_entries_fault an_entries_fault cd_entries_fault ct_entries_fault), sl_entries_fault⟩)
    (c_entries_fault : PySem.W.codeIn K cd_entries_fault "entries_fault" = true)
    (k_entries_fault : PySem.W.keepIn K (.ref f_entries_fault) = true)
    (a_BadPattern___init : PySem.W.findIn K (.ref C_BadPattern) "__init__" = some (some (.ref f_BadPattern___init)))
    (t_BadPattern___init : PySem.W.typeIn K (.ref f_BadPattern___init) = some (.type "function"))
    (l_BadPattern___init : K.lookup f_BadPattern___init = some ⟨oc_BadPattern___init, od_BadPattern___init, .func (PySem.W.ksFn "__init__" "BadPattern.__init__" (defArgs s_BadPattern___init) (defBody s_BadPattern___init) (defScope s_BadPattern___init) .none kV_BadPattern___init dc_BadPattern___init pm_BadPattern___init an_BadPattern___init (.ref cda_BadPattern) ct_BadPattern___init cc_BadPattern), sl_BadPattern___init⟩)
    (c_BadPattern___init : PySem.W.codeIn K (.ref cda_BadPattern) "BadPattern.__init__" = true)
    (k1_BadPattern : K.lookup cda_BadPattern = some ⟨ccl_BadPattern, cdd_BadPattern, .fields vs_BadPattern, ccs_BadPattern⟩)
    (k2_BadPattern : vs_BadPattern[2]? = some (.str file_BadPattern tf_BadPattern))
    (k3_BadPattern : ((PW.main.file : Str) == file_BadPattern) = true)
    (k4_BadPattern : K.lookup cc_BadPattern = some ⟨cl_BadPattern, cld_BadPattern, .cell (some (.ref C_BadPattern)), csl_BadPattern⟩)
    (x_BadPattern : K.lookup C_BadPattern = some (excClassObj nm_BadPattern q_BadPattern C_BadPattern N_BadPattern bs_BadPattern [.ref C_CustomError, .type "ValueError", .type "Exception", .type "BaseException", .type "object"] true sn_BadPattern sub_BadPattern ab_BadPattern col_BadPattern dd_BadPattern m0_BadPattern m1_BadPattern m2_BadPattern m3_BadPattern m5_BadPattern "ValueError.__new__"))
    (sa_BadPattern : PySem.W.findIn K (.ref C_BadPattern) "__setattr__" = some (some (.builtin "object.__setattr__")))
    (ex_BadPattern : PySem.W.subIn K (.ref C_BadPattern) (.type "BaseException") = some true)
    (ty_BadPattern : PySem.W.typeIn K (.ref C_BadPattern) = some (.type "type"))
    (kc_BadPattern : PySem.W.keepIn K (.ref C_BadPattern) = true)
    (ga_BadPattern : PySem.W.findIn K (.ref C_BadPattern) "__getattribute__" = some (some (.builtin "BaseException.__getattribute__")))
    (gg_BadPattern : PySem.W.findIn K (.ref C_BadPattern) "__getattr__" = some none)
    (hd_BadPattern : PySem.W.hasDictIn K C_BadPattern = true)
    (su_BadPattern : PySem.W.ks_superIn K C_BadPattern C_BadPattern "__init__" = some (some (.builtin "ValueError.__init__")))
    (iv_BadPattern : PySem.W.subIn K (.ref C_BadPattern) (.type "ValueError") = some true)
    (se_BadPattern : PySem.W.mroIn K C_BadPattern (.ref C_BadPattern) = some true)
    (opq : PySem.W.nsIn K cStatics "thirdparty.any" = some none)
    (u_BadPattern : (PW.main.scope.names.lookup ("super" : Str)).isSome = false)
    (n_BadPattern_index : PySem.W.findIn K (.ref C_BadPattern) "index" = some none)
    (n_BadPattern_what : PySem.W.findIn K (.ref C_BadPattern) "what" = some none)
    (a_Pattern___init : PySem.W.findIn K (.ref C_Pattern) "__init__" = some (some (.ref f_Pattern___init)))
    (l_Pattern___init : K.lookup f_Pattern___init = some ⟨oc_Pattern___init, od_Pattern___init, .func (PySem.W.fnOf "__init__" "Pattern.__init__" (defArgs s_Pattern___init) (defBody s_Pattern___init) (defScope s_Pattern___init) .none kV_Pattern___init dc_Pattern___init pm_Pattern___init an_Pattern___init cd_Pattern___init ct_Pattern___init), sl_Pattern___init⟩)
    (c_Pattern___init : PySem.W.codeIn K cd_Pattern___init "Pattern.__init__" = true)
    (k_Pattern___init : PySem.W.keepIn K (.ref f_Pattern___init) = true)
    (i_Pattern___init : PySem.W.isFn K (.ref f_Pattern___init) = true)
    (a_u_law_word : PySem.W.nsIn K mainGlobals "_law_word" = some (some (.ref f_u_law_word)))
    (l_u_law_word : K.lookup f_u_law_word = some ⟨oc_u_law_word, od_u_law_word, .func (PySem.W.fnOf "_law_word" "_law_word" (defArgs s_u_law_word) (defBody s_u_law_word) (defScope s_u_law_word) .none kV_u_law_word dc_u_law_word pm_u_law_word an_u_law_word cd_u_law_word ct_u_law_word), sl_u_law_word⟩)
    (c_u_law_word : PySem.W.codeIn K cd_u_law_word "_law_word" = true)
    (k_u_law_word : PySem.W.keepIn K (.ref f_u_law_word) = true)
    (a_BadMatch___init : PySem.W.findIn K (.ref C_BadMatch) "__init__" = some (some (.ref f_BadMatch___init)))
    (t_BadMatch___init : PySem.W.typeIn K (.ref f_BadMatch___init) = some (.type "function"))
    (l_BadMatch___init : K.lookup f_BadMatch___init = some ⟨oc_BadMatch___init, od_BadMatch___init, .func (PySem.W.ksFn "__init__" "BadMatch.__init__" (defArgs s_BadMatch___init) (defBody s_BadMatch___init) (defScope s_BadMatch___init) .none kV_BadMatch___init dc_BadMatch___init pm_BadMatch___init an_BadMatch___init (.ref cda_BadMatch) ct_BadMatch___init cc_BadMatch), sl_BadMatch___init⟩)
    (c_BadMatch___init : PySem.W.codeIn K (.ref cda_BadMatch) "BadMatch.__init__" = true)
    (k1_BadMatch : K.lookup cda_BadMatch = some ⟨ccl_BadMatch, cdd_BadMatch, .fields vs_BadMatch, ccs_BadMatch⟩)
    (k2_BadMatch : vs_BadMatch[2]? = some (.str file_BadMatch tf_BadMatch))
    (k3_BadMatch : ((PW.main.file : Str) == file_BadMatch) = true)
    (k4_BadMatch : K.lookup cc_BadMatch = some ⟨cl_BadMatch, cld_BadMatch, .cell (some (.ref C_BadMatch)), csl_BadMatch⟩)
    (x_BadMatch : K.lookup C_BadMatch = some (excClassObj nm_BadMatch q_BadMatch C_BadMatch N_BadMatch bs_BadMatch [.ref C_CustomError, .type "ValueError", .type "Exception", .type "BaseException", .type "object"] true sn_BadMatch sub_BadMatch ab_BadMatch col_BadMatch dd_BadMatch m0_BadMatch m1_BadMatch m2_BadMatch m3_BadMatch m5_BadMatch "ValueError.__new__"))
    (sa_BadMatch : PySem.W.findIn K (.ref C_BadMatch) "__setattr__" = some (some (.builtin "object.__setattr__")))
    (ex_BadMatch : PySem.W.subIn K (.ref C_BadMatch) (.type "BaseException") = some true)
    (ty_BadMatch : PySem.W.typeIn K (.ref C_BadMatch) = some (.type "type"))
    (kc_BadMatch : PySem.W.keepIn K (.ref C_BadMatch) = true)
    (ga_BadMatch : PySem.W.findIn K (.ref C_BadMatch) "__getattribute__" = some (some (.builtin "BaseException.__getattribute__")))
    (gg_BadMatch : PySem.W.findIn K (.ref C_BadMatch) "__getattr__" = some none)
    (hd_BadMatch : PySem.W.hasDictIn K C_BadMatch = true)
    (su_BadMatch : PySem.W.ks_superIn K C_BadMatch C_BadMatch "__init__" = some (some (.builtin "ValueError.__init__")))
    (iv_BadMatch : PySem.W.subIn K (.ref C_BadMatch) (.type "ValueError") = some true)
    (se_BadMatch : PySem.W.mroIn K C_BadMatch (.ref C_BadMatch) = some true)
    (u_BadMatch : (PW.main.scope.names.lookup ("super" : Str)).isSome = false)
    (n_BadMatch_what : PySem.W.findIn K (.ref C_BadMatch) "what" = some none)
    (a_check_match : PySem.W.nsIn K mainGlobals "check_match" = some (some (.ref f_check_match)))
    (l_check_match : K.lookup f_check_match = some ⟨oc_check_match, od_check_match, .func (PySem.W.fnOf "check_match" "check_match" (defArgs s_check_match) (defBody s_check_match) (defScope s_check_match) .none kV_check_match dc_check_match pm_check_match an_check_match cd_check_match ct_check_match), sl_check_match⟩)
    (c_check_match : PySem.W.codeIn K cd_check_match "check_match" = true)
    (k_check_match : PySem.W.keepIn K (.ref f_check_match) = true)
    (a_is_finer : PySem.W.nsIn K mainGlobals "is_finer" = some (some (.ref f_is_finer)))
    (l_is_finer : K.lookup f_is_finer = some ⟨oc_is_finer, od_is_finer, .func (PySem.W.fnOf "is_finer" "is_finer" (defArgs s_is_finer) (defBody s_is_finer) (defScope s_is_finer) .none kV_is_finer dc_is_finer pm_is_finer an_is_finer cd_is_finer ct_is_finer), sl_is_finer⟩)
    (c_is_finer : PySem.W.codeIn K cd_is_finer "is_finer" = true)
    (k_is_finer : PySem.W.keepIn K (.ref f_is_finer) = true)
    (a_class_numbers : PySem.W.nsIn K mainGlobals "class_numbers" = some (some (.ref f_class_numbers)))
    (l_class_numbers : K.lookup f_class_numbers = some ⟨oc_class_numbers, od_class_numbers, .func (PySem.W.fnOf "class_numbers" "class_numbers" (defArgs s_class_numbers) (defBody s_class_numbers) (defScope s_class_numbers) .none kV_class_numbers dc_class_numbers pm_class_numbers an_class_numbers cd_class_numbers ct_class_numbers), sl_class_numbers⟩)
    (c_class_numbers : PySem.W.codeIn K cd_class_numbers "class_numbers" = true)
    (k_class_numbers : PySem.W.keepIn K (.ref f_class_numbers) = true)
    (a_merged_marks : PySem.W.nsIn K mainGlobals "merged_marks" = some (some (.ref f_merged_marks)))
    (l_merged_marks : K.lookup f_merged_marks = some ⟨oc_merged_marks, od_merged_marks, .func (PySem.W.fnOf "merged_marks" "merged_marks" (defArgs s_merged_marks) (defBody s_merged_marks) (defScope s_merged_marks) .none kV_merged_marks dc_merged_marks pm_merged_marks an_merged_marks cd_merged_marks ct_merged_marks), sl_merged_marks⟩)
    (c_merged_marks : PySem.W.codeIn K cd_merged_marks "merged_marks" = true)
    (k_merged_marks : PySem.W.keepIn K (.ref f_merged_marks) = true)
    (a_Pattern___or : PySem.W.findIn K (.ref C_Pattern) "__or__" = some (some (.ref f_Pattern___or)))
    (l_Pattern___or : K.lookup f_Pattern___or = some ⟨oc_Pattern___or, od_Pattern___or, .func (PySem.W.fnOf "__or__" "Pattern.__or__" (defArgs s_Pattern___or) (defBody s_Pattern___or) (defScope s_Pattern___or) .none kV_Pattern___or dc_Pattern___or pm_Pattern___or an_Pattern___or cd_Pattern___or ct_Pattern___or), sl_Pattern___or⟩)
    (c_Pattern___or : PySem.W.codeIn K cd_Pattern___or "Pattern.__or__" = true)
    (k_Pattern___or : PySem.W.keepIn K (.ref f_Pattern___or) = true)
    (i_Pattern___or : PySem.W.isFn K (.ref f_Pattern___or) = true)
    (a_Pattern___and : PySem.W.findIn K (.ref C_Pattern) "__and__" = some (some (.ref f_Pattern___and)))
    (l_Pattern___and : K.lookup f_Pattern___and = some ⟨oc_Pattern___and, od_Pattern___and, .func (PySem.W.fnOf "__and__" "Pattern.__and__" (defArgs s_Pattern___and) (defBody s_Pattern___and) (defScope s_Pattern___and) .none kV_Pattern___and dc_Pattern___and pm_Pattern___and an_Pattern___and cd_Pattern___and ct_Pattern___and), sl_Pattern___and⟩)
    (c_Pattern___and : PySem.W.codeIn K cd_Pattern___and "Pattern.__and__" = true)
    (k_Pattern___and : PySem.W.keepIn K (.ref f_Pattern___and) = true)
    (i_Pattern___and : PySem.W.isFn K (.ref f_Pattern___and) = true)
    (a_u_law_unmatched_right : PySem.W.nsIn K mainGlobals "_law_unmatched_right" = some (some (.ref f_u_law_unmatched_right)))
    (l_u_law_unmatched_right : K.lookup f_u_law_unmatched_right = some ⟨oc_u_law_unmatched_right, od_u_law_unmatched_right, .func (PySem.W.fnOf "_law_unmatched_right" "_law_unmatched_right" (defArgs s_u_law_unmatched_right) (defBody s_u_law_unmatched_right) (defScope s_u_law_unmatched_right) .none kV_u_law_unmatched_right dc_u_law_unmatched_right pm_u_law_unmatched_right an_u_law_unmatched_right (.ref q_u_law_unmatched_right) ct_u_law_unmatched_right), sl_u_law_unmatched_right⟩)
    (c_u_law_unmatched_right : PySem.W.codeIn K (.ref q_u_law_unmatched_right) "_law_unmatched_right" = true)
    (kq_u_law_unmatched_right : K.lookup q_u_law_unmatched_right = some ⟨kc_u_law_unmatched_right, kd_u_law_unmatched_right, .fields kv_u_law_unmatched_right, ks_u_law_unmatched_right⟩)
    (kt_u_law_unmatched_right : kv_u_law_unmatched_right[11]? = some (.ref p_u_law_unmatched_right))
    (np_u_law_unmatched_right : K.lookup p_u_law_unmatched_right = none)
    (k_u_law_unmatched_right : PySem.W.keepIn K (.ref f_u_law_unmatched_right) = true)
    (a_u_law_is : PySem.W.nsIn K mainGlobals "_law_is" = some (some (.ref f_u_law_is)))
    (l_u_law_is : K.lookup f_u_law_is = some ⟨oc_u_law_is, od_u_law_is, .func (PySem.W.fnOf "_law_is" "_law_is" (defArgs s_u_law_is) (defBody s_u_law_is) (defScope s_u_law_is) .none kV_u_law_is dc_u_law_is pm_u_law_is an_u_law_is cd_u_law_is ct_u_law_is), sl_u_law_is⟩)
    (c_u_law_is : PySem.W.codeIn K cd_u_law_is "_law_is" = true)
    (k_u_law_is : PySem.W.keepIn K (.ref f_u_law_is) = true)
    (a_u_law_above : PySem.W.nsIn K mainGlobals "_law_above" = some (some (.ref f_u_law_above)))
    (l_u_law_above : K.lookup f_u_law_above = some ⟨oc_u_law_above, od_u_law_above, .func (PySem.W.fnOf "_law_above" "_law_above" (defArgs s_u_law_above) (defBody s_u_law_above) (defScope s_u_law_above) .none kV_u_law_above dc_u_law_above pm_u_law_above an_u_law_above cd_u_law_above ct_u_law_above), sl_u_law_above⟩)
    (c_u_law_above : PySem.W.codeIn K cd_u_law_above "_law_above" = true)
    (k_u_law_above : PySem.W.keepIn K (.ref f_u_law_above) = true)
    (a_u_law_beneath : PySem.W.nsIn K mainGlobals "_law_beneath" = some (some (.ref f_u_law_beneath)))
    (l_u_law_beneath : K.lookup f_u_law_beneath = some ⟨oc_u_law_beneath, od_u_law_beneath, .func (PySem.W.fnOf "_law_beneath" "_law_beneath" (defArgs s_u_law_beneath) (defBody s_u_law_beneath) (defScope s_u_law_beneath) .none kV_u_law_beneath dc_u_law_beneath pm_u_law_beneath an_u_law_beneath cd_u_law_beneath ct_u_law_beneath), sl_u_law_beneath⟩)
    (c_u_law_beneath : PySem.W.codeIn K cd_u_law_beneath "_law_beneath" = true)
    (k_u_law_beneath : PySem.W.keepIn K (.ref f_u_law_beneath) = true)
    (a_Pattern___eq : PySem.W.findIn K (.ref C_Pattern) "__eq__" = some (some (.ref f_Pattern___eq)))
    (l_Pattern___eq : K.lookup f_Pattern___eq = some ⟨oc_Pattern___eq, od_Pattern___eq, .func (PySem.W.fnOf "__eq__" "Pattern.__eq__" (defArgs s_Pattern___eq) (defBody s_Pattern___eq) (defScope s_Pattern___eq) .none kV_Pattern___eq dc_Pattern___eq pm_Pattern___eq an_Pattern___eq cd_Pattern___eq ct_Pattern___eq), sl_Pattern___eq⟩)
    (c_Pattern___eq : PySem.W.codeIn K cd_Pattern___eq "Pattern.__eq__" = true)
    (k_Pattern___eq : PySem.W.keepIn K (.ref f_Pattern___eq) = true)
    (i_Pattern___eq : PySem.W.isFn K (.ref f_Pattern___eq) = true)
    (a_u_law_finer : PySem.W.nsIn K mainGlobals "_law_finer" = some (some (.ref f_u_law_finer)))
    (l_u_law_finer : K.lookup f_u_law_finer = some ⟨oc_u_law_finer, od_u_law_finer, .func (PySem.W.fnOf "_law_finer" "_law_finer" (defArgs s_u_law_finer) (defBody s_u_law_finer) (defScope s_u_law_finer) .none kV_u_law_finer dc_u_law_finer pm_u_law_finer an_u_law_finer cd_u_law_finer ct_u_law_finer), sl_u_law_finer⟩)
    (c_u_law_finer : PySem.W.codeIn K cd_u_law_finer "_law_finer" = true)
    (k_u_law_finer : PySem.W.keepIn K (.ref f_u_law_finer) = true)
    (a_u_law_pair_right : PySem.W.nsIn K mainGlobals "_law_pair_right" = some (some (.ref f_u_law_pair_right)))
    (l_u_law_pair_right : K.lookup f_u_law_pair_right = some ⟨oc_u_law_pair_right, od_u_law_pair_right, .func (PySem.W.fnOf "_law_pair_right" "_law_pair_right" (defArgs s_u_law_pair_right) (defBody s_u_law_pair_right) (defScope s_u_law_pair_right) .none kV_u_law_pair_right dc_u_law_pair_right pm_u_law_pair_right an_u_law_pair_right cd_u_law_pair_right ct_u_law_pair_right), sl_u_law_pair_right⟩)
    (c_u_law_pair_right : PySem.W.codeIn K cd_u_law_pair_right "_law_pair_right" = true)
    (k_u_law_pair_right : PySem.W.keepIn K (.ref f_u_law_pair_right) = true)
    (a_u_law_three_right : PySem.W.nsIn K mainGlobals "_law_three_right" = some (some (.ref f_u_law_three_right)))
    (l_u_law_three_right : K.lookup f_u_law_three_right = some ⟨oc_u_law_three_right, od_u_law_three_right, .func (PySem.W.fnOf "_law_three_right" "_law_three_right" (defArgs s_u_law_three_right) (defBody s_u_law_three_right) (defScope s_u_law_three_right) .none kV_u_law_three_right dc_u_law_three_right pm_u_law_three_right an_u_law_three_right cd_u_law_three_right ct_u_law_three_right), sl_u_law_three_right⟩)
    (c_u_law_three_right : PySem.W.codeIn K cd_u_law_three_right "_law_three_right" = true)
    (k_u_law_three_right : PySem.W.keepIn K (.ref f_u_law_three_right) = true)
    (a_law : PySem.W.nsIn K mainGlobals "law" = some (some (.ref f_law)))
    (l_law : K.lookup f_law = some ⟨oc_law, od_law, .func (PySem.W.fnOf "law" "law" (defArgs s_law) (defBody s_law) (defScope s_law) .none kV_law dc_law pm_law an_law cd_law ct_law), sl_law⟩)
    (c_law : PySem.W.codeIn K cd_law "law" = true)
    (k_law : PySem.W.keepIn K (.ref f_law) = true)
    (hn : PySem.W.specialIn K (.builtin "object.__class__") "__get__" = some (some (.builtin "getset_descriptor.__get__")))
    (ht : PySem.W.takesIn K (.builtin "object.__class__") = some true)
    (pg_Pattern : PySem.W.plainGet K C_Pattern Str.empty = true)
    (hd_Pattern : PySem.W.hasDictIn K C_Pattern = true)
    (po_Pattern : PySem.W.plainOver K C_Pattern = true)
    (sa_Pattern : PySem.W.findIn K (.ref C_Pattern) "__setattr__" = some (some (.builtin "object.__setattr__")))
    (ha_Pattern : PySem.W.findIn K (.ref C_Pattern) "__class__" = some (some (.builtin "object.__class__")))
    (hm_Pattern : PySem.W.mroIn K C_Pattern (.type "object") = some true)
    (na_Pattern_entries : PySem.W.findIn K (.ref C_Pattern) "entries" = some none)
    (mk_Pattern : PySem.W.makesIn K C_Pattern = true)
    (kc_Pattern : PySem.W.keepIn K (.ref C_Pattern) = true)
    (qn_Pattern : PySem.W.findIn K (.ref C_Pattern) "__ne__" = some (some (.builtin "object.__ne__")))
    (so_Pattern : PySem.W.subIn K (.ref C_Pattern) (.type "object") = some true)
    (sf_Pattern : PySem.W.selfFirst K C_Pattern = true)
    (nf_Pattern_Pattern : PySem.W.notFirst K C_Pattern (.ref C_Pattern) = true)
    (ic_Pattern : PySem.W.isClsIn K C_Pattern = true)
    (ty_Pattern : PySem.W.typeIn K (.ref C_Pattern) = some (.type "type"))
    (sb_Pattern_Pattern : PySem.W.subIn K (.ref C_Pattern) (.ref C_Pattern) = some true)
    (sb_CustomError_BadMatch : PySem.W.subIn K (.ref C_CustomError) (.ref C_BadMatch) = some false)
    (sb_BadPattern_BadMatch : PySem.W.subIn K (.ref C_BadPattern) (.ref C_BadMatch) = some false)
    (sb_BadMatch_BadMatch : PySem.W.subIn K (.ref C_BadMatch) (.ref C_BadMatch) = some true)
    (sb_CustomError_BadPattern : PySem.W.subIn K (.ref C_CustomError) (.ref C_BadPattern) = some false)
    (sb_BadPattern_BadPattern : PySem.W.subIn K (.ref C_BadPattern) (.ref C_BadPattern) = some true)
    (sb_BadMatch_BadPattern : PySem.W.subIn K (.ref C_BadMatch) (.ref C_BadPattern) = some false) :
    ∃ (c P : Addr) (fd : FuncData), PySem.W.tabIn K "_law_unmatched_right" = some (c, P) ∧ K.lookup P = none ∧ (∀ (s : Shared) (u : Value), BindsTo s fd ⟨[u], []⟩ [("_law_script", u)]) ∧ ∀ base : Heap, K.In base → base.Ns mainGlobals mg → LamX.TabB base mg c P → FnOk PW w K mg base (L2.CX PW w) 9 fa fd ["_law_script"] (spLaw K P) := by
  have e := hfa.symm.trans (PySem.W.mg_of X G a_law)
  have e2 : fa = f_law := by
    cases e
    rfl
  rw [e2]
  have F_u_law_hand : FunD K "_law_hand" "_law_hand" (defArgs s_u_law_hand) (defBody s_u_law_hand) (defScope s_u_law_hand) [] [] f_u_law_hand (PySem.W.fnOf "_law_hand" "_law_hand" (defArgs s_u_law_hand) (defBody s_u_law_hand) (defScope s_u_law_hand) .none kV_u_law_hand dc_u_law_hand pm_u_law_hand an_u_law_hand cd_u_law_hand ct_u_law_hand) := ⟨⟨_, _, _, _, _, _, _, _, _, _, rfl, l_u_law_hand, c_u_law_hand, .inl ⟨rfl, rfl⟩, .inl rfl⟩, k_u_law_hand⟩
  have F_u_law_mix : FunD K "_law_mix" "_law_mix" (defArgs s_u_law_mix) (defBody s_u_law_mix) (defScope s_u_law_mix) [] [] f_u_law_mix (PySem.W.fnOf "_law_mix" "_law_mix" (defArgs s_u_law_mix) (defBody s_u_law_mix) (defScope s_u_law_mix) .none kV_u_law_mix dc_u_law_mix pm_u_law_mix an_u_law_mix cd_u_law_mix ct_u_law_mix) := ⟨⟨_, _, _, _, _, _, _, _, _, _, rfl, l_u_law_mix, c_u_law_mix, .inl ⟨rfl, rfl⟩, .inl rfl⟩, k_u_law_mix⟩
  have F_u_law_draw : FunD K "_law_draw" "_law_draw" (defArgs s_u_law_draw) (defBody s_u_law_draw) (defScope s_u_law_draw) [] [] f_u_law_draw (PySem.W.fnOf "_law_draw" "_law_draw" (defArgs s_u_law_draw) (defBody s_u_law_draw) (defScope s_u_law_draw) .none kV_u_law_draw dc_u_law_draw pm_u_law_draw an_u_law_draw cd_u_law_draw ct_u_law_draw) := ⟨⟨_, _, _, _, _, _, _, _, _, _, rfl, l_u_law_draw, c_u_law_draw, .inl ⟨rfl, rfl⟩, .inl rfl⟩, k_u_law_draw⟩
  have F_u_law_pick : FunD K "_law_pick" "_law_pick" (defArgs s_u_law_pick) (defBody s_u_law_pick) (defScope s_u_law_pick) [] [] f_u_law_pick (PySem.W.fnOf "_law_pick" "_law_pick" (defArgs s_u_law_pick) (defBody s_u_law_pick) (defScope s_u_law_pick) .none kV_u_law_pick dc_u_law_pick pm_u_law_pick an_u_law_pick cd_u_law_pick ct_u_law_pick) := ⟨⟨_, _, _, _, _, _, _, _, _, _, rfl, l_u_law_pick, c_u_law_pick, .inl ⟨rfl, rfl⟩, .inl rfl⟩, k_u_law_pick⟩
  have F_u_law_mask : FunD K "_law_mask" "_law_mask" (defArgs s_u_law_mask) (defBody s_u_law_mask) (defScope s_u_law_mask) [] [] f_u_law_mask (PySem.W.fnOf "_law_mask" "_law_mask" (defArgs s_u_law_mask) (defBody s_u_law_mask) (defScope s_u_law_mask) .none kV_u_law_mask dc_u_law_mask pm_u_law_mask an_u_law_mask cd_u_law_mask ct_u_law_mask) := ⟨⟨_, _, _, _, _, _, _, _, _, _, rfl, l_u_law_mask, c_u_law_mask, .inl ⟨rfl, rfl⟩, .inl rfl⟩, k_u_law_mask⟩
  have F_u_law_on : FunD K "_law_on" "_law_on" (defArgs s_u_law_on) (defBody s_u_law_on) (defScope s_u_law_on) [] [] f_u_law_on (PySem.W.fnOf "_law_on" "_law_on" (defArgs s_u_law_on) (defBody s_u_law_on) (defScope s_u_law_on) .none kV_u_law_on dc_u_law_on pm_u_law_on an_u_law_on cd_u_law_on ct_u_law_on) := ⟨⟨_, _, _, _, _, _, _, _, _, _, rfl, l_u_law_on, c_u_law_on, .inl ⟨rfl, rfl⟩, .inl rfl⟩, k_u_law_on⟩
  have F_u_law_numbers : FunD K "_law_numbers" "_law_numbers" (defArgs s_u_law_numbers) (defBody s_u_law_numbers) (defScope s_u_law_numbers) [] [] f_u_law_numbers (PySem.W.fnOf "_law_numbers" "_law_numbers" (defArgs s_u_law_numbers) (defBody s_u_law_numbers) (defScope s_u_law_numbers) .none kV_u_law_numbers dc_u_law_numbers pm_u_law_numbers an_u_law_numbers cd_u_law_numbers ct_u_law_numbers) := ⟨⟨_, _, _, _, _, _, _, _, _, _, rfl, l_u_law_numbers, c_u_law_numbers, .inl ⟨rfl, rfl⟩, .inl rfl⟩, k_u_law_numbers⟩
  have F_u_law_near : FunD K "_law_near" "_law_near" (defArgs s_u_law_near) (defBody s_u_law_near) (defScope s_u_law_near) [] [] f_u_law_near (PySem.W.fnOf "_law_near" "_law_near" (defArgs s_u_law_near) (defBody s_u_law_near) (defScope s_u_law_near) .none kV_u_law_near dc_u_law_near pm_u_law_near an_u_law_near cd_u_law_near ct_u_law_near) := ⟨⟨_, _, _, _, _, _, _, _, _, _, rfl, l_u_law_near, c_u_law_near, .inl ⟨rfl, rfl⟩, .inl rfl⟩, k_u_law_near⟩
  have F_u_law_match_word : FunD K "_law_match_word" "_law_match_word" (defArgs s_u_law_match_word) (defBody s_u_law_match_word) (defScope s_u_law_match_word) [] [] f_u_law_match_word (PySem.W.fnOf "_law_match_word" "_law_match_word" (defArgs s_u_law_match_word) (defBody s_u_law_match_word) (defScope s_u_law_match_word) .none kV_u_law_match_word dc_u_law_match_word pm_u_law_match_word an_u_law_match_word cd_u_law_match_word ct_u_law_match_word) := ⟨⟨_, _, _, _, _, _, _, _, _, _, rfl, l_u_law_match_word, c_u_law_match_word, .inl ⟨rfl, rfl⟩, .inl rfl⟩, k_u_law_match_word⟩
  have F_entries_fault : FunD K "entries_fault" "entries_fault" (defArgs s_entries_fault) (defBody s_entries_fault) (defScope s_entries_fault) [] [] f_entries_fault (PySem.W.fnOf "entries_fault" "entries_fault" (defArgs s_entries_fault) (defBody s_entries_fault) (defScope s_entries_fault) .none kV_entries_fault dc_entries_fault pm_entries_fault an_entries_fault cd_entries_fault ct_entries_fault) := ⟨⟨_, _, _, _, _, _, _, _, _, _, rfl, l_entries_fault, c_entries_fault, .inl ⟨rfl, rfl⟩, .inl rfl⟩, k_entries_fault⟩
  have F_Pattern___init : FunD K "__init__" "Pattern.__init__" (defArgs s_Pattern___init) (defBody s_Pattern___init) (defScope s_Pattern___init) [] [] f_Pattern___init (PySem.W.fnOf "__init__" "Pattern.__init__" (defArgs s_Pattern___init) (defBody s_Pattern___init) (defScope s_Pattern___init) .none kV_Pattern___init dc_Pattern___init pm_Pattern___init an_Pattern___init cd_Pattern___init ct_Pattern___init) := ⟨⟨_, _, _, _, _, _, _, _, _, _, rfl, l_Pattern___init, c_Pattern___init, .inl ⟨rfl, rfl⟩, .inl rfl⟩, k_Pattern___init⟩
  have F_u_law_word : FunD K "_law_word" "_law_word" (defArgs s_u_law_word) (defBody s_u_law_word) (defScope s_u_law_word) [] [] f_u_law_word (PySem.W.fnOf "_law_word" "_law_word" (defArgs s_u_law_word) (defBody s_u_law_word) (defScope s_u_law_word) .none kV_u_law_word dc_u_law_word pm_u_law_word an_u_law_word cd_u_law_word ct_u_law_word) := ⟨⟨_, _, _, _, _, _, _, _, _, _, rfl, l_u_law_word, c_u_law_word, .inl ⟨rfl, rfl⟩, .inl rfl⟩, k_u_law_word⟩
  have F_check_match : FunD K "check_match" "check_match" (defArgs s_check_match) (defBody s_check_match) (defScope s_check_match) [] [] f_check_match (PySem.W.fnOf "check_match" "check_match" (defArgs s_check_match) (defBody s_check_match) (defScope s_check_match) .none kV_check_match dc_check_match pm_check_match an_check_match cd_check_match ct_check_match) := ⟨⟨_, _, _, _, _, _, _, _, _, _, rfl, l_check_match, c_check_match, .inl ⟨rfl, rfl⟩, .inl rfl⟩, k_check_match⟩
  have F_is_finer : FunD K "is_finer" "is_finer" (defArgs s_is_finer) (defBody s_is_finer) (defScope s_is_finer) [] [] f_is_finer (PySem.W.fnOf "is_finer" "is_finer" (defArgs s_is_finer) (defBody s_is_finer) (defScope s_is_finer) .none kV_is_finer dc_is_finer pm_is_finer an_is_finer cd_is_finer ct_is_finer) := ⟨⟨_, _, _, _, _, _, _, _, _, _, rfl, l_is_finer, c_is_finer, .inl ⟨rfl, rfl⟩, .inl rfl⟩, k_is_finer⟩
  have F_class_numbers : FunD K "class_numbers" "class_numbers" (defArgs s_class_numbers) (defBody s_class_numbers) (defScope s_class_numbers) [] [] f_class_numbers (PySem.W.fnOf "class_numbers" "class_numbers" (defArgs s_class_numbers) (defBody s_class_numbers) (defScope s_class_numbers) .none kV_class_numbers dc_class_numbers pm_class_numbers an_class_numbers cd_class_numbers ct_class_numbers) := ⟨⟨_, _, _, _, _, _, _, _, _, _, rfl, l_class_numbers, c_class_numbers, .inl ⟨rfl, rfl⟩, .inl rfl⟩, k_class_numbers⟩
  have F_merged_marks : FunD K "merged_marks" "merged_marks" (defArgs s_merged_marks) (defBody s_merged_marks) (defScope s_merged_marks) [] [] f_merged_marks (PySem.W.fnOf "merged_marks" "merged_marks" (defArgs s_merged_marks) (defBody s_merged_marks) (defScope s_merged_marks) .none kV_merged_marks dc_merged_marks pm_merged_marks an_merged_marks cd_merged_marks ct_merged_marks) := ⟨⟨_, _, _, _, _, _, _, _, _, _, rfl, l_merged_marks, c_merged_marks, .inl ⟨rfl, rfl⟩, .inl rfl⟩, k_merged_marks⟩
  have F_Pattern___or : FunD K "__or__" "Pattern.__or__" (defArgs s_Pattern___or) (defBody s_Pattern___or) (defScope s_Pattern___or) [] [] f_Pattern___or (PySem.W.fnOf "__or__" "Pattern.__or__" (defArgs s_Pattern___or) (defBody s_Pattern___or) (defScope s_Pattern___or) .none kV_Pattern___or dc_Pattern___or pm_Pattern___or an_Pattern___or cd_Pattern___or ct_Pattern___or) := ⟨⟨_, _, _, _, _, _, _, _, _, _, rfl, l_Pattern___or, c_Pattern___or, .inl ⟨rfl, rfl⟩, .inl rfl⟩, k_Pattern___or⟩
  have F_Pattern___and : FunD K "__and__" "Pattern.__and__" (defArgs s_Pattern___and) (defBody s_Pattern___and) (defScope s_Pattern___and) [] [] f_Pattern___and (PySem.W.fnOf "__and__" "Pattern.__and__" (defArgs s_Pattern___and) (defBody s_Pattern___and) (defScope s_Pattern___and) .none kV_Pattern___and dc_Pattern___and pm_Pattern___and an_Pattern___and cd_Pattern___and ct_Pattern___and) := ⟨⟨_, _, _, _, _, _, _, _, _, _, rfl, l_Pattern___and, c_Pattern___and, .inl ⟨rfl, rfl⟩, .inl rfl⟩, k_Pattern___and⟩
  have F_u_law_unmatched_right : FunD K "_law_unmatched_right" "_law_unmatched_right" (defArgs s_u_law_unmatched_right) (defBody s_u_law_unmatched_right) (defScope s_u_law_unmatched_right) [] [] f_u_law_unmatched_right (PySem.W.fnOf "_law_unmatched_right" "_law_unmatched_right" (defArgs s_u_law_unmatched_right) (defBody s_u_law_unmatched_right) (defScope s_u_law_unmatched_right) .none kV_u_law_unmatched_right dc_u_law_unmatched_right pm_u_law_unmatched_right an_u_law_unmatched_right (.ref q_u_law_unmatched_right) ct_u_law_unmatched_right) := ⟨⟨_, _, _, _, _, _, _, _, _, _, rfl, l_u_law_unmatched_right, c_u_law_unmatched_right, .inl ⟨rfl, rfl⟩, .inl rfl⟩, k_u_law_unmatched_right⟩
  have F_u_law_is : FunD K "_law_is" "_law_is" (defArgs s_u_law_is) (defBody s_u_law_is) (defScope s_u_law_is) [] [] f_u_law_is (PySem.W.fnOf "_law_is" "_law_is" (defArgs s_u_law_is) (defBody s_u_law_is) (defScope s_u_law_is) .none kV_u_law_is dc_u_law_is pm_u_law_is an_u_law_is cd_u_law_is ct_u_law_is) := ⟨⟨_, _, _, _, _, _, _, _, _, _, rfl, l_u_law_is, c_u_law_is, .inl ⟨rfl, rfl⟩, .inl rfl⟩, k_u_law_is⟩
  have F_u_law_above : FunD K "_law_above" "_law_above" (defArgs s_u_law_above) (defBody s_u_law_above) (defScope s_u_law_above) [] [] f_u_law_above (PySem.W.fnOf "_law_above" "_law_above" (defArgs s_u_law_above) (defBody s_u_law_above) (defScope s_u_law_above) .none kV_u_law_above dc_u_law_above pm_u_law_above an_u_law_above cd_u_law_above ct_u_law_above) := ⟨⟨_, _, _, _, _, _, _, _, _, _, rfl, l_u_law_above, c_u_law_above, .inl ⟨rfl, rfl⟩, .inl rfl⟩, k_u_law_above⟩
  have F_u_law_beneath : FunD K "_law_beneath" "_law_beneath" (defArgs s_u_law_beneath) (defBody s_u_law_beneath) (defScope s_u_law_beneath) [] [] f_u_law_beneath (PySem.W.fnOf "_law_beneath" "_law_beneath" (defArgs s_u_law_beneath) (defBody s_u_law_beneath) (defScope s_u_law_beneath) .none kV_u_law_beneath dc_u_law_beneath pm_u_law_beneath an_u_law_beneath cd_u_law_beneath ct_u_law_beneath) := ⟨⟨_, _, _, _, _, _, _, _, _, _, rfl, l_u_law_beneath, c_u_law_beneath, .inl ⟨rfl, rfl⟩, .inl rfl⟩, k_u_law_beneath⟩
  have F_Pattern___eq : FunD K "__eq__" "Pattern.__eq__" (defArgs s_Pattern___eq) (defBody s_Pattern___eq) (defScope s_Pattern___eq) [] [] f_Pattern___eq (PySem.W.fnOf "__eq__" "Pattern.__eq__" (defArgs s_Pattern___eq) (defBody s_Pattern___eq) (defScope s_Pattern___eq) .none kV_Pattern___eq dc_Pattern___eq pm_Pattern___eq an_Pattern___eq cd_Pattern___eq ct_Pattern___eq) := ⟨⟨_, _, _, _, _, _, _, _, _, _, rfl, l_Pattern___eq, c_Pattern___eq, .inl ⟨rfl, rfl⟩, .inl rfl⟩, k_Pattern___eq⟩
  have F_u_law_finer : FunD K "_law_finer" "_law_finer" (defArgs s_u_law_finer) (defBody s_u_law_finer) (defScope s_u_law_finer) [] [] f_u_law_finer (PySem.W.fnOf "_law_finer" "_law_finer" (defArgs s_u_law_finer) (defBody s_u_law_finer) (defScope s_u_law_finer) .none kV_u_law_finer dc_u_law_finer pm_u_law_finer an_u_law_finer cd_u_law_finer ct_u_law_finer) := ⟨⟨_, _, _, _, _, _, _, _, _, _, rfl, l_u_law_finer, c_u_law_finer, .inl ⟨rfl, rfl⟩, .inl rfl⟩, k_u_law_finer⟩
  have F_u_law_pair_right : FunD K "_law_pair_right" "_law_pair_right" (defArgs s_u_law_pair_right) (defBody s_u_law_pair_right) (defScope s_u_law_pair_right) [] [] f_u_law_pair_right (PySem.W.fnOf "_law_pair_right" "_law_pair_right" (defArgs s_u_law_pair_right) (defBody s_u_law_pair_right) (defScope s_u_law_pair_right) .none kV_u_law_pair_right dc_u_law_pair_right pm_u_law_pair_right an_u_law_pair_right cd_u_law_pair_right ct_u_law_pair_right) := ⟨⟨_, _, _, _, _, _, _, _, _, _, rfl, l_u_law_pair_right, c_u_law_pair_right, .inl ⟨rfl, rfl⟩, .inl rfl⟩, k_u_law_pair_right⟩
  have F_u_law_three_right : FunD K "_law_three_right" "_law_three_right" (defArgs s_u_law_three_right) (defBody s_u_law_three_right) (defScope s_u_law_three_right) [] [] f_u_law_three_right (PySem.W.fnOf "_law_three_right" "_law_three_right" (defArgs s_u_law_three_right) (defBody s_u_law_three_right) (defScope s_u_law_three_right) .none kV_u_law_three_right dc_u_law_three_right pm_u_law_three_right an_u_law_three_right cd_u_law_three_right ct_u_law_three_right) := ⟨⟨_, _, _, _, _, _, _, _, _, _, rfl, l_u_law_three_right, c_u_law_three_right, .inl ⟨rfl, rfl⟩, .inl rfl⟩, k_u_law_three_right⟩
  have F_law : FunD K "law" "law" (defArgs s_law) (defBody s_law) (defScope s_law) [] [] f_law (PySem.W.fnOf "law" "law" (defArgs s_law) (defBody s_law) (defScope s_law) .none kV_law dc_law pm_law an_law cd_law ct_law) := ⟨⟨_, _, _, _, _, _, _, _, _, _, rfl, l_law, c_law, .inl ⟨rfl, rfl⟩, .inl rfl⟩, k_law⟩
  refine ⟨q_u_law_unmatched_right, p_u_law_unmatched_right, _, tab_at a_u_law_unmatched_right l_u_law_unmatched_right rfl kq_u_law_unmatched_right kt_u_law_unmatched_right, np_u_law_unmatched_right, fun s v => F_law.bindsA (ps := ["_law_script"]) (fun _ _ _ _ _ _ us hl => match us, hl with | [_], _ => rfl) s [v] rfl, fun base _ _ tbx => ?_⟩
  have T : Txt K mg base { c_CustomError := C_CustomError, c_BadPattern := C_BadPattern, c_BadMatch := C_BadMatch, c_Pattern := C_Pattern, f_u_law_hand := f_u_law_hand, d_u_law_hand := (PySem.W.fnOf "_law_hand" "_law_hand" (defArgs s_u_law_hand) (defBody s_u_law_hand) (defScope s_u_law_hand) .none kV_u_law_hand dc_u_law_hand pm_u_law_hand an_u_law_hand cd_u_law_hand ct_u_law_hand), f_u_law_mix := f_u_law_mix, d_u_law_mix := (PySem.W.fnOf "_law_mix" "_law_mix" (defArgs s_u_law_mix) (defBody s_u_law_mix) (defScope s_u_law_mix) .none kV_u_law_mix dc_u_law_mix pm_u_law_mix an_u_law_mix cd_u_law_mix ct_u_law_mix), f_u_law_draw := f_u_law_draw, d_u_law_draw := (PySem.W.fnOf "_law_draw" "_law_draw" (defArgs s_u_law_draw) (defBody s_u_law_draw) (defScope s_u_law_draw) .none kV_u_law_draw dc_u_law_draw pm_u_law_draw an_u_law_draw cd_u_law_draw ct_u_law_draw), f_u_law_pick := f_u_law_pick, d_u_law_pick := (PySem.W.fnOf "_law_pick" "_law_pick" (defArgs s_u_law_pick) (defBody s_u_law_pick) (defScope s_u_law_pick) .none kV_u_law_pick dc_u_law_pick pm_u_law_pick an_u_law_pick cd_u_law_pick ct_u_law_pick), f_u_law_mask := f_u_law_mask, d_u_law_mask := (PySem.W.fnOf "_law_mask" "_law_mask" (defArgs s_u_law_mask) (defBody s_u_law_mask) (defScope s_u_law_mask) .none kV_u_law_mask dc_u_law_mask pm_u_law_mask an_u_law_mask cd_u_law_mask ct_u_law_mask), f_u_law_on := f_u_law_on, d_u_law_on := (PySem.W.fnOf "_law_on" "_law_on" (defArgs s_u_law_on) (defBody s_u_law_on) (defScope s_u_law_on) .none kV_u_law_on dc_u_law_on pm_u_law_on an_u_law_on cd_u_law_on ct_u_law_on), f_u_law_numbers := f_u_law_numbers, d_u_law_numbers := (PySem.W.fnOf "_law_numbers" "_law_numbers" (defArgs s_u_law_numbers) (defBody s_u_law_numbers) (defScope s_u_law_numbers) .none kV_u_law_numbers dc_u_law_numbers pm_u_law_numbers an_u_law_numbers cd_u_law_numbers ct_u_law_numbers), f_u_law_near := f_u_law_near, d_u_law_near := (PySem.W.fnOf "_law_near" "_law_near" (defArgs s_u_law_near) (defBody s_u_law_near) (defScope s_u_law_near) .none kV_u_law_near dc_u_law_near pm_u_law_near an_u_law_near cd_u_law_near ct_u_law_near), f_u_law_match_word := f_u_law_match_word, d_u_law_match_word := (PySem.W.fnOf "_law_match_word" "_law_match_word" (defArgs s_u_law_match_word) (defBody s_u_law_match_word) (defScope s_u_law_match_word) .none kV_u_law_match_word dc_u_law_match_word pm_u_law_match_word an_u_law_match_word cd_u_law_match_word ct_u_law_match_word), f_entries_fault := f_entries_fault, d_entries_fault := (PySem.W.fnOf "entries_fault" "entries_fault" (defArgs s_entries_fault) (defBody s_entries_fault) (defScope s_entries_fault) .none kV_entries_fault dc_entries_fault pm_entries_fault an_entries_fault cd_entries_fault ct_entries_fault), f_BadPattern___init := f_BadPattern___init, d_BadPattern___init := (PySem.W.ksFn "__init__" "BadPattern.__init__" (defArgs s_BadPattern___init) (defBody s_BadPattern___init) (defScope s_BadPattern___init) .none kV_BadPattern___init dc_BadPattern___init pm_BadPattern___init an_BadPattern___init (.ref cda_BadPattern) ct_BadPattern___init cc_BadPattern), cda_BadPattern := cda_BadPattern, cc_BadPattern := cc_BadPattern, f_Pattern___init := f_Pattern___init, d_Pattern___init := (PySem.W.fnOf "__init__" "Pattern.__init__" (defArgs s_Pattern___init) (defBody s_Pattern___init) (defScope s_Pattern___init) .none kV_Pattern___init dc_Pattern___init pm_Pattern___init an_Pattern___init cd_Pattern___init ct_Pattern___init), f_u_law_word := f_u_law_word, d_u_law_word := (PySem.W.fnOf "_law_word" "_law_word" (defArgs s_u_law_word) (defBody s_u_law_word) (defScope s_u_law_word) .none kV_u_law_word dc_u_law_word pm_u_law_word an_u_law_word cd_u_law_word ct_u_law_word), f_BadMatch___init := f_BadMatch___init, d_BadMatch___init := (PySem.W.ksFn "__init__" "BadMatch.__init__" (defArgs s_BadMatch___init) (defBody s_BadMatch___init) (defScope s_BadMatch___init) .none kV_BadMatch___init dc_BadMatch___init pm_BadMatch___init an_BadMatch___init (.ref cda_BadMatch) ct_BadMatch___init cc_BadMatch), cda_BadMatch := cda_BadMatch, cc_BadMatch := cc_BadMatch, f_check_match := f_check_match, d_check_match := (PySem.W.fnOf "check_match" "check_match" (defArgs s_check_match) (defBody s_check_match) (defScope s_check_match) .none kV_check_match dc_check_match pm_check_match an_check_match cd_check_match ct_check_match), f_is_finer := f_is_finer, d_is_finer := (PySem.W.fnOf "is_finer" "is_finer" (defArgs s_is_finer) (defBody s_is_finer) (defScope s_is_finer) .none kV_is_finer dc_is_finer pm_is_finer an_is_finer cd_is_finer ct_is_finer), f_class_numbers := f_class_numbers, d_class_numbers := (PySem.W.fnOf "class_numbers" "class_numbers" (defArgs s_class_numbers) (defBody s_class_numbers) (defScope s_class_numbers) .none kV_class_numbers dc_class_numbers pm_class_numbers an_class_numbers cd_class_numbers ct_class_numbers), f_merged_marks := f_merged_marks, d_merged_marks := (PySem.W.fnOf "merged_marks" "merged_marks" (defArgs s_merged_marks) (defBody s_merged_marks) (defScope s_merged_marks) .none kV_merged_marks dc_merged_marks pm_merged_marks an_merged_marks cd_merged_marks ct_merged_marks), f_Pattern___or := f_Pattern___or, d_Pattern___or := (PySem.W.fnOf "__or__" "Pattern.__or__" (defArgs s_Pattern___or) (defBody s_Pattern___or) (defScope s_Pattern___or) .none kV_Pattern___or dc_Pattern___or pm_Pattern___or an_Pattern___or cd_Pattern___or ct_Pattern___or), f_Pattern___and := f_Pattern___and, d_Pattern___and := (PySem.W.fnOf "__and__" "Pattern.__and__" (defArgs s_Pattern___and) (defBody s_Pattern___and) (defScope s_Pattern___and) .none kV_Pattern___and dc_Pattern___and pm_Pattern___and an_Pattern___and cd_Pattern___and ct_Pattern___and), q_u_law_unmatched_right := q_u_law_unmatched_right, p_u_law_unmatched_right := p_u_law_unmatched_right, f_u_law_unmatched_right := f_u_law_unmatched_right, d_u_law_unmatched_right := (PySem.W.fnOf "_law_unmatched_right" "_law_unmatched_right" (defArgs s_u_law_unmatched_right) (defBody s_u_law_unmatched_right) (defScope s_u_law_unmatched_right) .none kV_u_law_unmatched_right dc_u_law_unmatched_right pm_u_law_unmatched_right an_u_law_unmatched_right (.ref q_u_law_unmatched_right) ct_u_law_unmatched_right), f_u_law_is := f_u_law_is, d_u_law_is := (PySem.W.fnOf "_law_is" "_law_is" (defArgs s_u_law_is) (defBody s_u_law_is) (defScope s_u_law_is) .none kV_u_law_is dc_u_law_is pm_u_law_is an_u_law_is cd_u_law_is ct_u_law_is), f_u_law_above := f_u_law_above, d_u_law_above := (PySem.W.fnOf "_law_above" "_law_above" (defArgs s_u_law_above) (defBody s_u_law_above) (defScope s_u_law_above) .none kV_u_law_above dc_u_law_above pm_u_law_above an_u_law_above cd_u_law_above ct_u_law_above), f_u_law_beneath := f_u_law_beneath, d_u_law_beneath := (PySem.W.fnOf "_law_beneath" "_law_beneath" (defArgs s_u_law_beneath) (defBody s_u_law_beneath) (defScope s_u_law_beneath) .none kV_u_law_beneath dc_u_law_beneath pm_u_law_beneath an_u_law_beneath cd_u_law_beneath ct_u_law_beneath), f_Pattern___eq := f_Pattern___eq, d_Pattern___eq := (PySem.W.fnOf "__eq__" "Pattern.__eq__" (defArgs s_Pattern___eq) (defBody s_Pattern___eq) (defScope s_Pattern___eq) .none kV_Pattern___eq dc_Pattern___eq pm_Pattern___eq an_Pattern___eq cd_Pattern___eq ct_Pattern___eq), f_u_law_finer := f_u_law_finer, d_u_law_finer := (PySem.W.fnOf "_law_finer" "_law_finer" (defArgs s_u_law_finer) (defBody s_u_law_finer) (defScope s_u_law_finer) .none kV_u_law_finer dc_u_law_finer pm_u_law_finer an_u_law_finer cd_u_law_finer ct_u_law_finer), f_u_law_pair_right := f_u_law_pair_right, d_u_law_pair_right := (PySem.W.fnOf "_law_pair_right" "_law_pair_right" (defArgs s_u_law_pair_right) (defBody s_u_law_pair_right) (defScope s_u_law_pair_right) .none kV_u_law_pair_right dc_u_law_pair_right pm_u_law_pair_right an_u_law_pair_right cd_u_law_pair_right ct_u_law_pair_right), f_u_law_three_right := f_u_law_three_right, d_u_law_three_right := (PySem.W.fnOf "_law_three_right" "_law_three_right" (defArgs s_u_law_three_right) (defBody s_u_law_three_right) (defScope s_u_law_three_right) .none kV_u_law_three_right dc_u_law_three_right pm_u_law_three_right an_u_law_three_right cd_u_law_three_right ct_u_law_three_right), f_law := f_law, d_law := (PySem.W.fnOf "law" "law" (defArgs s_law) (defBody s_law) (defScope s_law) .none kV_law dc_law pm_law an_law cd_law ct_law), v_MOST_PLACES := .int 40 tk_MOST_PLACES } := {
    z_abs := PySem.W.mg_none_of X G z_abs
    z_bool := PySem.W.mg_none_of X G z_bool
    z_enumerate := PySem.W.mg_none_of X G z_enumerate
    z_int := PySem.W.mg_none_of X G z_int
    z_isinstance := PySem.W.mg_none_of X G z_isinstance
    z_len := PySem.W.mg_none_of X G z_len
    z_list := PySem.W.mg_none_of X G z_list
    z_range := PySem.W.mg_none_of X G z_range
    z_super := PySem.W.mg_none_of X G z_super
    z_tuple := PySem.W.mg_none_of X G z_tuple
    z_zip := PySem.W.mg_none_of X G z_zip
    g_MOST_PLACES := ⟨⟨_, rfl⟩, PySem.W.mg_of X G g_MOST_PLACES⟩
    c_CustomError := PySem.W.mg_of X G a_CustomError
    c_BadPattern := PySem.W.mg_of X G a_BadPattern
    c_BadMatch := PySem.W.mg_of X G a_BadMatch
    c_Pattern := PySem.W.mg_of X G a_Pattern
    F_u_law_hand := F_u_law_hand
    b_u_law_hand := F_u_law_hand.bindsN fun _ _ _ _ _ _ us hl => match us, hl with | [_], _ => rfl
    m_u_law_hand := PySem.W.mg_of X G a_u_law_hand
    k_u_law_hand := k_u_law_hand
    F_u_law_mix := F_u_law_mix
    b_u_law_mix := F_u_law_mix.bindsN fun _ _ _ _ _ _ us hl => match us, hl with | [_, _], _ => rfl
    m_u_law_mix := PySem.W.mg_of X G a_u_law_mix
    k_u_law_mix := k_u_law_mix
    F_u_law_draw := F_u_law_draw
    b_u_law_draw := F_u_law_draw.bindsN fun _ _ _ _ _ _ us hl => match us, hl with | [_, _], _ => rfl
    m_u_law_draw := PySem.W.mg_of X G a_u_law_draw
    k_u_law_draw := k_u_law_draw
    F_u_law_pick := F_u_law_pick
    b_u_law_pick := F_u_law_pick.bindsN fun _ _ _ _ _ _ us hl => match us, hl with | [_, _], _ => rfl
    m_u_law_pick := PySem.W.mg_of X G a_u_law_pick
    k_u_law_pick := k_u_law_pick
    F_u_law_mask := F_u_law_mask
    b_u_law_mask := F_u_law_mask.bindsN fun _ _ _ _ _ _ us hl => match us, hl with | [_], _ => rfl
    m_u_law_mask := PySem.W.mg_of X G a_u_law_mask
    k_u_law_mask := k_u_law_mask
    F_u_law_on := F_u_law_on
    b_u_law_on := F_u_law_on.bindsN fun _ _ _ _ _ _ us hl => match us, hl with | [_, _], _ => rfl
    m_u_law_on := PySem.W.mg_of X G a_u_law_on
    k_u_law_on := k_u_law_on
    F_u_law_numbers := F_u_law_numbers
    b_u_law_numbers := F_u_law_numbers.bindsN fun _ _ _ _ _ _ us hl => match us, hl with | [_], _ => rfl
    m_u_law_numbers := PySem.W.mg_of X G a_u_law_numbers
    k_u_law_numbers := k_u_law_numbers
    F_u_law_near := F_u_law_near
    b_u_law_near := F_u_law_near.bindsN fun _ _ _ _ _ _ us hl => match us, hl with | [_, _], _ => rfl
    m_u_law_near := PySem.W.mg_of X G a_u_law_near
    k_u_law_near := k_u_law_near
    F_u_law_match_word := F_u_law_match_word
    b_u_law_match_word := F_u_law_match_word.bindsN fun _ _ _ _ _ _ us hl => match us, hl with | [_, _], _ => rfl
    m_u_law_match_word := PySem.W.mg_of X G a_u_law_match_word
    k_u_law_match_word := k_u_law_match_word
    F_entries_fault := F_entries_fault
    b_entries_fault := F_entries_fault.bindsN fun _ _ _ _ _ _ us hl => match us, hl with | [_], _ => rfl
    m_entries_fault := PySem.W.mg_of X G a_entries_fault
    k_entries_fault := k_entries_fault
    l_BadPattern := ⟨_, _, _, _, _, _, _, _, _, rfl, l_BadPattern___init, c_BadPattern___init⟩
    b_BadPattern___init := .all fun us hl => match us, hl with | [_, _, _], _ => rfl
    S_BadPattern := ⟨rfl, rfl, rfl, by decide +kernel, rfl, by decide +kernel, by decide +kernel, fun y hy => (show ∀ p ∈ (defScope s_BadPattern___init).names, p.2 = .free → p.1 = ("__class__" : Str) by decide +kernel) _ (lookup_mem hy) rfl, rfl, rfl, ⟨_, _, _, _, _, _, k1_BadPattern, k2_BadPattern, k3_BadPattern⟩, ⟨_, _, _, k4_BadPattern⟩, ⟨⟨nm_BadPattern, q_BadPattern, N_BadPattern, bs_BadPattern, _, sn_BadPattern, sub_BadPattern, ab_BadPattern, col_BadPattern, dd_BadPattern, m0_BadPattern, m1_BadPattern, m2_BadPattern, m3_BadPattern, m5_BadPattern, x_BadPattern, rfl⟩, sa_BadPattern, ex_BadPattern, ty_BadPattern, kc_BadPattern⟩, su_BadPattern, iv_BadPattern, se_BadPattern, opq, PySem.W.mg_none_of X G z_super, u_BadPattern⟩
    e_BadPattern := ⟨⟨nm_BadPattern, q_BadPattern, N_BadPattern, bs_BadPattern, _, sn_BadPattern, sub_BadPattern, ab_BadPattern, col_BadPattern, dd_BadPattern, m0_BadPattern, m1_BadPattern, m2_BadPattern, m3_BadPattern, m5_BadPattern, x_BadPattern, rfl⟩, sa_BadPattern, ex_BadPattern, ty_BadPattern, kc_BadPattern⟩
    ei_BadPattern := a_BadPattern___init
    et_BadPattern := t_BadPattern___init
    x_BadPattern := ⟨ga_BadPattern, gg_BadPattern, ex_BadPattern, hd_BadPattern⟩
    n_BadPattern_index := n_BadPattern_index
    n_BadPattern_what := n_BadPattern_what
    F_Pattern___init := F_Pattern___init
    b_Pattern___init := F_Pattern___init.bindsN fun _ _ _ _ _ _ us hl => match us, hl with | [_, _], _ => rfl
    F_u_law_word := F_u_law_word
    b_u_law_word := F_u_law_word.bindsN fun _ _ _ _ _ _ us hl => match us, hl with | [_], _ => rfl
    m_u_law_word := PySem.W.mg_of X G a_u_law_word
    k_u_law_word := k_u_law_word
    l_BadMatch := ⟨_, _, _, _, _, _, _, _, _, rfl, l_BadMatch___init, c_BadMatch___init⟩
    b_BadMatch___init := .all fun us hl => match us, hl with | [_, _], _ => rfl
    S_BadMatch := ⟨rfl, rfl, rfl, by decide +kernel, rfl, by decide +kernel, by decide +kernel, fun y hy => (show ∀ p ∈ (defScope s_BadMatch___init).names, p.2 = .free → p.1 = ("__class__" : Str) by decide +kernel) _ (lookup_mem hy) rfl, rfl, rfl, ⟨_, _, _, _, _, _, k1_BadMatch, k2_BadMatch, k3_BadMatch⟩, ⟨_, _, _, k4_BadMatch⟩, ⟨⟨nm_BadMatch, q_BadMatch, N_BadMatch, bs_BadMatch, _, sn_BadMatch, sub_BadMatch, ab_BadMatch, col_BadMatch, dd_BadMatch, m0_BadMatch, m1_BadMatch, m2_BadMatch, m3_BadMatch, m5_BadMatch, x_BadMatch, rfl⟩, sa_BadMatch, ex_BadMatch, ty_BadMatch, kc_BadMatch⟩, su_BadMatch, iv_BadMatch, se_BadMatch, opq, PySem.W.mg_none_of X G z_super, u_BadMatch⟩
    e_BadMatch := ⟨⟨nm_BadMatch, q_BadMatch, N_BadMatch, bs_BadMatch, _, sn_BadMatch, sub_BadMatch, ab_BadMatch, col_BadMatch, dd_BadMatch, m0_BadMatch, m1_BadMatch, m2_BadMatch, m3_BadMatch, m5_BadMatch, x_BadMatch, rfl⟩, sa_BadMatch, ex_BadMatch, ty_BadMatch, kc_BadMatch⟩
    ei_BadMatch := a_BadMatch___init
    et_BadMatch := t_BadMatch___init
    x_BadMatch := ⟨ga_BadMatch, gg_BadMatch, ex_BadMatch, hd_BadMatch⟩
    n_BadMatch_what := n_BadMatch_what
    F_check_match := F_check_match
    b_check_match := F_check_match.bindsN fun _ _ _ _ _ _ us hl => match us, hl with | [_, _], _ => rfl
    m_check_match := PySem.W.mg_of X G a_check_match
    k_check_match := k_check_match
    F_is_finer := F_is_finer
    b_is_finer := F_is_finer.bindsN fun _ _ _ _ _ _ us hl => match us, hl with | [_, _], _ => rfl
    m_is_finer := PySem.W.mg_of X G a_is_finer
    k_is_finer := k_is_finer
    F_class_numbers := F_class_numbers
    b_class_numbers := F_class_numbers.bindsN fun _ _ _ _ _ _ us hl => match us, hl with | [_], _ => rfl
    m_class_numbers := PySem.W.mg_of X G a_class_numbers
    k_class_numbers := k_class_numbers
    F_merged_marks := F_merged_marks
    b_merged_marks := F_merged_marks.bindsN fun _ _ _ _ _ _ us hl => match us, hl with | [_, _], _ => rfl
    m_merged_marks := PySem.W.mg_of X G a_merged_marks
    k_merged_marks := k_merged_marks
    F_Pattern___or := F_Pattern___or
    b_Pattern___or := F_Pattern___or.bindsN fun _ _ _ _ _ _ us hl => match us, hl with | [_, _], _ => rfl
    F_Pattern___and := F_Pattern___and
    b_Pattern___and := F_Pattern___and.bindsN fun _ _ _ _ _ _ us hl => match us, hl with | [_, _], _ => rfl
    tb_u_law_unmatched_right := tbx
    cd_u_law_unmatched_right := rfl
    F_u_law_unmatched_right := F_u_law_unmatched_right
    b_u_law_unmatched_right := F_u_law_unmatched_right.bindsN fun _ _ _ _ _ _ us hl => match us, hl with | [_, _], _ => rfl
    m_u_law_unmatched_right := PySem.W.mg_of X G a_u_law_unmatched_right
    k_u_law_unmatched_right := k_u_law_unmatched_right
    F_u_law_is := F_u_law_is
    b_u_law_is := F_u_law_is.bindsN fun _ _ _ _ _ _ us hl => match us, hl with | [_, _], _ => rfl
    m_u_law_is := PySem.W.mg_of X G a_u_law_is
    k_u_law_is := k_u_law_is
    F_u_law_above := F_u_law_above
    b_u_law_above := F_u_law_above.bindsN fun _ _ _ _ _ _ us hl => match us, hl with | [_, _], _ => rfl
    m_u_law_above := PySem.W.mg_of X G a_u_law_above
    k_u_law_above := k_u_law_above
    F_u_law_beneath := F_u_law_beneath
    b_u_law_beneath := F_u_law_beneath.bindsN fun _ _ _ _ _ _ us hl => match us, hl with | [_, _], _ => rfl
    m_u_law_beneath := PySem.W.mg_of X G a_u_law_beneath
    k_u_law_beneath := k_u_law_beneath
    F_Pattern___eq := F_Pattern___eq
    b_Pattern___eq := F_Pattern___eq.bindsN fun _ _ _ _ _ _ us hl => match us, hl with | [_, _], _ => rfl
    F_u_law_finer := F_u_law_finer
    b_u_law_finer := F_u_law_finer.bindsN fun _ _ _ _ _ _ us hl => match us, hl with | [_, _], _ => rfl
    m_u_law_finer := PySem.W.mg_of X G a_u_law_finer
    k_u_law_finer := k_u_law_finer
    F_u_law_pair_right := F_u_law_pair_right
    b_u_law_pair_right := F_u_law_pair_right.bindsN fun _ _ _ _ _ _ us hl => match us, hl with | [_, _], _ => rfl
    m_u_law_pair_right := PySem.W.mg_of X G a_u_law_pair_right
    k_u_law_pair_right := k_u_law_pair_right
    F_u_law_three_right := F_u_law_three_right
    b_u_law_three_right := F_u_law_three_right.bindsN fun _ _ _ _ _ _ us hl => match us, hl with | [_, _, _], _ => rfl
    m_u_law_three_right := PySem.W.mg_of X G a_u_law_three_right
    k_u_law_three_right := k_u_law_three_right
    F_law := F_law
    b_law := F_law.bindsN fun _ _ _ _ _ _ us hl => match us, hl with | [_], _ => rfl
    m_law := PySem.W.mg_of X G a_law
    k_law := k_law
    hn := hn
    ht := ht
    cl_Pattern := ⟨pg_Pattern, hd_Pattern, po_Pattern, sa_Pattern⟩
    ha_Pattern := ha_Pattern
    hm_Pattern := hm_Pattern
    na_Pattern_entries := na_Pattern_entries
    mk_Pattern := ⟨mk_Pattern, a_Pattern___init, i_Pattern___init, kc_Pattern⟩
    q_Pattern := ⟨a_Pattern___eq, i_Pattern___eq⟩
    qn_Pattern := ⟨qn_Pattern, so_Pattern⟩
    sf_Pattern := sf_Pattern
    qb_Pattern___or := ⟨by
      rw [show PySem.dunder Operator.BitOr.info.2 = ("__or__" : Str) from by decide +kernel]
      exact a_Pattern___or, i_Pattern___or⟩
    qb_Pattern___and := ⟨by
      rw [show PySem.dunder Operator.BitAnd.info.2 = ("__and__" : Str) from by decide +kernel]
      exact a_Pattern___and, i_Pattern___and⟩
    nf_Pattern_Pattern := nf_Pattern_Pattern
    is_0 := kit_ref (fun _ => rfl) ic_Pattern ty_Pattern sb_Pattern_Pattern
    xm_BadMatch_0 := PySem.W.exm_ref ex_BadMatch hd_BadMatch ty_BadMatch sb_CustomError_BadMatch
    xm_BadMatch_1 := PySem.W.exm_ref ex_BadMatch hd_BadMatch ty_BadMatch sb_BadPattern_BadMatch
    xm_BadMatch_2 := PySem.W.exm_ref ex_BadMatch hd_BadMatch ty_BadMatch sb_BadMatch_BadMatch
    xm_BadPattern_0 := PySem.W.exm_ref ex_BadPattern hd_BadPattern ty_BadPattern sb_CustomError_BadPattern
    xm_BadPattern_1 := PySem.W.exm_ref ex_BadPattern hd_BadPattern ty_BadPattern sb_BadPattern_BadPattern
    xm_BadPattern_2 := PySem.W.exm_ref ex_BadPattern hd_BadPattern ty_BadPattern sb_BadMatch_BadPattern }
  refine (ok_law T).imp fun vs H Q E hsp => ?_
  exact law_spec vs H Q E hsp
theorem walk {q : Program} {loose : List Str} {XP : (Str → Option Value) → Heap → Prop} {YP : World → Heap → Prop} {d : DefRec} {K : Params → PySem.W.Frag} (hdf : d.params.defaults = []) (hrec : ((PyProof.Rows.recsOf q).find? fun e => e.name == ("_law_unmatched_right" : Str)).isSome = true)
    (hY : ∀ (w : World) (h : Heap), YP w h → (K w.params).In h)
    (F : ∀ (w : World) (mg : Str → Option Value) (fa : Addr) (h : Heap), (K w.params).In h → h.Ns mainGlobals mg → mg d.name = some (.ref fa) →
      ∃ (c P : Addr) (fd : FuncData), PySem.W.tabIn (K w.params) "_law_unmatched_right" = some (c, P) ∧ (K w.params).lookup P = none ∧ (∀ (s : Shared) (u : Value), BindsTo s fd ⟨[u], []⟩ [("_law_script", u)]) ∧ ∀ base : Heap, (K w.params).In base → base.Ns mainGlobals mg → LamX.TabB base mg c P → FnOk PW w (K w.params) mg base (L2.CX PW w) 9 fa fd ["_law_script"] (spLaw (K w.params) P)) :
    PySem.W.WalkO q loose XP YP PySem.Challenge.rw_namesakes_k26_whole_finer_least_above_an.row.toRowW d [] (fun f vs => PySem.call f vs) := by
  refine Att.attach_callB (l := PySem.Challenge.rw_namesakes_k26_whole_finer_least_above_an) (n := 63) rfl hdf fun w s0 s1 mg mb fa o pm cd doc a vs ns G0 Y ho hd hcd hmg hobj hints hlen hbits hg => ?_
  have KX := hY w _ Y
  obtain ⟨c, P, fd, ht, nT, hb, hF⟩ := F w mg fa _ KX G0.T.g hmg
  obtain ⟨dr, hdr⟩ := Option.isSome_iff_exists.mp hrec
  obtain ⟨C, hP⟩ := PySem.W.tab_of G0.T KX hdr ht
  exact LamX.law_callTs (CX := L2.CX PW w) (cs := [(c, P)]) KX G0.T.g G0.T.b G0.T.builtins G0.T.nolimit hg (fun p hp => by cases List.mem_singleton.mp hp; exact hP) (fun p hp => by cases List.mem_singleton.mp hp; exact nT) (fun p hp => by cases List.mem_singleton.mp hp; exact C)
    G0.T.bmain hobj hints (Nat.le_trans hlen (by decide)) ⟨rfl, by decide, by decide⟩ (fun base h1 h2 h3 => hF base h1 h2 (h3 _ List.mem_cons_self)) hb (fun H hH hS => ⟨a, ns, rfl, hS, hlen, hH _ List.mem_cons_self, fun _ => rfl⟩) (fun H e s2 z => NK.cx_false z)
end G
open PySem PySem.W PyProof.Rows in
set_option maxRecDepth 100000 in
set_option maxHeartbeats 0 in
theorem PySem.Challenge.cw_namesakes_k26_whole_finer_least_above_an_holds : PySem.Challenge.rw_namesakes_k26_whole_finer_least_above_an.Holds := by
  w_on; o_law; k_head; (case hw => w_witness2)
  k_fill
  refine G.walk rfl (by kernel_rfl) (fun w h Y => PySem.W.km_in_of Y) ?F
  case F =>
    intro w mg fa h KX Gn hmg
    refine' G.all_mk KX Gn hmg ?z_abs ?z_bool ?z_enumerate ?z_int ?z_isinstance ?z_len ?z_list ?z_range ?z_super ?z_tuple ?z_zip ?g_MOST_PLACES ?a_CustomError ?a_BadPattern ?a_BadMatch ?a_Pattern ?a_u_law_hand ?l_u_law_hand ?c_u_law_hand ?k_u_law_hand ?a_u_law_mix ?l_u_law_mix ?c_u_law_mix ?k_u_law_mix ?a_u_law_draw ?l_u_law_draw ?c_u_law_draw ?k_u_law_draw ?a_u_law_pick ?l_u_law_pick ?c_u_law_pick ?k_u_law_pick ?a_u_law_mask ?l_u_law_mask ?c_u_law_mask ?k_u_law_mask ?a_u_law_on ?l_u_law_on ?c_u_law_on ?k_u_law_on ?a_u_law_numbers ?l_u_law_numbers ?c_u_law_numbers ?k_u_law_numbers ?a_u_law_near ?l_u_law_near ?c_u_law_near ?k_u_law_near ?a_u_law_match_word ?l_u_law_match_word ?c_u_law_match_word ?k_u_law_match_word ?a_entries_fault ?l_entries_fault ?c_entries_fault ?k_entries_fault ?a_BadPattern___init ?t_BadPattern___init ?l_BadPattern___init ?c_BadPattern___init ?k1_BadPattern ?k2_BadPattern ?k3_BadPattern ?k4_BadPattern ?x_BadPattern ?sa_BadPattern ?ex_BadPattern ?ty_BadPattern ?kc_BadPattern ?ga_BadPattern ?gg_BadPattern ?hd_BadPattern ?su_BadPattern ?iv_BadPattern ?se_BadPattern ?opq ?u_BadPattern ?n_BadPattern_index ?n_BadPattern_what ?a_Pattern___init ?l_Pattern___init ?c_Pattern___init ?k_Pattern___init ?i_Pattern___init ?a_u_law_word ?l_u_law_word ?c_u_law_word ?k_u_law_word ?a_BadMatch___init ?t_BadMatch___init ?l_BadMatch___init ?c_BadMatch___init ?k1_BadMatch ?k2_BadMatch ?k3_BadMatch ?k4_BadMatch ?x_BadMatch ?sa_BadMatch ?ex_BadMatch ?ty_BadMatch ?kc_BadMatch ?ga_BadMatch ?gg_BadMatch ?hd_BadMatch ?su_BadMatch ?iv_BadMatch ?se_BadMatch ?u_BadMatch ?n_BadMatch_what ?a_check_match ?l_check_match ?c_check_match ?k_check_match ?a_is_finer ?l_is_finer ?c_is_finer ?k_is_finer ?a_class_numbers ?l_class_numbers ?c_class_numbers ?k_class_numbers ?a_merged_marks ?l_merged_marks ?c_merged_marks ?k_merged_marks ?a_Pattern___or ?l_Pattern___or ?c_Pattern___or ?k_Pattern___or ?i_Pattern___or ?a_Pattern___and ?l_Pattern___and ?c_Pattern___and ?k_Pattern___and ?i_Pattern___and ?a_u_law_unmatched_right ?l_u_law_unmatched_right ?c_u_law_unmatched_right ?kq_u_law_unmatched_right ?kt_u_law_unmatched_right ?np_u_law_unmatched_right ?k_u_law_unmatched_right ?a_u_law_is ?l_u_law_is ?c_u_law_is ?k_u_law_is ?a_u_law_above ?l_u_law_above ?c_u_law_above ?k_u_law_above ?a_u_law_beneath ?l_u_law_beneath ?c_u_law_beneath ?k_u_law_beneath ?a_Pattern___eq ?l_Pattern___eq ?c_Pattern___eq ?k_Pattern___eq ?i_Pattern___eq ?a_u_law_finer ?l_u_law_finer ?c_u_law_finer ?k_u_law_finer ?a_u_law_pair_right ?l_u_law_pair_right ?c_u_law_pair_right ?k_u_law_pair_right ?a_u_law_three_right ?l_u_law_three_right ?c_u_law_three_right ?k_u_law_three_right ?a_law ?l_law ?c_law ?k_law ?hn ?ht ?pg_Pattern ?hd_Pattern ?po_Pattern ?sa_Pattern ?ha_Pattern ?hm_Pattern ?na_Pattern_entries ?mk_Pattern ?kc_Pattern ?qn_Pattern ?so_Pattern ?sf_Pattern ?nf_Pattern_Pattern ?ic_Pattern ?ty_Pattern ?sb_Pattern_Pattern ?sb_CustomError_BadMatch ?sb_BadPattern_BadMatch ?sb_BadMatch_BadMatch ?sb_CustomError_BadPattern ?sb_BadPattern_BadPattern ?sb_BadMatch_BadPattern
    (case z_abs => k_is)
    (case z_bool => k_is)
    (case z_enumerate => k_is)
    (case z_int => k_is)
    (case z_isinstance => k_is)
    (case z_len => k_is)
    (case z_list => k_is)
    (case z_range => k_is)
    (case z_super => k_is)
    (case z_tuple => k_is)
    (case z_zip => k_is)
    (case g_MOST_PLACES => k_is)
    (case a_CustomError => k_is)
    (case a_BadPattern => k_is)
    (case a_BadMatch => k_is)
    (case a_Pattern => k_is)
    (case a_u_law_hand => k_is)
    (case l_u_law_hand => k_is)
    (case c_u_law_hand => k_is)
    (case k_u_law_hand => k_is)
    (case a_u_law_mix => k_is)
    (case l_u_law_mix => k_is)
    (case c_u_law_mix => k_is)
    (case k_u_law_mix => k_is)
    (case a_u_law_draw => k_is)
    (case l_u_law_draw => k_is)
    (case c_u_law_draw => k_is)
    (case k_u_law_draw => k_is)
    (case a_u_law_pick => k_is)
    (case l_u_law_pick => k_is)
    (case c_u_law_pick => k_is)
    (case k_u_law_pick => k_is)
    (case a_u_law_mask => k_is)
    (case l_u_law_mask => k_is)
    (case c_u_law_mask => k_is)
    (case k_u_law_mask => k_is)
    (case a_u_law_on => k_is)
    (case l_u_law_on => k_is)
    (case c_u_law_on => k_is)
    (case k_u_law_on => k_is)
    (case a_u_law_numbers => k_is)
    (case l_u_law_numbers => k_is)
    (case c_u_law_numbers => k_is)
    (case k_u_law_numbers => k_is)
    (case a_u_law_near => k_is)
    (case l_u_law_near => k_is)
    (case c_u_law_near => k_is)
    (case k_u_law_near => k_is)
    (case a_u_law_match_word => k_is)
    (case l_u_law_match_word => k_is)
    (case c_u_law_match_word => k_is)
    (case k_u_law_match_word => k_is)
    (case a_entries_fault => k_is)
    (case l_entries_fault => k_is)
    (case c_entries_fault => k_is)
    (case k_entries_fault => k_is)
    (case a_BadPattern___init => k_is)
    (case t_BadPattern___init => k_is)
    (case l_BadPattern___init => k_is)
    (case c_BadPattern___init => k_is)
    (case k1_BadPattern => k_is)
    (case k2_BadPattern => rfl)
    (case k3_BadPattern => decide +kernel)
    (case k4_BadPattern => k_is)
    (case x_BadPattern => k_is)
    (case sa_BadPattern => k_is)
    (case ex_BadPattern => k_is)
    (case ty_BadPattern => k_is)
    (case kc_BadPattern => k_is)
    (case ga_BadPattern => k_is)
    (case gg_BadPattern => k_is)
    (case hd_BadPattern => k_is)
    (case su_BadPattern => ks_is)
    (case iv_BadPattern => k_is)
    (case se_BadPattern => k_is)
    (case opq => k_is)
    (case u_BadPattern => decide +kernel)
    (case n_BadPattern_index => k_is)
    (case n_BadPattern_what => k_is)
    (case a_Pattern___init => k_is)
    (case l_Pattern___init => k_is)
    (case c_Pattern___init => k_is)
    (case k_Pattern___init => k_is)
    (case i_Pattern___init => k_is)
    (case a_u_law_word => k_is)
    (case l_u_law_word => k_is)
    (case c_u_law_word => k_is)
    (case k_u_law_word => k_is)
    (case a_BadMatch___init => k_is)
    (case t_BadMatch___init => k_is)
    (case l_BadMatch___init => k_is)
    (case c_BadMatch___init => k_is)
    (case k1_BadMatch => k_is)
    (case k2_BadMatch => rfl)
    (case k3_BadMatch => decide +kernel)
    (case k4_BadMatch => k_is)
    (case x_BadMatch => k_is)
    (case sa_BadMatch => k_is)
    (case ex_BadMatch => k_is)
    (case ty_BadMatch => k_is)
    (case kc_BadMatch => k_is)
    (case ga_BadMatch => k_is)
    (case gg_BadMatch => k_is)
    (case hd_BadMatch => k_is)
    (case su_BadMatch => ks_is)
    (case iv_BadMatch => k_is)
    (case se_BadMatch => k_is)
    (case u_BadMatch => decide +kernel)
    (case n_BadMatch_what => k_is)
    (case a_check_match => k_is)
    (case l_check_match => k_is)
    (case c_check_match => k_is)
    (case k_check_match => k_is)
    (case a_is_finer => k_is)
    (case l_is_finer => k_is)
    (case c_is_finer => k_is)
    (case k_is_finer => k_is)
    (case a_class_numbers => k_is)
    (case l_class_numbers => k_is)
    (case c_class_numbers => k_is)
    (case k_class_numbers => k_is)
    (case a_merged_marks => k_is)
    (case l_merged_marks => k_is)
    (case c_merged_marks => k_is)
    (case k_merged_marks => k_is)
    (case a_Pattern___or => k_is)
    (case l_Pattern___or => k_is)
    (case c_Pattern___or => k_is)
    (case k_Pattern___or => k_is)
    (case i_Pattern___or => k_is)
    (case a_Pattern___and => k_is)
    (case l_Pattern___and => k_is)
    (case c_Pattern___and => k_is)
    (case k_Pattern___and => k_is)
    (case i_Pattern___and => k_is)
    (case a_u_law_unmatched_right => k_is)
    (case l_u_law_unmatched_right => k_is)
    (case c_u_law_unmatched_right => k_is)
    (case kq_u_law_unmatched_right => k_is)
    (case kt_u_law_unmatched_right => rfl)
    (case np_u_law_unmatched_right => first | k_is | kernel_rfl)
    (case k_u_law_unmatched_right => k_is)
    (case a_u_law_is => k_is)
    (case l_u_law_is => k_is)
    (case c_u_law_is => k_is)
    (case k_u_law_is => k_is)
    (case a_u_law_above => k_is)
    (case l_u_law_above => k_is)
    (case c_u_law_above => k_is)
    (case k_u_law_above => k_is)
    (case a_u_law_beneath => k_is)
    (case l_u_law_beneath => k_is)
    (case c_u_law_beneath => k_is)
    (case k_u_law_beneath => k_is)
    (case a_Pattern___eq => k_is)
    (case l_Pattern___eq => k_is)
    (case c_Pattern___eq => k_is)
    (case k_Pattern___eq => k_is)
    (case i_Pattern___eq => k_is)
    (case a_u_law_finer => k_is)
    (case l_u_law_finer => k_is)
    (case c_u_law_finer => k_is)
    (case k_u_law_finer => k_is)
    (case a_u_law_pair_right => k_is)
    (case l_u_law_pair_right => k_is)
    (case c_u_law_pair_right => k_is)
    (case k_u_law_pair_right => k_is)
    (case a_u_law_three_right => k_is)
    (case l_u_law_three_right => k_is)
    (case c_u_law_three_right => k_is)
    (case k_u_law_three_right => k_is)
    (case a_law => k_is)
    (case l_law => k_is)
    (case c_law => k_is)
    (case k_law => k_is)
    (case hn => k_is)
    (case ht => k_is)
    (case pg_Pattern => k_is)
    (case hd_Pattern => k_is)
    (case po_Pattern => k_is)
    (case sa_Pattern => k_is)
    (case ha_Pattern => k_is)
    (case hm_Pattern => k_is)
    (case na_Pattern_entries => k_is)
    (case mk_Pattern => k_is)
    (case kc_Pattern => k_is)
    (case qn_Pattern => k_is)
    (case so_Pattern => k_is)
    (case sf_Pattern => k_is)
    (case nf_Pattern_Pattern => k_is)
    (case ic_Pattern => k_is)
    (case ty_Pattern => k_is)
    (case sb_Pattern_Pattern => k_is)
    (case sb_CustomError_BadMatch => k_is)
    (case sb_BadPattern_BadMatch => k_is)
    (case sb_BadMatch_BadMatch => k_is)
    (case sb_CustomError_BadPattern => k_is)
    (case sb_BadPattern_BadPattern => k_is)
    (case sb_BadMatch_BadPattern => k_is)

