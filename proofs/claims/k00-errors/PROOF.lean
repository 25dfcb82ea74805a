import PyProof.Rows.All
import Wide.All
import OpenK.AllK
import Wide.FinOn
import HandS.ForMost
import HandS.IsInst
import HandS.ForExc
import HandS.Walk
import HandS.CallSlots
import HandS.Strs
import HandS.Lambda
import HandS.ExcInit
import HandS.Wide
import KE.KSuper
import KE.KExcSuper
import HandS.ExcIs
import HandS.ExcField
import HandS.ExcOwn
import HandS.SetBool
import KE.GoesMore
import HandS.WordsExc
import HandS.Defaults
import HandS.Conv
import HandS.Dict
import HandS.TupAny
import HandS.Deep
import HandS.OwnIter
import HandS.IterVal
import HandS.Style
import PyProof.WalksMore
import PyProof.CollectWalk
import HandS.Iter
import HandS.GenList
import HandS.Star
import HandS.Text
import HandS.StrMore
import HandS.FStr
import HandS.Flow
import PyProof.FString3
import PyProof.StrOps2
import KE.KxField
import HandS.TryMany
import HandS.EndTab
import HandS.ClsMeth
import HandS.OwnEq
import HandS.MakeKwOnly
import HandS.RaiseMore
import KE.KCallOwn
import HandS.More
import HandS.Replace
import HandS.Head0
import HandS.Head1
import HandS.Head2
import HandS.HeadEnd
import HandS.HeadHook4
import PyProof.Rows.NestShow
import PyProof.FString2
import HandS.ExcValue
import PySem.Challenge.RW_namesakes_k00_errors_side_by_side
import KE.DataMinMax
import HandS.SortKw
import KE.RegKSuper
import HandS.MakeKw
set_option Elab.async false
set_option linter.all false
set_option maxRecDepth 100000
set_option maxHeartbeats 2000000
namespace NK
open PySem L2

inductive Ty where
  | none | bool | int | str | list | tuple | dict
  deriving DecidableEq
def Ty.name : Ty → String
  | .none => "NoneType" | .bool => "bool" | .int => "int" | .str => "str" | .list => "list" | .tuple => "tuple" | .dict => "dict"
inductive U where
  | non | bl (b : Bool) | int (i : Int) | str (x : Str)
  | tup (us : List U) | lst (us : List U) | ins (k : Nat) (us : List U)
  | exn (k : Nat) (us : List U)
  | loc (i : Nat)
  | ty (t : Ty) | cls (k : Nat) | scr (us : List U)

inductive Ob where
  | lst (us : List U)
  | dK (kvs : List (Key × U))
  | dT (kvs : List (List Key × U))
  | ins (k : Nat) (us : List U)
  | iset (ks : List Int)
  | dead
  | lk (o : Ob)
def Ob.isLk : Ob → Bool
  | .lk _ => true
  | _ => false

abbrev Sto := List Ob

structure Ex where
  k : Nat
  us : List U

inductive Out (α : Type) where
  | ok (a : α) (s : Sto)
  | exc (x : Ex) (s : Sto)
  | bad

def Out.bind {α β : Type} (r : Out α) (f : α → Sto → Out β) : Out β := match r with
  | .ok a s => f a s
  | .exc x s => .exc x s
  | .bad => .bad

structure Tb where
  w : World
  K : PySem.W.Frag
  cls : Nat → Addr
  fld : Nat → List Str
  tabs : List (Addr × Str) := []

structure Cn where
  ρ : Nat → Addr
  n : Nat
  F : Hp
  L : Hp

def XnAt (T : Tb) (F : Hp) (a : Addr) (k : Nat) (vs : List V) : Prop :=
  (vs = [] ∧ F a = some (exo a (T.cls k) none)) ∨ ∃ d, F a = some (exo a (T.cls k) (some d)) ∧ F d = some (exd d ((T.fld k).zip vs).reverse) ∧ vs.length = (T.fld k).length
theorem XnAt.mono {T : Tb} {F F' : Hp} {a : Addr} {k : Nat} {vs : List V} (h : ∀ b o, F b = some o → F' b = some o) (x : XnAt T F a k vs) : XnAt T F' a k vs := by
  rcases x with ⟨e, q⟩ | ⟨d, q, r, l⟩
  · exact .inl ⟨e, h _ _ q⟩
  · exact .inr ⟨d, h _ _ q, h _ _ r, l⟩
mutual
inductive Rp (T : Tb) (c : Cn) : U → V → Prop
  | non : Rp T c .non .non
  | bl (b : Bool) : Rp T c (.bl b) (.bl b)
  | int (i : Int) : Rp T c (.int i) (.int i)
  | str (x : Str) : Rp T c (.str x) (.str x)
  | ty (t : Ty) : Rp T c (.ty t) (.ty t.name)
  | cls (k : Nat) : Rp T c (.cls k) (.ref (T.cls k))
  | scr {us : List U} {a : Addr} {vs : List V} : SqL T.K c.F a vs → RpL T c us vs → Rp T c (.scr us) (.ref a)
  | tup {us : List U} {a : Addr} {vs : List V} : SqT T.K c.F a vs → RpL T c us vs → Rp T c (.tup us) (.ref a)
  | lst {us : List U} {a : Addr} {vs : List V} : c.F a = some (.lst vs) → RpL T c us vs → Rp T c (.lst us) (.ref a)
  | ins {k : Nat} {us : List U} {a dx : Addr} {vs : List V} : c.F a = some (.ins (T.cls k) dx ((T.fld k).zip vs)) → vs.length ≤ (T.fld k).length → RpL T c us vs → Rp T c (.ins k us) (.ref a)
  | exn {k : Nat} {us : List U} {a : Addr} {vs : List V} : XnAt T c.F a k vs → RpL T c us vs → Rp T c (.exn k us) (.ref a)
  | loc {i : Nat} : i < c.n → Rp T c (.loc i) (.ref (c.ρ i))
inductive RpL (T : Tb) (c : Cn) : List U → List V → Prop
  | nil : RpL T c [] []
  | cons {u : U} {v : V} {us : List U} {vs : List V} : Rp T c u v → RpL T c us vs → RpL T c (u :: us) (v :: vs)
end

inductive RpK {κ : Type} (T : Tb) (c : Cn) : List (κ × U) → List (κ × V) → Prop
  | nil : RpK T c [] []
  | cons {k : κ} {u : U} {v : V} {us : List (κ × U)} {vs : List (κ × V)} : Rp T c u v → RpK T c us vs → RpK T c ((k, u) :: us) ((k, v) :: vs)

structure Le (c c' : Cn) : Prop where
  n : c.n ≤ c'.n
  ρ : ∀ i, i < c.n → c'.ρ i = c.ρ i
  F : ∀ a o, c.F a = some o → c'.F a = some o
  L : ∀ a o, c.L a = some o → c'.L a = some o
theorem Le.refl (c : Cn) : Le c c := ⟨Nat.le_refl _, fun _ _ => rfl, fun _ _ h => h, fun _ _ h => h⟩
theorem Le.trans {a b c : Cn} (h : Le a b) (g : Le b c) : Le a c :=
  ⟨Nat.le_trans h.n g.n, fun i hi => (g.ρ i (Nat.lt_of_lt_of_le hi h.n)).trans (h.ρ i hi), fun x o e => g.F x o (h.F x o e), fun x o e => g.L x o (h.L x o e)⟩

theorem rd_mono {F F' : Hp} (h : ∀ a o, F a = some o → F' a = some o) {a : Addr} {u : HO} (r : Rd F a u) : Rd F' a u := by
  rcases r with r | ⟨o, r⟩
  · exact .inl (h _ _ r)
  · exact .inr ⟨o, h _ _ r⟩
theorem sqT_mono {K : PySem.W.Frag} {F F' : Hp} (h : ∀ a o, F a = some o → F' a = some o) {a : Addr} {vs : List V} (r : SqT K F a vs) : SqT K F' a vs := by
  rcases r with r | r
  · exact .inl (rd_mono h r)
  · exact .inr r
theorem sqL_mono {K : PySem.W.Frag} {F F' : Hp} (h : ∀ a o, F a = some o → F' a = some o) {a : Addr} {vs : List V} (r : SqL K F a vs) : SqL K F' a vs := by
  rcases r with r | r
  · exact .inl (rd_mono h r)
  · exact .inr r

mutual
theorem Rp.mono {T : Tb} {c c' : Cn} (h : Le c c') : ∀ {u : U} {v : V}, Rp T c u v → Rp T c' u v
  | _, _, .non => .non
  | _, _, .bl b => .bl b
  | _, _, .int i => .int i
  | _, _, .str x => .str x
  | _, _, .ty n => .ty n
  | _, _, .cls k => .cls k
  | _, _, .scr e r => .scr (sqL_mono h.F e) (RpL.mono h r)
  | _, _, .tup e r => .tup (sqT_mono h.F e) (RpL.mono h r)
  | _, _, .lst e r => .lst (h.F _ _ e) (RpL.mono h r)
  | _, _, .ins e l r => .ins (h.F _ _ e) l (RpL.mono h r)
  | _, _, .exn e r => .exn (e.mono h.F) (RpL.mono h r)
  | _, _, .loc (i := i) hi => by
    have e := h.ρ i hi
    rw [← e]
    exact .loc (Nat.lt_of_lt_of_le hi h.n)
theorem RpL.mono {T : Tb} {c c' : Cn} (h : Le c c') : ∀ {us : List U} {vs : List V}, RpL T c us vs → RpL T c' us vs
  | _, _, .nil => .nil
  | _, _, .cons r t => .cons (Rp.mono h r) (RpL.mono h t)
end
theorem RpK.mono {κ : Type} {T : Tb} {c c' : Cn} (h : Le c c') : ∀ {us : List (κ × U)} {vs : List (κ × V)}, RpK T c us vs → RpK T c' us vs
  | _, _, .nil => .nil
  | _, _, .cons r t => .cons (Rp.mono h r) (RpK.mono h t)

section
variable {T : Tb} {c : Cn}
theorem RpL.length : ∀ {us : List U} {vs : List V}, RpL T c us vs → us.length = vs.length
  | _, _, .nil => rfl
  | _, _, .cons _ t => by simp [RpL.length t]
theorem RpL.get : ∀ {us : List U} {vs : List V} {i : Nat} {u : U}, RpL T c us vs → us[i]? = some u → ∃ v, vs[i]? = some v ∧ Rp T c u v
  | _, _, _, _, .nil, e => by simp at e
  | _, _, 0, _, .cons r _, e => by simp at e; subst e; exact ⟨_, rfl, r⟩
  | _, _, i + 1, u, .cons _ t, e => by
    obtain ⟨v, h1, h2⟩ := RpL.get (i := i) (u := u) t (by simpa using e)
    exact ⟨v, by simpa using h1, h2⟩
theorem RpL.getV : ∀ {us : List U} {vs : List V} {i : Nat} {v : V}, RpL T c us vs → vs[i]? = some v → ∃ u, us[i]? = some u ∧ Rp T c u v
  | _, _, _, _, .nil, e => by simp at e
  | _, _, 0, _, .cons r _, e => by simp at e; subst e; exact ⟨_, rfl, r⟩
  | _, _, i + 1, v, .cons _ t, e => by
    obtain ⟨u, h1, h2⟩ := RpL.getV (i := i) (v := v) t (by simpa using e)
    exact ⟨u, by simpa using h1, h2⟩
theorem RpL.append : ∀ {us us' : List U} {vs vs' : List V}, RpL T c us vs → RpL T c us' vs' → RpL T c (us ++ us') (vs ++ vs')
  | _, _, _, _, .nil, s => s
  | _, _, _, _, .cons r t, s => .cons r (RpL.append t s)
theorem RpL.set : ∀ {us : List U} {vs : List V} (i : Nat) {u : U} {v : V}, RpL T c us vs → Rp T c u v → RpL T c (us.set i u) (vs.set i v)
  | _, _, _, _, _, .nil, _ => .nil
  | _, _, 0, _, _, .cons _ t, r => .cons r t
  | _, _, i + 1, _, _, .cons q t, r => .cons q (RpL.set i t r)
theorem RpL.take : ∀ {us : List U} {vs : List V} (i : Nat), RpL T c us vs → RpL T c (us.take i) (vs.take i)
  | _, _, 0, _ => .nil
  | _, _, _ + 1, .nil => .nil
  | _, _, i + 1, .cons r t => .cons r (RpL.take i t)
theorem RpL.drop : ∀ {us : List U} {vs : List V} (i : Nat), RpL T c us vs → RpL T c (us.drop i) (vs.drop i)
  | _, _, 0, r => r
  | _, _, _ + 1, .nil => .nil
  | _, _, i + 1, .cons _ t => RpL.drop i t
theorem RpL.one {u : U} {v : V} (r : Rp T c u v) : RpL T c [u] [v] := .cons r .nil
theorem RpL.inv_cons {u : U} {us : List U} {ws : List V} (r : RpL T c (u :: us) ws) : ∃ v vs, ws = v :: vs ∧ Rp T c u v ∧ RpL T c us vs := by
  cases r with
  | cons a b => exact ⟨_, _, rfl, a, b⟩
theorem RpL.inv_nil {ws : List V} (r : RpL T c [] ws) : ws = [] := by
  cases r with
  | nil => rfl
end

def RO (T : Tb) (c : Cn) : Ob → Addr → HO → Prop
  | .lst us, _, h => ∃ vs, h = .lst vs ∧ RpL T c us vs
  | .dK kvs, _, h => ∃ vs, h = .dK vs ∧ RpK T c kvs vs
  | .dT kvs, _, h => ∃ vs, h = .dT vs ∧ RpK T c kvs vs
  | .ins k us, _, h => ∃ dx vs, h = .ins (T.cls k) dx ((T.fld k).zip vs) ∧ vs.length ≤ (T.fld k).length ∧ RpL T c us vs
  | .iset ks, a, h => h = SetO T.w a (fun k => decide (k ∈ ks)) ks.length
  | .dead, _, _ => False
  | .lk o, a, h => ∃ od x, h = .frz od x ∧ c.L a = some h ∧ RO T c o a x
theorem RO.mono {T : Tb} {c c' : Cn} (l : Le c c') {o : Ob} {a : Addr} {h : HO} (r : RO T c o a h) : RO T c' o a h := by
  induction o generalizing h with
  | lk o ih => obtain ⟨od, x, e, k, r⟩ := r; exact ⟨od, x, e, l.L _ _ k, ih r⟩
  | lst us => obtain ⟨vs, e, r⟩ := r; exact ⟨vs, e, r.mono l⟩
  | dK kvs => obtain ⟨vs, e, r⟩ := r; exact ⟨vs, e, r.mono l⟩
  | dT kvs => obtain ⟨vs, e, r⟩ := r; exact ⟨vs, e, r.mono l⟩
  | ins k us => obtain ⟨dx, vs, e, z, r⟩ := r; exact ⟨dx, vs, e, z, r.mono l⟩
  | iset ks => exact r
  | dead => exact r.elim

def TabF (F H : Hp) (p : Addr × Str) : Prop := ∃ ps : Array Value, H p.1 = some (.tbl ps) ∧ TriplesOk ps.toList ∧ ∀ (z : Pos) (v : Value), codeAmong z ps.toList = some v → ∃ a, v = .ref a ∧ F a = some (LamX.CodeO a p.2)
theorem TabF.mono {F F' H H' : Hp} {p : Addr × Str} (h : TabF F H p) (f : ∀ a o, F a = some o → F' a = some o) (g : ∀ ps, H p.1 = some (.tbl ps) → H' p.1 = some (.tbl ps)) : TabF F' H' p := by
  obtain ⟨ps, h1, h2, h3⟩ := h
  refine ⟨ps, g ps h1, h2, fun z v e => ?_⟩
  obtain ⟨a, e1, e2⟩ := h3 z v e
  exact ⟨a, e1, f _ _ e2⟩
def isTbl : HO → Bool
  | .tbl _ => true
  | _ => false
structure RH (T : Tb) (c : Cn) (st : Sto) (H : Hp) : Prop where
  n : c.n = st.length
  sub : ∀ a o, c.F a = some o → H a = some o
  act : ∀ i o, st[i]? = some o → o ≠ .dead → ∃ h, H (c.ρ i) = some h ∧ RO T c o (c.ρ i) h ∧ c.F (c.ρ i) = none
  inj : ∀ i j a b, st[i]? = some a → a ≠ .dead → st[j]? = some b → b ≠ .dead → c.ρ i = c.ρ j → i = j
  lkd : ∀ a o, c.L a = some o → H a = some o ∧ ∃ od x, o = .frz od x
  tab : ∀ p ∈ T.tabs, TabF c.F H p
  ntb : ∀ a o, c.F a = some o → isTbl o = false
theorem RO.notbl {T : Tb} {c : Cn} {o : Ob} {a : Addr} {h : HO} (r : RO T c o a h) : isTbl h = false := by
  cases o with
  | lst us => obtain ⟨vs, e, _⟩ := r; rw [e]; rfl
  | dK us => obtain ⟨vs, e, _⟩ := r; rw [e]; rfl
  | dT us => obtain ⟨vs, e, _⟩ := r; rw [e]; rfl
  | ins k us => obtain ⟨dx, vs, e, _⟩ := r; rw [e]; rfl
  | iset ks =>
    have e : h = SetO T.w a (fun k => decide (k ∈ ks)) ks.length := r
    rw [e]
    rfl
  | dead => exact r.elim
  | lk o => obtain ⟨od, x, e, _⟩ := r; rw [e]; rfl
theorem tbl_upd {H : Hp} {a b : Addr} {o : HO} (h : H b = none ∨ ∃ u, H b = some u ∧ isTbl u = false) (ps : Array Value) (e : H a = some (.tbl ps)) : upd H b o a = some (.tbl ps) := by
  rw [upd_ne]
  · exact e
  · intro z
    rw [z] at e
    rcases h with h | ⟨u, h, k⟩
    · rw [h] at e
      cases e
    · rw [h] at e
      cases e
      cases k
theorem RO.nofrz {T : Tb} {c : Cn} {o : Ob} {a : Addr} {h : HO} (k : o.isLk = false) (r : RO T c o a h) : ∀ od x, h ≠ .frz od x := by
  intro od x e
  subst e
  cases o with
  | lst us => obtain ⟨vs, e, _⟩ := r; cases e
  | dK us => obtain ⟨vs, e, _⟩ := r; cases e
  | dT us => obtain ⟨vs, e, _⟩ := r; cases e
  | ins k us => obtain ⟨dx, vs, e, _⟩ := r; cases e
  | iset ks => cases (show HO.frz od x = SetO T.w a (fun k => decide (k ∈ ks)) ks.length from r)
  | dead => exact r
  | lk o => cases k

def RX (T : Tb) (c : Cn) (x : Ex) (cls : Value) (d : Option Addr) : Prop :=
  cls = .ref (T.cls x.k) ∧ ∃ (dx : Addr) (vs : List V), d = some dx ∧ c.F dx = some (.xd (((T.fld x.k).zip vs).reverse)) ∧ vs.length = (T.fld x.k).length ∧ RpL T c x.us vs
theorem RX.mono {T : Tb} {c c' : Cn} (l : Le c c') {x : Ex} {cls : Value} {d : Option Addr} (r : RX T c x cls d) : RX T c' x cls d := by
  obtain ⟨e, dx, vs, h1, h2, h3, h4⟩ := r
  exact ⟨e, dx, vs, h1, l.F _ _ h2, h3, h4.mono l⟩

structure PinD where
  i : Nat
  a : Addr
  x : Ex
  cls : Value
  d : Option Addr
abbrev Pin := Option PinD
def pinned (P : Pin) (i : Nat) : Bool := match P with
  | some p => p.i == i
  | none => false

abbrev Env := List (Option U)
structure RE (T : Tb) (P : Pin) (c : Cn) (env : Env) (σ : St) : Prop where
  len : env.length = σ.length
  get : ∀ (i : Nat) (u : U), env[i]? = some (some u) → ∃ v, σ[i]? = some (some v) ∧ Rp T c u v
  pin : ∀ p, P = some p → σ[p.i]? = some (some (.ref p.a)) ∧ RX T c p.x p.cls p.d
theorem RE.mono {T : Tb} {P : Pin} {c c' : Cn} (l : Le c c') {env : Env} {σ : St} (r : RE T P c env σ) : RE T P c' env σ :=
  ⟨r.len, fun i u e => let ⟨v, h, q⟩ := r.get i u e; ⟨v, h, q.mono l⟩, fun p e => ⟨(r.pin p e).1, (r.pin p e).2.mono l⟩⟩
theorem RE.set {T : Tb} {P : Pin} {c : Cn} {env : Env} {σ : St} (r : RE T P c env σ) {u : U} {v : V} (q : Rp T c u v) (i : Nat) (hp : pinned P i = false) : RE T P c (env.set i (some u)) (σ.set i (some v)) := by
  refine ⟨by simp [r.len], fun j w e => ?_, fun p e => ⟨?_, (r.pin p e).2⟩⟩
  · by_cases h : i = j
    · subst h
      have hi : i < env.length := by
        have := (List.getElem?_eq_some_iff.mp e).1
        simpa using this
      rw [List.getElem?_set_self hi] at e
      cases e
      exact ⟨v, by rw [List.getElem?_set_self (by rw [← r.len]; exact hi)], q⟩
    · rw [List.getElem?_set_ne h] at e
      rw [List.getElem?_set_ne h]
      exact r.get j w e
  · subst e
    have h : i ≠ p.i := fun z => by
      have z' : (p.i == i) = false := hp
      rw [z] at z'
      simp at z'
    rw [List.getElem?_set_ne h]
    exact (r.pin p rfl).1
theorem RE.unset {T : Tb} {P : Pin} {c : Cn} {env : Env} {σ : St} (r : RE T P c env σ) (i : Nat) (hp : pinned P i = false) : RE T P c (env.set i none) (σ.set i none) := by
  refine ⟨by simp [r.len], fun j w e => ?_, fun p e => ⟨?_, (r.pin p e).2⟩⟩
  · by_cases h : i = j
    · subst h
      have hi : i < env.length := by
        have := (List.getElem?_eq_some_iff.mp e).1
        simpa using this
      rw [List.getElem?_set_self hi] at e
      cases e
    · rw [List.getElem?_set_ne h] at e
      rw [List.getElem?_set_ne h]
      exact r.get j w e
  · subst e
    have h : i ≠ p.i := fun z => by
      have z' : (p.i == i) = false := hp
      rw [z] at z'
      simp at z'
    rw [List.getElem?_set_ne h]
    exact (r.pin p rfl).1
def ResG {α β : Type} (T : Tb) (Wx : WX) (c : Cn) (σ : St) (R : Cn → α → β → Prop) (r : Out α) (Q : β → Hp → Prop) : Prop := match r with
  | .ok u st' => ∀ c' v H', Le c c' → RH T c' st' H' → R c' u v → Q v H'
  | .exc x st' => ∀ c' cls d H', Le c c' → RH T c' st' H' → RX T c' x cls d → Wx cls d σ H'
  | .bad => False
abbrev MG (α : Type) := Env → Sto → Out α
abbrev ME := MG U
abbrev MT := MG Bool
abbrev MA := MG (List U)
def tgOf {α β : Type} (T : Tb) (P : Pin) (Wx : WX) (R : Cn → α → β → Prop) (m : MG α) : St → Hp → (β → Hp → Prop) → Prop :=
  fun σ H Q => ∃ c env st, RH T c st H ∧ RE T P c env σ ∧ ResG T Wx c σ R (m env st) Q
abbrev teOf (T : Tb) (P : Pin) (Wx : WX) (m : ME) : TE := tgOf T P Wx (Rp T) m
abbrev ttOf (T : Tb) (P : Pin) (Wx : WX) (m : MT) : TT := tgOf T P Wx (fun _ a b => a = b) m
abbrev taOf (T : Tb) (P : Pin) (Wx : WX) (m : MA) : TA := tgOf T P Wx (RpL T) m

section
variable {α β γ δ : Type} {T : Tb} {P : Pin} {Wx : WX} {R : Cn → α → β → Prop} {R' : Cn → γ → δ → Prop} {c c' : Cn} {σ : St} {r : Out α} {H : Hp} {m : MG α}
theorem ResG.mono {Q Q' : β → Hp → Prop} (h : ResG T Wx c σ R r Q) (k : ∀ v H, Q v H → Q' v H) : ResG T Wx c σ R r Q' := by
  cases r with
  | ok u st => exact fun c' v H' a b d => k _ _ (h c' v H' a b d)
  | exc x st => exact h
  | bad => exact h
theorem ResG.later {Q : β → Hp → Prop} (l : Le c c') (h : ResG T Wx c σ R r Q) : ResG T Wx c' σ R r Q := by
  cases r with
  | ok u st => exact fun c2 v H' a b d => h c2 v H' (l.trans a) b d
  | exc x st => exact fun c2 cls d H' a b e => h c2 cls d H' (l.trans a) b e
  | bad => exact h
theorem tgOf.mono {Q Q' : β → Hp → Prop} (h : tgOf T P Wx R m σ H Q) (k : ∀ v H, Q v H → Q' v H) : tgOf T P Wx R m σ H Q' :=
  let ⟨c, env, st, a, b, r⟩ := h
  ⟨c, env, st, a, b, r.mono k⟩
theorem tg_bind {k : α → Sto → Out γ} {env : Env} {st : Sto} {Q : δ → Hp → Prop} (hH : RH T c st H) (hE : RE T P c env σ) (hR : ResG T Wx c σ R' ((m env st).bind k) Q) :
    tgOf T P Wx R m σ H fun x H1 => ∃ u c1 st1, Le c c1 ∧ RH T c1 st1 H1 ∧ RE T P c1 env σ ∧ R c1 u x ∧ ResG T Wx c1 σ R' (k u st1) Q := by
  refine ⟨c, env, st, hH, hE, ?_⟩
  cases e : m env st with
  | ok u st1 =>
    rw [e] at hR
    exact fun c1 v H1 l h r => ⟨u, c1, st1, l, h, hE.mono l, r, ResG.later l hR⟩
  | exc x st1 =>
    rw [e] at hR
    exact hR
  | bad =>
    rw [e] at hR
    exact hR
theorem ResG.ret {Q : β → Hp → Prop} {u : α} {v : β} {st : Sto} (h : ResG T Wx c σ R (.ok u st) Q) (hH : RH T c st H) (r : R c u v) : Q v H := h c v H (Le.refl c) hH r
end

def PEm (X : Cx) (T : Tb) (P : Pin) (Wx : WX) (e : Expr) (m : ME) : Prop := PE X e (teOf T P Wx m)
def PTm (X : Cx) (T : Tb) (P : Pin) (Wx : WX) (e : Expr) (m : MT) : Prop := PT X e (ttOf T P Wx m)
def PWm (X : Cx) (T : Tb) (P : Pin) (Wx : WX) (e : Expr) (m : MT) : Prop := PW X e (ttOf T P Wx m)
def PAm (X : Cx) (T : Tb) (P : Pin) (Wx : WX) (es : List Expr) (m : MA) : Prop := PA X es (taOf T P Wx m)
theorem PE.imp {X : Cx} {e : Expr} {t t' : TE} (h : PE X e t) (k : ∀ σ H Q, t' σ H Q → t σ H Q) : PE X e t' := ⟨fun pins s σ H Q I q => h.run pins s σ H Q I (k σ H Q q)⟩
theorem PT.imp {X : Cx} {e : Expr} {t t' : TT} (h : PT X e t) (k : ∀ σ H Q, t' σ H Q → t σ H Q) : PT X e t' := ⟨fun pins s σ H Q I q => h.run pins s σ H Q I (k σ H Q q)⟩
theorem PW.imp {X : Cx} {e : Expr} {t t' : TT} (h : PW X e t) (k : ∀ σ H Q, t' σ H Q → t σ H Q) : PW X e t' := ⟨fun wh pins s σ H Q I q => h.run wh pins s σ H Q I (k σ H Q q)⟩
theorem PA.imp {X : Cx} {e : List Expr} {t t' : TA} (h : PA X e t) (k : ∀ σ H Q, t' σ H Q → t σ H Q) : PA X e t' := ⟨fun pos pins s σ H Q I q => h.run pos pins s σ H Q I (k σ H Q q)⟩
theorem PS.imp {X : Cx} {e : Stmt} {t t' : TS} (h : PS X e t) (k : ∀ D σ H, t' D σ H → t D σ H) : PS X e t' := ⟨fun pins s σ H D I q => h.run pins s σ H D I (k D σ H q)⟩
theorem PSs.imp {X : Cx} {e : List Stmt} {t t' : TS} (h : PSs X e t) (k : ∀ D σ H, t' D σ H → t D σ H) : PSs X e t' := ⟨fun pins s σ H D I q => h.run pins s σ H D I (k D σ H q)⟩
theorem PI.imp {X : Cx} {tg e : Expr} {t t' : TI} (h : PI X tg e t) (k : ∀ σ H R, t' σ H R → t σ H R) : PI X tg e t' := ⟨fun pins s σ H R I q => h.run pins s σ H R I (k σ H R q)⟩
theorem PI.or {X : Cx} {tg iter : Expr} {w w' : TI} (h : PI X tg iter w) (g : PI X tg iter w') : PI X tg iter (fun σ H R => w σ H R ∨ w' σ H R) := ⟨fun pins s σ H R I q => by
  rcases q with q | q
  · exact h.run pins s σ H R I q
  · exact g.run pins s σ H R I q⟩
end NK

namespace NK
open PySem L2

def eVar (i : Nat) : ME := fun env st => match env[i]? with
  | some (some u) => .ok u st
  | _ => .bad
def eC (u : U) : ME := fun _ st => .ok u st
def eOp (f : U → U → Sto → Out U) (ma mb : ME) : ME := fun env st => (ma env st).bind fun x st1 => (mb env st1).bind fun y st2 => f x y st2
def eUn (f : U → Sto → Out U) (ma : ME) : ME := fun env st => (ma env st).bind fun x st1 => f x st1
def aNil : MA := fun _ st => .ok [] st
def aCons (m : ME) (r : MA) : MA := fun env st => (m env st).bind fun x st1 => (r env st1).bind fun xs st2 => .ok (x :: xs) st2
def eCB (f : List U → Sto → Out U) (m : MA) : ME := fun env st => (m env st).bind fun xs st1 => f xs st1
def eTup (m : MA) : ME := fun env st => (m env st).bind fun xs st1 => if xs.length ≤ 16777216 then .ok (.tup xs) st1 else .bad
def eLst (m : MA) : ME := fun env st => (m env st).bind fun xs st1 => if xs.length ≤ 16777216 then .ok (.loc st1.length) (st1 ++ [.lst xs]) else .bad
def frz (u : U) (st : Sto) : Out U := match u with
  | .loc i => match st[i]? with
    | some (.lst us) => .ok (.lst us) (st.set i .dead)
    | some (.ins k us) => .ok (.ins k us) (st.set i .dead)
    | _ => .bad
  | u => .ok u st
def eIf (mt : MT) (ma mb : ME) : ME := fun env st => (mt env st).bind fun b st1 => if b = true then ma env st1 else mb env st1
def eAnd (ma mb : ME) : ME := fun env st => (ma env st).bind fun x st1 => match x with
  | .bl true => mb env st1
  | .bl false => .ok (.bl false) st1
  | _ => .bad
def eOr (ma mb : ME) : ME := fun env st => (ma env st).bind fun x st1 => match x with
  | .bl true => .ok (.bl true) st1
  | .bl false => mb env st1
  | _ => .bad
def eNot (ma : ME) : ME := fun env st => (ma env st).bind fun x st1 => match x with
  | .bl b => .ok (.bl (!b)) st1
  | _ => .bad
def tB (m : ME) : MT := fun env st => (m env st).bind fun x st1 => match x with
  | .bl b => .ok b st1
  | _ => .bad
def items (u : U) (st : Sto) : Option (List U) := match u with
  | .tup us => some us
  | .lst us => some us
  | .scr us => some us
  | .loc i => match st[i]? with
    | some (.lst us) => some us
    | _ => none
  | _ => none
def truth (u : U) (st : Sto) : Option Bool := match u with
  | .non => some false
  | .bl b => some b
  | .int i => some (i != 0)
  | .str z => if z.length ≤ 16777216 then some ((z.length : Int) != 0) else none
  | .tup us => some (!us.isEmpty)
  | .lst us => some (!us.isEmpty)
  | .loc i => match st[i]? with
    | some (.lst us) => some (!us.isEmpty)
    | some (.dK us) => some (!us.isEmpty)
    | _ => none
  | _ => none
def tTru (m : ME) : MT := fun env st => (m env st).bind fun x st1 => match truth x st1 with
  | some b => .ok b st1
  | none => .bad
def tAnd (ma mb : MT) : MT := fun env st => (ma env st).bind fun b st1 => if b = true then mb env st1 else .ok false st1
def tOr (ma mb : MT) : MT := fun env st => (ma env st).bind fun b st1 => if b = true then .ok true st1 else mb env st1
def tNot (ma : MT) : MT := fun env st => (ma env st).bind fun b st1 => .ok (!b) st1

section
variable {T : Tb} {c : Cn} {st : Sto} {H : Hp}
theorem Rp.inv_int {i : Int} {v : V} (r : Rp T c (.int i) v) : v = .int i := by cases r; rfl
theorem Rp.inv_bl {i : Bool} {v : V} (r : Rp T c (.bl i) v) : v = .bl i := by cases r; rfl
theorem Rp.inv_str {i : Str} {v : V} (r : Rp T c (.str i) v) : v = .str i := by cases r; rfl
theorem Rp.inv_non {v : V} (r : Rp T c .non v) : v = .non := by cases r; rfl
theorem Rp.inv_scr {us : List U} {v : V} (r : Rp T c (.scr us) v) : ∃ a vs, v = .ref a ∧ SqL T.K c.F a vs ∧ RpL T c us vs := by cases r with | scr a b => exact ⟨_, _, rfl, a, b⟩
theorem Rp.inv_tup {us : List U} {v : V} (r : Rp T c (.tup us) v) : ∃ a vs, v = .ref a ∧ SqT T.K c.F a vs ∧ RpL T c us vs := by cases r with | tup a b => exact ⟨_, _, rfl, a, b⟩
theorem Rp.inv_lst {us : List U} {v : V} (r : Rp T c (.lst us) v) : ∃ a vs, v = .ref a ∧ c.F a = some (.lst vs) ∧ RpL T c us vs := by cases r with | lst a b => exact ⟨_, _, rfl, a, b⟩
theorem Rp.inv_ins {k : Nat} {us : List U} {v : V} (r : Rp T c (.ins k us) v) : ∃ a dx vs, v = .ref a ∧ c.F a = some (.ins (T.cls k) dx ((T.fld k).zip vs)) ∧ vs.length ≤ (T.fld k).length ∧ RpL T c us vs := by
  cases r with | ins a b d => exact ⟨_, _, _, rfl, a, b, d⟩
theorem Rp.inv_exn {k : Nat} {us : List U} {v : V} (r : Rp T c (.exn k us) v) : ∃ a vs, v = .ref a ∧ XnAt T c.F a k vs ∧ RpL T c us vs := by cases r with | exn a b => exact ⟨_, _, rfl, a, b⟩
theorem Rp.inv_loc {i : Nat} {v : V} (r : Rp T c (.loc i) v) : i < c.n ∧ v = .ref (c.ρ i) := by cases r with | loc h => exact ⟨h, rfl⟩
theorem sqL_up (h : RH T c st H) {a : Addr} {vs : List V} (r : SqL T.K c.F a vs) : SqL T.K H a vs := sqL_mono h.sub r
theorem sqT_up (h : RH T c st H) {a : Addr} {vs : List V} (r : SqT T.K c.F a vs) : SqT T.K H a vs := sqT_mono h.sub r
theorem RH.at_lst (h : RH T c st H) {i : Nat} {us : List U} (e : st[i]? = some (.lst us)) : ∃ vs, H (c.ρ i) = some (.lst vs) ∧ RpL T c us vs := by
  obtain ⟨o, h1, ⟨vs, h2, h3⟩, _⟩ := h.act i _ e (fun z => nomatch z)
  subst h2
  exact ⟨vs, h1, h3⟩
theorem RH.at_ins (h : RH T c st H) {i k : Nat} {us : List U} (e : st[i]? = some (.ins k us)) : ∃ dx vs, H (c.ρ i) = some (.ins (T.cls k) dx ((T.fld k).zip vs)) ∧ vs.length ≤ (T.fld k).length ∧ RpL T c us vs := by
  obtain ⟨o, h1, ⟨dx, vs, h2, h3, h4⟩, _⟩ := h.act i _ e (fun z => nomatch z)
  subst h2
  exact ⟨dx, vs, h1, h3, h4⟩
theorem RH.at_dK (h : RH T c st H) {i : Nat} {us : List (Key × U)} (e : st[i]? = some (.dK us)) : ∃ vs, H (c.ρ i) = some (.dK vs) ∧ RpK T c us vs := by
  obtain ⟨o, h1, ⟨vs, h2, h3⟩, _⟩ := h.act i _ e (fun z => nomatch z)
  subst h2
  exact ⟨vs, h1, h3⟩
theorem items_at (h : RH T c st H) {u : U} {v : V} {us : List U} (r : Rp T c u v) (e : items u st = some us) : ∃ a vs, v = .ref a ∧ (SqL T.K H a vs ∨ SqT T.K H a vs) ∧ RpL T c us vs := by
  cases u with
  | tup xs =>
    obtain ⟨a, vs, rfl, h1, h2⟩ := r.inv_tup
    cases e
    exact ⟨a, vs, rfl, .inr (sqT_up h h1), h2⟩
  | lst xs =>
    obtain ⟨a, vs, rfl, h1, h2⟩ := r.inv_lst
    cases e
    exact ⟨a, vs, rfl, .inl (SqL.of (h.sub _ _ h1)), h2⟩
  | scr xs =>
    obtain ⟨a, vs, rfl, h1, h2⟩ := r.inv_scr
    cases e
    exact ⟨a, vs, rfl, .inl (sqL_up h h1), h2⟩
  | loc i =>
    obtain ⟨_, rfl⟩ := r.inv_loc
    dsimp only [items] at e
    split at e
    · rename_i us' q
      cases e
      obtain ⟨vs, h1, h2⟩ := h.at_lst q
      exact ⟨_, vs, rfl, .inl (SqL.of h1), h2⟩
    · cases e
  | _ => cases e
theorem isEmpty_rp {us : List U} {vs : List V} (r : RpL T c us vs) : (!vs.isEmpty) = !us.isEmpty := by cases r <;> rfl
theorem truth_at (h : RH T c st H) {u : U} {v : V} {b : Bool} (r : Rp T c u v) (e : truth u st = some b) : TruV T.K v H b := by
  cases u with
  | non => cases r.inv_non; cases e; rfl
  | bl x => cases r.inv_bl; cases e; rfl
  | int i => cases r.inv_int; cases e; rfl
  | str z =>
    cases r.inv_str
    dsimp only [truth] at e
    split at e
    · rename_i hz
      cases e
      exact ⟨by rw [sizeLine_eq]; exact hz, rfl⟩
    · cases e
  | tup xs =>
    obtain ⟨a, vs, rfl, h1, h2⟩ := r.inv_tup
    cases e
    exact .inr (.inl ⟨vs, sqT_up h h1, (isEmpty_rp h2).symm⟩)
  | lst xs =>
    obtain ⟨a, vs, rfl, h1, h2⟩ := r.inv_lst
    cases e
    exact .inl ⟨vs, SqL.of (h.sub _ _ h1), (isEmpty_rp h2).symm⟩
  | loc i =>
    obtain ⟨_, rfl⟩ := r.inv_loc
    dsimp only [truth] at e
    split at e
    · rename_i us' q
      cases e
      obtain ⟨vs, h1, h2⟩ := h.at_lst q
      exact .inl ⟨vs, SqL.of h1, (isEmpty_rp h2).symm⟩
    · rename_i us' q
      cases e
      obtain ⟨vs, h1, h2⟩ := h.at_dK q
      refine .inr (.inr ⟨vs, h1, ?_⟩)
      cases h2 <;> rfl
    · cases e
  | ins k us => cases e
  | exn k us => cases e
  | ty n => cases e
  | cls n => cases e
  | scr n => cases e
end

def upr (ρ : Nat → Addr) (n : Nat) (p : Addr) : Nat → Addr := fun i => if i = n then p else ρ i
section
variable {T : Tb} {c : Cn} {st : Sto} {H : Hp}
theorem RH.ne_new (h : RH T c st H) {p : Addr} (hp : H p = none) {i : Nat} {o : Ob} (e : st[i]? = some o) (d : o ≠ .dead) : c.ρ i ≠ p := fun z => by
  obtain ⟨x, h1, _⟩ := h.act i o e d
  rw [z, hp] at h1
  cases h1
theorem RH.F_new (h : RH T c st H) {p : Addr} (hp : H p = none) : c.F p = none := by
  cases e : c.F p with
  | none => rfl
  | some o =>
    rw [h.sub p o e] at hp
    cases hp
def Cn.still (c : Cn) (p : Addr) (o : HO) : Cn := { c with F := upd c.F p o }
theorem le_still (h : RH T c st H) {p : Addr} (hp : H p = none) (o : HO) : Le c (c.still p o) :=
  ⟨Nat.le_refl _, fun _ _ => rfl, fun a u e => by
    show upd c.F p o a = _
    rw [upd_ne (fun z => by rw [z, h.F_new hp] at e; cases e)]
    exact e, fun _ _ e => e⟩
theorem RH.lk_new (h : RH T c st H) {p : Addr} (hp : H p = none) {a : Addr} {o : HO} (e : c.L a = some o) : a ≠ p := fun z => by
  have := (h.lkd a o e).1
  rw [z, hp] at this
  cases this
theorem RH.still (h : RH T c st H) {p : Addr} (hp : H p = none) (o : HO) (ko : isTbl o = false := by rfl) : RH T (c.still p o) st (upd H p o) := by
  have l := le_still h hp o
  refine ⟨h.n, fun a u e => ?_, fun i ob e d => ?_, h.inj, fun a u e => ⟨by rw [upd_ne (h.lk_new hp e)]; exact (h.lkd a u e).1, (h.lkd a u e).2⟩, fun q hq => (h.tab q hq).mono l.F (tbl_upd (.inl hp) ·), fun a u e => by
    have e' : upd c.F p o a = some u := e
    by_cases z : a = p
    · rw [z, upd_same] at e'
      cases e'
      exact ko
    · rw [upd_ne z] at e'
      exact h.ntb a u e'⟩
  · have e' : upd c.F p o a = some u := e
    by_cases z : a = p
    · subst z
      rw [upd_same] at e' ⊢
      exact e'
    · rw [upd_ne z] at e' ⊢
      exact h.sub a u e'
  · obtain ⟨x, h1, h2, h3⟩ := h.act i ob e d
    have ne := h.ne_new hp e d
    refine ⟨x, ?_, h2.mono l, ?_⟩
    · show upd H p o (c.ρ i) = _
      rw [upd_ne ne]; exact h1
    · show upd c.F p o (c.ρ i) = _
      rw [upd_ne ne]; exact h3
def Cn.new (c : Cn) (p : Addr) : Cn := { ρ := upr c.ρ c.n p, n := c.n + 1, F := c.F, L := c.L }
theorem le_new (c : Cn) (p : Addr) : Le c (c.new p) :=
  ⟨Nat.le_succ _, fun i hi => by
    show upr c.ρ c.n p i = _
    unfold upr
    rw [if_neg (Nat.ne_of_lt hi)], fun _ _ e => e, fun _ _ e => e⟩
theorem new_self (c : Cn) (p : Addr) : (c.new p).ρ c.n = p := by
  show upr c.ρ c.n p c.n = p
  unfold upr
  rw [if_pos rfl]
theorem RH.new (h : RH T c st H) {p : Addr} (hp : H p = none) {o : Ob} {x : HO} (r : RO T c o p x) : RH T (c.new p) (st ++ [o]) (upd H p x) := by
  have l := le_new c p
  have old : ∀ {i : Nat} {a : Ob}, i ≠ st.length → (st ++ [o])[i]? = some a → i < st.length ∧ st[i]? = some a := fun {i a} hi e => by
    by_cases z : i < st.length
    · rw [List.getElem?_append_left z] at e
      exact ⟨z, e⟩
    · rw [List.getElem?_append_right (by omega)] at e
      have : i - st.length = 0 ∨ 0 < i - st.length := by omega
      rcases this with q | q
      · omega
      · rw [List.getElem?_eq_none (by simp; omega)] at e
        cases e
  have self : ∀ {a : Ob}, (st ++ [o])[st.length]? = some a → a = o := fun {a} e => by
    rw [List.getElem?_append_right (Nat.le_refl _), Nat.sub_self] at e
    exact (Option.some.inj e).symm
  have hρ : ∀ {i : Nat}, i < st.length → (c.new p).ρ i = c.ρ i := fun {i} hi => l.ρ i (by rw [h.n]; exact hi)
  refine ⟨by show c.n + 1 = _; rw [h.n]; simp, fun a u e => ?_, fun i a e d => ?_, fun i j a b ea da eb db q => ?_, fun a u e => ⟨by rw [upd_ne (h.lk_new hp e)]; exact (h.lkd a u e).1, (h.lkd a u e).2⟩, fun q hq => (h.tab q hq).mono l.F (tbl_upd (.inl hp) ·), h.ntb⟩
  · rw [upd_ne (fun z => by
      have e' : c.F a = some u := e
      rw [z, h.F_new hp] at e'
      cases e')]
    exact h.sub a u e
  · by_cases hi : i = st.length
    · subst hi
      have := self e
      subst this
      refine ⟨x, ?_, ?_, ?_⟩
      · rw [← h.n, new_self, upd_same]
      · rw [← h.n, new_self]; exact r.mono l
      · rw [← h.n, new_self]; exact h.F_new hp
    · obtain ⟨hlt, e'⟩ := old hi e
      obtain ⟨y, h1, h2, h3⟩ := h.act i a e' d
      refine ⟨y, ?_, ?_, ?_⟩
      · rw [hρ hlt, upd_ne (h.ne_new hp e' d)]; exact h1
      · rw [hρ hlt]; exact h2.mono l
      · rw [hρ hlt]; exact h3
  · by_cases hi : i = st.length
    · by_cases hj : j = st.length
      · rw [hi, hj]
      · obtain ⟨hlt, eb'⟩ := old hj eb
        subst hi
        rw [← h.n, new_self, hρ hlt] at q
        exact absurd q.symm (h.ne_new hp eb' db)
    · obtain ⟨hlt, ea'⟩ := old hi ea
      by_cases hj : j = st.length
      · subst hj
        rw [hρ hlt, ← h.n, new_self] at q
        exact absurd q (h.ne_new hp ea' da)
      · obtain ⟨hlt', eb'⟩ := old hj eb
        rw [hρ hlt, hρ hlt'] at q
        exact h.inj i j a b ea' da eb' db q
theorem RH.set (h : RH T c st H) {i : Nat} {o o' : Ob} {x : HO} (e : st[i]? = some o) (d : o ≠ .dead) (r : RO T c o' (c.ρ i) x) (k : o.isLk = false := by rfl) : RH T c (st.set i o') (upd H (c.ρ i) x) := by
  have hi : i < st.length := (List.getElem?_eq_some_iff.mp e).1
  have old : ∀ {j : Nat} {a : Ob}, j ≠ i → (st.set i o')[j]? = some a → st[j]? = some a := fun {j a} hj q => by
    rw [List.getElem?_set_ne (Ne.symm hj)] at q
    exact q
  have self : ∀ {a : Ob}, (st.set i o')[i]? = some a → a = o' := fun {a} q => by
    rw [List.getElem?_set_self hi] at q
    exact (Option.some.inj q).symm
  refine ⟨by rw [h.n]; simp, fun a u q => ?_, fun j a q da => ?_, fun j k a b ea da eb db q => ?_, fun a u q => ⟨by
    rw [upd_ne (fun z => by
      obtain ⟨y, h1, h2, _⟩ := h.act i o e d
      obtain ⟨q1, od, x', q2⟩ := h.lkd a u q
      rw [z, h1] at q1
      cases q1
      exact h2.nofrz k od x' q2)]
    exact (h.lkd a u q).1, (h.lkd a u q).2⟩, fun q hq => (h.tab q hq).mono (fun _ _ z => z) (tbl_upd (.inr (let ⟨y, h1, h2, _⟩ := h.act i o e d; ⟨y, h1, h2.notbl⟩)) ·), h.ntb⟩
  · obtain ⟨_, _, _, h3⟩ := h.act i o e d
    rw [upd_ne (fun z => by rw [z, h3] at q; cases q)]
    exact h.sub a u q
  · by_cases hj : j = i
    · subst hj
      have := self q
      subst this
      obtain ⟨_, _, _, h3⟩ := h.act j o e d
      exact ⟨x, upd_same, r, h3⟩
    · have q' := old hj q
      obtain ⟨y, h1, h2, h3⟩ := h.act j a q' da
      refine ⟨y, ?_, h2, h3⟩
      rw [upd_ne (fun z => hj (h.inj j i a o q' da e d z))]
      exact h1
  · by_cases hj : j = i
    · by_cases hk : k = i
      · rw [hj, hk]
      · subst hj
        exact h.inj j k o b e d (old hk eb) db q
    · by_cases hk : k = i
      · subst hk
        exact h.inj j k a o (old hj ea) da e d q
      · exact h.inj j k a b (old hj ea) da (old hk eb) db q
theorem le_freeze (h : RH T c st H) {i : Nat} {o : Ob} {x : HO} (e : st[i]? = some o) (d : o ≠ .dead) : Le c { c with F := upd c.F (c.ρ i) x } := by
  obtain ⟨_, _, _, h3⟩ := h.act i o e d
  exact ⟨Nat.le_refl _, fun _ _ => rfl, fun a u q => by
    show upd c.F (c.ρ i) x a = _
    rw [upd_ne (fun z => by rw [z, h3] at q; cases q)]
    exact q, fun _ _ q => q⟩
theorem RH.freeze (h : RH T c st H) {i : Nat} {o : Ob} {x : HO} (e : st[i]? = some o) (d : o ≠ .dead) (hx : H (c.ρ i) = some x) : RH T { c with F := upd c.F (c.ρ i) x } (st.set i .dead) H := by
  have l := le_freeze (x := x) h e d
  have old : ∀ {j : Nat} {a : Ob}, a ≠ .dead → (st.set i .dead)[j]? = some a → j ≠ i ∧ st[j]? = some a := fun {j a} ha q => by
    have hj : j ≠ i := fun z => by
      subst z
      have hlt : j < st.length := (List.getElem?_eq_some_iff.mp e).1
      rw [List.getElem?_set_self hlt] at q
      exact ha (Option.some.inj q).symm
    rw [List.getElem?_set_ne (Ne.symm hj)] at q
    exact ⟨hj, q⟩
  refine ⟨by show c.n = _; rw [h.n]; simp, fun a u q => ?_, fun j a q da => ?_, fun j k a b ea da eb db q => ?_, h.lkd, fun q hq => (h.tab q hq).mono l.F (fun _ z => z), fun a u q => by
    have q' : upd c.F (c.ρ i) x a = some u := q
    by_cases z : a = c.ρ i
    · rw [z, upd_same] at q'
      cases q'
      obtain ⟨y, h1, h2, _⟩ := h.act i o e d
      rw [hx] at h1
      cases h1
      exact h2.notbl
    · rw [upd_ne z] at q'
      exact h.ntb a u q'⟩
  · have q' : upd c.F (c.ρ i) x a = some u := q
    by_cases z : a = c.ρ i
    · subst z
      rw [upd_same] at q'
      rw [← q']; exact hx
    · rw [upd_ne z] at q'
      exact h.sub a u q'
  · obtain ⟨hj, q'⟩ := old da q
    obtain ⟨y, h1, h2, h3⟩ := h.act j a q' da
    refine ⟨y, h1, h2.mono l, ?_⟩
    show upd c.F (c.ρ i) x (c.ρ j) = _
    rw [upd_ne (fun z => hj (h.inj j i a o q' da e d z))]
    exact h3
  · exact h.inj j k a b (old da ea).2 da (old db eb).2 db q
end

def OpSim (T : Tb) (r : R2) (f : U → U → Sto → Out U) : Prop :=
  ∀ (Wx : WX) (c : Cn) (σ : L2.St) (st : Sto) (H : Hp) (u w : U) (x y : V) (Q : VK), RH T c st H → Rp T c u x → Rp T c w y → ResG T Wx c σ (Rp T) (f u w st) Q → r x y H Q
def UnSim (T : Tb) (r : V → Hp → VK → Prop) (f : U → Sto → Out U) : Prop :=
  ∀ (Wx : WX) (c : Cn) (σ : L2.St) (st : Sto) (H : Hp) (u : U) (x : V) (Q : VK), RH T c st H → Rp T c u x → ResG T Wx c σ (Rp T) (f u st) Q → r x H Q
def CallSim (T : Tb) (r : List V → Hp → VK → Prop) (f : List U → Sto → Out U) : Prop :=
  ∀ (Wx : WX) (c : Cn) (σ : L2.St) (st : Sto) (H : Hp) (us : List U) (xs : List V) (Q : VK), RH T c st H → RpL T c us xs → ResG T Wx c σ (Rp T) (f us st) Q → r xs H Q

section
variable {X : Cx} {T : Tb} {P : Pin} {Wx : WX} {a b c : Expr} {ma mb mc : ME} {pos : Pos}
theorem pem_var {i : Nat} (h : PE X a (tVar i)) : PEm X T P Wx a (eVar i) := PE.imp h fun σ H Q ⟨c, env, st, hH, hE, hR⟩ => by
  unfold eVar at hR
  split at hR
  · rename_i u e
    obtain ⟨v, e', r⟩ := hE.get i u e
    exact ⟨v, e', hR.ret hH r⟩
  · exact hR.elim
theorem pem_c {v : V} {u : U} (h : PE X a (tC v)) (r : ∀ c, Rp T c u v) : PEm X T P Wx a (eC u) := PE.imp h fun σ H Q ⟨c, env, st, hH, hE, hR⟩ =>
  ResG.ret (u := u) hR hH (r c)
theorem pem_int {i j} : PEm X T P Wx (.Constant (.int i) j pos) (eC (.int i)) := pem_c pe_int fun _ => .int i
theorem pem_bl {i j} : PEm X T P Wx (.Constant (.bool i) j pos) (eC (.bl i)) := pem_c pe_bl fun _ => .bl i
theorem pem_str {i j} : PEm X T P Wx (.Constant (.str i) j pos) (eC (.str i)) := pem_c pe_str fun _ => .str i
theorem pem_non {j} : PEm X T P Wx (.Constant .none j pos) (eC .non) := pem_c pe_non fun _ => .non
theorem opr_run {r : R2} {f : U → U → Sto → Out U} (hs : OpSim T r f) (σ : L2.St) (H : Hp) (Q : VK) (h : teOf T P Wx (eOp f ma mb) σ H Q) : tOp r (teOf T P Wx ma) (teOf T P Wx mb) σ H Q := by
  obtain ⟨c, env, st, hH, hE, hR⟩ := h
  refine (tg_bind hH hE hR).mono fun x H1 ⟨u, c1, st1, l1, hH1, hE1, r1, hR1⟩ => ?_
  refine (tg_bind hH1 hE1 hR1).mono fun y H2 ⟨w, c2, st2, l2, hH2, hE2, r2, hR2⟩ => ?_
  exact hs Wx c2 σ st2 H2 u w x y Q hH2 (r1.mono l2) r2 hR2
theorem pem_op {op : Operator} {r : R2} {f : U → U → Sto → Out U} (ho : OpR X (binaryOp op) r) (hs : OpSim T r f) (ha : PEm X T P Wx a ma) (hb : PEm X T P Wx b mb) : PEm X T P Wx (.BinOp a op b pos) (eOp f ma mb) :=
  PE.imp (pe_op ho ha hb) (opr_run hs)
theorem pem_cmp {op : CmpOp} {r : R2} {f : U → U → Sto → Out U} (ho : OpR X (compareOp op) r) (hs : OpSim T r f) (ha : PEm X T P Wx a ma) (hb : PEm X T P Wx b mb) (hm : behindInMarks op b = false) : PEm X T P Wx (.Compare a [op] [b] pos) (eOp f ma mb) :=
  PE.imp (pe_cmpR ho ha hb hm) (opr_run hs)
theorem test_run {t : TE} {m : ME} (h1 : ∀ σ H Q, teOf T P Wx m σ H Q → t σ H Q) (σ : L2.St) (H : Hp) (Q : Bool → Hp → Prop) (h : ttOf T P Wx (tB m) σ H Q) : tTest t σ H Q := by
  obtain ⟨c, env, st, hH, hE, hR⟩ := h
  refine h1 σ H _ ((tg_bind hH hE hR).mono fun x H1 ⟨u, c1, st1, l1, hH1, hE1, r1, hR1⟩ => ?_)
  cases u with
  | bl k =>
    cases r1.inv_bl
    exact ⟨k, rfl, hR1.ret hH1 rfl⟩
  | _ => exact hR1.elim
theorem ptm_cmp {op : CmpOp} {r : R2} {f : U → U → Sto → Out U} (ho : OpR X (compareOp op) r) (hs : OpSim T r f) (ha : PEm X T P Wx a ma) (hb : PEm X T P Wx b mb) (hm : behindInMarks op b = false) : PTm X T P Wx (.Compare a [op] [b] pos) (tB (eOp f ma mb)) :=
  PT.imp (pt_cmpR ho ha hb hm) (test_run (opr_run hs))
def eChain (f g : U → U → Sto → Out U) (ma mb mc : ME) : ME := fun env st => (ma env st).bind fun x st1 => (mb env st1).bind fun y st2 => (f x y st2).bind fun z st3 => match z with
  | .bl true => (mc env st3).bind fun w st4 => g y w st4
  | .bl false => .ok (.bl false) st3
  | _ => .bad
theorem pem_un {op : UnaryOp} {r : V → Hp → VK → Prop} {f : U → Sto → Out U} (ho : UnR X (unaryOp op) r) (hs : UnSim T r f) (ha : PEm X T P Wx a ma) : PEm X T P Wx (.UnaryOp op a pos) (eUn f ma) :=
  PE.imp (pe_un ho ha) fun σ H Q ⟨c, env, st, hH, hE, hR⟩ => (tg_bind hH hE hR).mono fun x H1 ⟨u, c1, st1, l1, hH1, hE1, r1, hR1⟩ => hs Wx c1 σ st1 H1 u x Q hH1 r1 hR1
theorem pem_one {op} (h : PEm X T P Wx a ma) : PEm X T P Wx (.BoolOp op [a] pos) ma := pe_one h
theorem pem_and {rest : List Expr} (ha : PEm X T P Wx a ma) (hb : PEm X T P Wx (.BoolOp .And (b :: rest) pos) mb) : PEm X T P Wx (.BoolOp .And (a :: b :: rest) pos) (eAnd ma mb) :=
  PE.imp (pe_and ha hb) fun σ H Q ⟨c, env, st, hH, hE, hR⟩ => by
    refine (tg_bind hH hE hR).mono fun k H1 ⟨u, c1, st1, l1, hH1, hE1, r1, hR1⟩ => ?_
    cases u with
    | bl i =>
      cases r1.inv_bl
      refine ⟨i, rfl, ?_⟩
      cases i with
      | true => exact ⟨c1, env, st1, hH1, hE1, hR1⟩
      | false => exact ResG.ret hR1 hH1 (.bl false)
    | _ => exact hR1.elim
theorem ptm_tru (hK : X.K = T.K) (ha : PEm X T P Wx a ma) (he : ∀ whole, isTrue a X.env whole = (do let v ← whole; standAt a.pos; holding [v] (truthy v)) := by intro _; rfl) : PTm X T P Wx a (tTru ma) :=
  PT.imp (pt_truth ha he) fun σ H Q ⟨c, env, st, hH, hE, hR⟩ => by
    refine (tg_bind hH hE hR).mono fun k H1 ⟨u, c1, st1, l1, hH1, hE1, r1, hR1⟩ => ?_
    split at hR1
    · rename_i b e
      refine ⟨b, ?_, hR1.ret hH1 rfl⟩
      rw [hK]
      exact truth_at hH1 r1 e
    · exact hR1.elim
theorem ptm_not {mt : MT} (ha : PTm X T P Wx a mt) : PTm X T P Wx (.UnaryOp .Not a pos) (tNot mt) :=
  PT.imp (pt_not ha) fun σ H Q ⟨c, env, st, hH, hE, hR⟩ => by
    refine (tg_bind hH hE hR).mono fun k H1 ⟨u, c1, st1, l1, hH1, hE1, r1, hR1⟩ => ?_
    cases (show u = k from r1)
    exact hR1.ret hH1 rfl
theorem pwm_and1 {mt : MT} (ha : PTm X T P Wx a mt) : PWm X T P Wx (.BoolOp .And [a] pos) mt := pw_and1 ha
theorem pwm_or1 {mt : MT} (ha : PTm X T P Wx a mt) : PWm X T P Wx (.BoolOp .Or [a] pos) mt := pw_or1 ha
theorem pwm_and {mt mu : MT} {rest : List Expr} (ha : PTm X T P Wx a mt) (hb : PWm X T P Wx (.BoolOp .And (b :: rest) pos) mu) : PWm X T P Wx (.BoolOp .And (a :: b :: rest) pos) (tAnd mt mu) :=
  PW.imp (pw_and ha hb) fun σ H Q ⟨c, env, st, hH, hE, hR⟩ => by
    refine (tg_bind hH hE hR).mono fun k H1 ⟨u, c1, st1, l1, hH1, hE1, r1, hR1⟩ => ?_
    cases (show u = k from r1)
    cases k with
    | true => exact ⟨c1, env, st1, hH1, hE1, hR1⟩
    | false => exact ResG.ret hR1 hH1 rfl
theorem pwm_or {mt mu : MT} {rest : List Expr} (ha : PTm X T P Wx a mt) (hb : PWm X T P Wx (.BoolOp .Or (b :: rest) pos) mu) : PWm X T P Wx (.BoolOp .Or (a :: b :: rest) pos) (tOr mt mu) :=
  PW.imp (pw_or ha hb) fun σ H Q ⟨c, env, st, hH, hE, hR⟩ => by
    refine (tg_bind hH hE hR).mono fun k H1 ⟨u, c1, st1, l1, hH1, hE1, r1, hR1⟩ => ?_
    cases (show u = k from r1)
    cases k with
    | true => exact ResG.ret hR1 hH1 rfl
    | false => exact ⟨c1, env, st1, hH1, hE1, hR1⟩
theorem PWm.pt {mt : MT} (h : PWm X T P Wx a mt) : PTm X T P Wx a mt := PW.pt h

variable {e : Expr} {es : List Expr} {m : ME} {mr : MA}
theorem pam_nil : PAm X T P Wx [] aNil := PA.imp pa_nil fun σ H Q ⟨c, env, st, hH, hE, hR⟩ => ResG.ret (u := ([] : List U)) hR hH .nil
theorem pam_cons (ha : PEm X T P Wx e m) (hr : PAm X T P Wx es mr) (hs : starEach (e :: es) X.env = (false, eval e X.env) :: starEach es X.env := by rfl) : PAm X T P Wx (e :: es) (aCons m mr) :=
  PA.imp (pa_cons ha hr hs) fun σ H Q ⟨c, env, st, hH, hE, hR⟩ => by
    refine (tg_bind hH hE hR).mono fun x H1 ⟨u, c1, st1, l1, hH1, hE1, r1, hR1⟩ => ?_
    refine (tg_bind hH1 hE1 hR1).mono fun y H2 ⟨w, c2, st2, l2, hH2, hE2, r2, hR2⟩ => ?_
    exact hR2.ret hH2 (.cons (r1.mono l2) r2)
theorem pem_tup {x1} (h : PAm X T P Wx es mr) : PEm X T P Wx (.Tuple es x1 pos) (eTup mr) :=
  PE.imp (pe_tup h) fun σ H Q ⟨c, env, st, hH, hE, hR⟩ => by
    refine (tg_bind hH hE hR).mono fun xs H1 ⟨us, c1, st1, l1, hH1, hE1, r1, hR1⟩ => ?_
    by_cases hz : us.length ≤ 16777216
    · rw [if_pos hz] at hR1
      refine ⟨by rw [← r1.length, sizeLine_eq]; exact hz, fun p hp => ?_⟩
      have l := le_still hH1 hp (.tup xs)
      exact hR1 _ _ _ l (hH1.still hp _) (.tup (SqT.of upd_same) (r1.mono l))
    · rw [if_neg hz] at hR1
      exact hR1.elim
theorem pem_lst (h : PAm X T P Wx es mr) : PEm X T P Wx (.List es pos) (eLst mr) :=
  PE.imp (pe_lst h) fun σ H Q ⟨c, env, st, hH, hE, hR⟩ => by
    refine (tg_bind hH hE hR).mono fun xs H1 ⟨us, c1, st1, l1, hH1, hE1, r1, hR1⟩ => ?_
    by_cases hz : us.length ≤ 16777216
    · rw [if_pos hz] at hR1
      refine ⟨by rw [← r1.length, sizeLine_eq]; exact hz, fun p hp => ?_⟩
      have h2 := hH1.new hp (o := .lst us) (x := .lst xs) ⟨xs, rfl, r1⟩
      refine hR1 _ _ _ (le_new c1 p) h2 ?_
      have e : V.ref p = V.ref ((c1.new p).ρ c1.n) := by rw [new_self]
      rw [e, ← hH1.n]
      exact .loc (Nat.lt_succ_self _)
    · rw [if_neg hz] at hR1
      exact hR1.elim
theorem cb_run {r : List V → Hp → VK → Prop} {f : List U → Sto → Out U} (hs : CallSim T r f) (σ : L2.St) (H : Hp) (Q : VK) (h : teOf T P Wx (eCB f mr) σ H Q) : tCB r (taOf T P Wx mr) σ H Q := by
  obtain ⟨c, env, st, hH, hE, hR⟩ := h
  exact (tg_bind hH hE hR).mono fun xs H1 ⟨us, c1, st1, l1, hH1, hE1, r1, hR1⟩ => hs Wx c1 σ st1 H1 us xs Q hH1 r1 hR1
theorem pem_callB {x : Str} {p : Pos} {id : String} {r : List V → Hp → VK → Prop} {f : List U → Sto → Out U} (hc : CallR X (.builtin id) r) (hs : CallSim T r f) (hg : Gl X x) (hm : X.mg x = none) (hv : bootBuiltins x = some (.builtin id)) (ha : PAm X T P Wx (e :: es) mr) (hn : x ≠ "__name__" := by decide) (hdb : (x == ("__debug__" : Str)) = false := by decide)
    (he : starEach (e :: es) X.env = (false, eval e X.env) :: starEach es X.env := by rfl) (hpl : (backTo pos (starEach es X.env)).any (·.1) = false := by rfl) : PEm X T P Wx (.Call (.Name x p) (e :: es) [] pos) (eCB f mr) :=
  PE.imp (pe_callB hc hg hm hv ha hn hdb he hpl) (cb_run hs)
theorem pem_callTy {x : Str} {p : Pos} {id : String} {r : List V → Hp → VK → Prop} {f : List U → Sto → Out U} (hc : CallR X (.type id) r) (hs : CallSim T r f) (hg : Gl X x) (hm : X.mg x = none) (hv : bootBuiltins x = some (.type id)) (ha : PAm X T P Wx (e :: es) mr) (hn : x ≠ "__name__" := by decide) (hdb : (x == ("__debug__" : Str)) = false := by decide)
    (he : starEach (e :: es) X.env = (false, eval e X.env) :: starEach es X.env := by rfl) (hpl : (backTo pos (starEach es X.env)).any (·.1) = false := by rfl) : PEm X T P Wx (.Call (.Name x p) (e :: es) [] pos) (eCB f mr) :=
  PE.imp (pe_callTy hc hg hm hv ha hn hdb he hpl) (cb_run hs)
theorem pem_ix {r : R2} {f : U → U → Sto → Out U} (hr : IxR X r) (hs : OpSim T r f) (ha : PEm X T P Wx a ma) (hb : PEm X T P Wx b mb) (hx : PlainIx b := by exact fun _ _ => rfl) : PEm X T P Wx (.Subscript a b pos) (eOp f ma mb) :=
  PE.imp (pe_ix hr ha hb hx) (opr_run hs)
end
end NK

namespace NK
open PySem L2

section
variable {T : Tb} {X : Cx}
theorem szl : sizeLine = 16777216 := sizeLine_eq

theorem new_lst {Wx : WX} {c : Cn} {σ : L2.St} {st : Sto} {H : Hp} {us : List U} {vs : List V} {Q : VK} (hH : RH T c st H) (r : RpL T c us vs) (hR : ResG T Wx c σ (Rp T) (.ok (.loc st.length) (st ++ [.lst us])) Q) :
    ∀ p, H p = none → Q (.ref p) (upd H p (.lst vs)) := fun p hp => by
  have h2 := hH.new hp (o := .lst us) (x := .lst vs) ⟨vs, rfl, r⟩
  refine hR _ _ _ (le_new c p) h2 ?_
  have e : V.ref p = V.ref ((c.new p).ρ c.n) := by rw [new_self]
  rw [e, ← hH.n]
  exact .loc (Nat.lt_succ_self _)
theorem new_tup {Wx : WX} {c : Cn} {σ : L2.St} {st : Sto} {H : Hp} {us : List U} {vs : List V} {Q : VK} (hH : RH T c st H) (r : RpL T c us vs) (hR : ResG T Wx c σ (Rp T) (.ok (.tup us) st) Q) :
    ∀ p, H p = none → Q (.ref p) (upd H p (.tup vs)) := fun p hp =>
  hR _ _ _ (le_still hH hp (.tup vs)) (hH.still hp _) (.tup (SqT.of upd_same) (r.mono (le_still hH hp _)))

def fI (g : Int → Int → U) : U → U → Sto → Out U := fun u w st => match u, w with
  | .int i, .int j => .ok (g i j) st
  | _, _ => .bad
def fIc (C : Int → Int → Bool) (g : Int → Int → U) : U → U → Sto → Out U := fun u w st => match u, w with
  | .int i, .int j => if C i j = true then .ok (g i j) st else .bad
  | _, _ => .bad
theorem sim_I {g : Int → Int → U} {g' : Int → Int → V} (hg : ∀ c i j, Rp T c (g i j) (g' i j)) : OpSim T (rI0 g') (fI g) := fun Wx c σ st H u w x y Q hH ru rw hR => by
  cases u with
  | int i =>
    cases w with
    | int j =>
      cases ru.inv_int
      cases rw.inv_int
      exact ⟨i, j, rfl, rfl, ResG.ret hR hH (hg c i j)⟩
    | _ => exact hR.elim
  | _ => exact hR.elim
theorem sim_Ic {C : Int → Int → Bool} {C' : Int → Int → Prop} {g : Int → Int → U} {g' : Int → Int → V} (hg : ∀ c i j, Rp T c (g i j) (g' i j)) (hC : ∀ i j, C i j = true → C' i j) : OpSim T (rI C' g') (fIc C g) := fun Wx c σ st H u w x y Q hH ru rw hR => by
  cases u with
  | int i =>
    cases w with
    | int j =>
      cases ru.inv_int
      cases rw.inv_int
      dsimp only [fIc] at hR
      by_cases h : C i j = true
      · rw [if_pos h] at hR
        exact ⟨i, j, rfl, rfl, hC i j h, ResG.ret hR hH (hg c i j)⟩
      · rw [if_neg h] at hR
        exact hR.elim
    | _ => exact hR.elim
  | _ => exact hR.elim
def fSub := fI fun i j => .int (i - j)
def fLt := fI fun i j => .bl (decide (i < j))
def fLe := fI fun i j => .bl (decide (i ≤ j))
def fGt := fI fun i j => .bl (decide (j < i))
def fGe := fI fun i j => .bl (decide (j ≤ i))
theorem sim_sub : OpSim T (rI0 fun i j => .int (i - j)) fSub := sim_I fun _ _ _ => .int _
theorem sim_lt : OpSim T (rI0 fun i j => .bl (decide (i < j))) fLt := sim_I fun _ _ _ => .bl _
theorem sim_gt : OpSim T (rI0 fun i j => .bl (decide (j < i))) fGt := sim_I fun _ _ _ => .bl _
def cMul (i j : Int) : Bool := decide ((-(2 ^ 64) < i ∧ i < 2 ^ 64) ∨ (-(2 ^ 64) < j ∧ j < 2 ^ 64))
def cDiv (_ j : Int) : Bool := decide (0 < j ∧ j < 10 ^ 60)
def cMod (_ j : Int) : Bool := decide (0 < j)
def cPow (i j : Int) : Bool := decide (0 ≤ j ∧ j ≤ 1000000 ∧ i.natAbs < 2 ^ 64)
def fDiv := fIc cDiv fun i j => .int (i / j)
def fMod := fIc cMod fun i j => .int (i % j)
def fPow := fIc cPow fun i j => .int (i ^ j.toNat)
theorem sim_div : OpSim T (rI CDivW fun i j => .int (i / j)) fDiv := sim_Ic (fun _ _ _ => .int _) fun i j h => by
  have h' := of_decide_eq_true h
  exact wide_div (b := 200) h'.1 (by
    have : (10 : Int) ^ 60 < 2 ^ 200 := by decide
    have e : ((2 : Nat) ^ 200 : Int) = (2 : Int) ^ 200 := by norm_cast
    have h2 : (j.natAbs : Int) = j := Int.natAbs_of_nonneg (by omega)
    have h3 : (j.natAbs : Int) < ((2 ^ 200 : Nat) : Int) := by rw [h2]; exact Int.lt_trans h'.2 (by decide)
    exact Int.ofNat_lt.mp h3) (by decide) (by decide)
theorem sim_mod : OpSim T (rI (fun _ j => 0 < j) fun i j => .int (i % j)) fMod := sim_Ic (fun _ _ _ => .int _) fun i j h => of_decide_eq_true h
theorem sim_pow : OpSim T (rI CPow fun i j => .int (i ^ j.toNat)) fPow := sim_Ic (fun _ _ _ => .int _) fun i j h => by
  have h' := of_decide_eq_true (show decide (0 ≤ j ∧ j ≤ 1000000 ∧ i.natAbs < 2 ^ 64) = true from h)
  exact h'
def fNeg : U → Sto → Out U := fun u st => match u with
  | .int i => .ok (.int (-i)) st
  | _ => .bad
theorem sim_neg : UnSim T (rU fun i => .int (-i)) fNeg := fun Wx c σ st H u x Q hH ru hR => by
  cases u with
  | int i =>
    cases ru.inv_int
    exact ⟨i, rfl, ResG.ret hR hH (.int _)⟩
  | _ => exact hR.elim

def asLst (u : U) (st : Sto) : Option (List U) := match u with
  | .lst us => some us
  | .loc i => match st[i]? with
    | some (.lst us) => some us
    | _ => none
  | _ => none
theorem asLst_at {c : Cn} {st : Sto} {H : Hp} (h : RH T c st H) {u : U} {v : V} {us : List U} (r : Rp T c u v) (e : asLst u st = some us) : ∃ a vs, v = .ref a ∧ H a = some (.lst vs) ∧ RpL T c us vs := by
  cases u with
  | lst xs =>
    obtain ⟨a, vs, rfl, h1, h2⟩ := r.inv_lst
    cases e
    exact ⟨a, vs, rfl, h.sub _ _ h1, h2⟩
  | loc i =>
    obtain ⟨_, rfl⟩ := r.inv_loc
    dsimp only [asLst] at e
    split at e
    · rename_i us' q
      cases e
      obtain ⟨vs, h1, h2⟩ := h.at_lst q
      exact ⟨_, vs, rfl, h1, h2⟩
    · cases e
  | _ => cases e

def fAdd : U → U → Sto → Out U := fun u w st => match u, w with
  | .int i, .int j => .ok (.int (i + j)) st
  | .str a, .str b => if a.length + b.length ≤ 16777216 then .ok (.str (a ++ b)) st else .bad
  | .tup us, .tup ws => if us.isEmpty = true ∨ ¬ us.length + ws.length ≤ 16777216 then .bad else .ok (.tup (us ++ ws)) st
  | u, w => match asLst u st, asLst w st with
    | some us, some ws => if us.length + ws.length ≤ 16777216 then .ok (.loc st.length) (st ++ [.lst (us ++ ws)]) else .bad
    | _, _ => .bad
def rAddAll (K : PySem.W.Frag) : R2 := fun x y H Q => (rI0 (fun i j => .int (i + j)) x y H Q ∨ (∃ i j, x = .str i ∧ y = .str j ∧ i.length + j.length ≤ sizeLine ∧ Q (.str (i ++ j)) H)) ∨ (rCatT K x y H Q ∨ rCat x y H Q)
theorem op_addAll : OpR X (binaryOp .Add) (rAddAll X.K) := (op_add.or op_add_str).or (op_catT.or op_cat)
theorem sim_add : OpSim T (rAddAll T.K) fAdd := fun Wx c σ st H u w x y Q hH ru rw hR => by
  have lists : ∀ {us ws : List U}, asLst u st = some us → asLst w st = some ws → ResG T Wx c σ (Rp T) (if us.length + ws.length ≤ 16777216 then .ok (.loc st.length) (st ++ [.lst (us ++ ws)]) else .bad) Q → rCat x y H Q := by
    intro us ws e1 e2 h
    obtain ⟨a, vs, rfl, ha, r1⟩ := asLst_at hH ru e1
    obtain ⟨b, zs, rfl, hb, r2⟩ := asLst_at hH rw e2
    by_cases hz : us.length + ws.length ≤ 16777216
    · rw [if_pos hz] at h
      refine ⟨a, b, vs, zs, rfl, rfl, ha, hb, ?_, new_lst hH (r1.append r2) h⟩
      rw [szl, ← r1.length, ← r2.length]; exact hz
    · rw [if_neg hz] at h
      exact h.elim
  have gen : ResG T Wx c σ (Rp T) (match asLst u st, asLst w st with | some us, some ws => if us.length + ws.length ≤ 16777216 then .ok (.loc st.length) (st ++ [.lst (us ++ ws)]) else .bad | _, _ => .bad) Q → rAddAll T.K x y H Q := fun h => by
    split at h
    · rename_i us ws e1 e2
      exact .inr (.inr (lists e1 e2 h))
    · exact h.elim
  cases u with
  | int i =>
    cases w with
    | int j =>
      cases ru.inv_int
      cases rw.inv_int
      exact .inl (.inl ⟨i, j, rfl, rfl, ResG.ret hR hH (.int _)⟩)
    | _ => exact gen hR
  | str i =>
    cases w with
    | str j =>
      cases ru.inv_str
      cases rw.inv_str
      dsimp only [fAdd] at hR
      by_cases h : i.length + j.length ≤ 16777216
      · rw [if_pos h] at hR
        exact .inl (.inr ⟨i, j, rfl, rfl, by rw [szl]; exact h, ResG.ret hR hH (.str _)⟩)
      · rw [if_neg h] at hR
        exact hR.elim
    | _ => exact gen hR
  | tup us =>
    cases w with
    | tup ws =>
      obtain ⟨a, vs, rfl, h1, r1⟩ := ru.inv_tup
      obtain ⟨b, zs, rfl, h2, r2⟩ := rw.inv_tup
      dsimp only [fAdd] at hR
      by_cases h : us.isEmpty = true ∨ ¬ us.length + ws.length ≤ 16777216
      · rw [if_pos h] at hR
        exact hR.elim
      · rw [if_neg h] at hR
        have hne : ¬ us.isEmpty = true := fun z => h (.inl z)
        have hz : us.length + ws.length ≤ 16777216 := Classical.not_not.mp fun z => h (.inr z)
        refine .inr (.inl ⟨a, b, vs, zs, rfl, rfl, sqT_up hH h1, sqT_up hH h2, fun z => ?_, by rw [szl, ← r1.length, ← r2.length]; exact hz, fun z => ?_, fun _ => new_tup hH (r1.append r2) hR⟩)
        · subst z
          cases r1
          exact hne rfl
        · subst z
          cases r2
          rw [List.append_nil] at hR
          exact ResG.ret hR hH (.tup h1 r1)
    | _ => exact gen hR
  | _ => exact gen hR

def fMul : U → U → Sto → Out U := fun u w st => match u, w with
  | .int i, .int j => if cMul i j = true then .ok (.int (i * j)) st else .bad
  | u, .int k => match asLst u st with
    | some us => if -(2 ^ 63) ≤ k ∧ k < 2 ^ 63 ∧ us.length * k.toNat ≤ 16777216 then .ok (.loc st.length) (st ++ [.lst (List.replicate k.toNat us).flatten]) else .bad
    | none => .bad
  | _, _ => .bad
def rMulAll : R2 := fun x y H Q => rI CMul (fun i j => .int (i * j)) x y H Q ∨ rRep x y H Q
theorem op_mulAll : OpR X (binaryOp .Mult) rMulAll := op_mul.or op_rep
theorem RpL.rep {c : Cn} {us : List U} {vs : List V} (r : RpL T c us vs) : ∀ k : Nat, RpL T c (List.replicate k us).flatten (List.replicate k vs).flatten
  | 0 => by simpa using RpL.nil
  | k + 1 => by
    rw [List.replicate_succ, List.replicate_succ, List.flatten_cons, List.flatten_cons]
    exact r.append (RpL.rep r k)
theorem sim_mul : OpSim T rMulAll fMul := fun Wx c σ st H u w x y Q hH ru rw hR => by
  cases w with
  | int j =>
    cases rw.inv_int
    have gen : ResG T Wx c σ (Rp T) (match asLst u st with | some us => if -(2 ^ 63) ≤ j ∧ j < 2 ^ 63 ∧ us.length * j.toNat ≤ 16777216 then .ok (.loc st.length) (st ++ [.lst (List.replicate j.toNat us).flatten]) else .bad | none => .bad) Q → rMulAll x (.int j) H Q := fun h => by
      split at h
      · rename_i us e
        obtain ⟨a, vs, rfl, ha, r⟩ := asLst_at hH ru e
        split at h
        · rename_i hz
          exact .inr ⟨a, j, vs, rfl, rfl, ha, hz.1, hz.2.1, by rw [szl, ← r.length]; exact hz.2.2, new_lst hH (r.rep _) h⟩
        · exact h.elim
      · exact h.elim
    cases u with
    | int i =>
      cases ru.inv_int
      dsimp only [fMul] at hR
      by_cases h : cMul i j = true
      · rw [if_pos h] at hR
        have h' := of_decide_eq_true (show decide ((-(2 ^ 64) < i ∧ i < 2 ^ 64) ∨ (-(2 ^ 64) < j ∧ j < 2 ^ 64)) = true from h)
        exact .inl ⟨i, j, rfl, rfl, h', ResG.ret hR hH (.int _)⟩
      · rw [if_neg h] at hR
        exact hR.elim
    | _ => exact gen hR
  | _ => cases u <;> exact hR.elim

def U.isNon : U → Bool
  | .non => true
  | _ => false
def fIsN : U → U → Sto → Out U := fun u w st => match w with
  | .non => .ok (.bl u.isNon) st
  | _ => .bad
def fNotN : U → U → Sto → Out U := fun u w st => match w with
  | .non => .ok (.bl (!u.isNon)) st
  | _ => .bad
theorem Rp.non_iff {c : Cn} {u : U} {x : V} (r : Rp T c u x) : decide (x = .non) = u.isNon := by
  cases r <;> rfl
theorem sim_isN : OpSim T (fun x y H Q => y = .non ∧ Q (.bl (decide (x = .non))) H) fIsN := fun Wx c σ st H u w x y Q hH ru rw hR => by
  cases w with
  | non =>
    cases rw.inv_non
    refine ⟨rfl, ?_⟩
    rw [ru.non_iff]
    exact ResG.ret hR hH (.bl _)
  | _ => exact hR.elim
def allD (f : U → Option PyData) : List U → Option (List PyData)
  | [] => some []
  | u :: us => match f u, allD f us with
    | some d, some ds => some (d :: ds)
    | _, _ => none
def toD (st : Sto) : Nat → U → Option PyData
  | 0, _ => none
  | n + 1, u => match u with
    | .non => some .none
    | .bl b => some (.bool b)
    | .int i => some (.int i)
    | .str x => some (.str x)
    | .tup us => (allD (toD st n) us).map .tuple
    | .lst us => (allD (toD st n) us).map .list
    | .scr us => (allD (toD st n) us).map .list
    | .loc i => match st[i]? with
      | some (.lst us) => (allD (toD st n) us).map .list
      | _ => none
    | _ => none
theorem allD_at {K : PySem.W.Frag} {c : Cn} {H : Hp} {f : U → Option PyData} (hf : ∀ u v d, Rp T c u v → f u = some d → Dp K H v d) : ∀ {us : List U} {vs : List V} {ds : List PyData}, RpL T c us vs → allD f us = some ds → DpAll K H vs ds
  | _, _, _, .nil, e => by cases e; exact .nil
  | u :: us, v :: vs, ds, .cons r t, e => by
    dsimp only [allD] at e
    split at e
    · rename_i d ds' e1 e2
      cases e
      exact .cons (hf u v d r e1) (allD_at hf t e2)
    · cases e
theorem toD_at {c : Cn} {st : Sto} {H : Hp} (hH : RH T c st H) : ∀ (n : Nat) (u : U) (v : V) (d : PyData), Rp T c u v → toD st n u = some d → Dp T.K H v d
  | 0, _, _, _, _, e => by cases e
  | n + 1, u, v, d, r, e => by
    have ih := toD_at hH n
    cases u with
    | non => cases r.inv_non; cases e; exact .non
    | bl b => cases r.inv_bl; cases e; exact .bl b
    | int b => cases r.inv_int; cases e; exact .int b
    | str b => cases r.inv_str; cases e; exact .str b
    | tup us =>
      obtain ⟨a, vs, rfl, h1, r1⟩ := r.inv_tup
      dsimp only [toD] at e
      obtain ⟨ds, e1, rfl⟩ := Option.map_eq_some_iff.mp e
      exact .tup (sqT_up hH h1) (allD_at ih r1 e1)
    | lst us =>
      obtain ⟨a, vs, rfl, h1, r1⟩ := r.inv_lst
      dsimp only [toD] at e
      obtain ⟨ds, e1, rfl⟩ := Option.map_eq_some_iff.mp e
      exact .lst (SqL.of (hH.sub _ _ h1)) (allD_at ih r1 e1)
    | scr us =>
      obtain ⟨a, vs, rfl, h1, r1⟩ := r.inv_scr
      dsimp only [toD] at e
      obtain ⟨ds, e1, rfl⟩ := Option.map_eq_some_iff.mp e
      exact .lst (sqL_up hH h1) (allD_at ih r1 e1)
    | loc i =>
      obtain ⟨_, rfl⟩ := r.inv_loc
      dsimp only [toD] at e
      split at e
      · rename_i us q
        obtain ⟨vs, h1, r1⟩ := hH.at_lst q
        obtain ⟨ds, e1, rfl⟩ := Option.map_eq_some_iff.mp e
        exact .lst (SqL.of h1) (allD_at ih r1 e1)
      · cases e
    | _ => cases e
def fEqB (g : Bool → Bool) : U → U → Sto → Out U := fun u w st => match toD st 12 u, toD st 12 w with
  | some d, some e => if SeqAt.shaped d = true ∧ SeqAt.shaped e = true then .ok (.bl (g (PyData.eqv d e))) st else .bad
  | _, _ => .bad
def fEq := fEqB id
def fNe := fEqB not
theorem sim_eq : OpSim T (rEqD T.K) fEq := fun Wx c σ st H u w x y Q hH ru rw hR => by
  dsimp only [fEq, fEqB] at hR
  split at hR
  · rename_i d e e1 e2
    split at hR
    · rename_i hs
      exact ⟨d, e, toD_at hH _ _ _ _ ru e1, toD_at hH _ _ _ _ rw e2, hs.1, hs.2, ResG.ret hR hH (.bl _)⟩
    · exact hR.elim
  · exact hR.elim
theorem sim_ne : OpSim T (rNeD T.K) fNe := fun Wx c σ st H u w x y Q hH ru rw hR => by
  dsimp only [fNe, fEqB] at hR
  split at hR
  · rename_i d e e1 e2
    split at hR
    · rename_i hs
      exact ⟨d, e, toD_at hH _ _ _ _ ru e1, toD_at hH _ _ _ _ rw e2, hs.1, hs.2, ResG.ret hR hH (.bl _)⟩
    · exact hR.elim
  · exact hR.elim

def fLen : List U → Sto → Out U := fun us st => match us with
  | [.str z] => if z.length ≤ 16777216 then .ok (.int z.length) st else .bad
  | [u] => match items u st with
    | some xs => .ok (.int xs.length) st
    | none => .bad
  | _ => .bad
theorem sim_len : CallSim T (fun xs H Q => ∃ x n, xs = [x] ∧ LenV T.K x H n ∧ Q (.int n) H) fLen := fun Wx c σ st H us xs Q hH r hR => by
  cases r with
  | nil => exact hR.elim
  | @cons u v us vs r t =>
    cases t with
    | cons _ _ => cases u <;> exact hR.elim
    | nil =>
      have gen : ResG T Wx c σ (Rp T) (match items u st with | some xs => .ok (.int xs.length) st | none => .bad) Q → ∃ x n, [v] = [x] ∧ LenV T.K x H n ∧ Q (.int n) H := fun h => by
        split at h
        · rename_i us e
          obtain ⟨a, vs, rfl, h1, r1⟩ := items_at hH r e
          refine ⟨_, vs.length, rfl, ?_, ?_⟩
          · rcases h1 with h1 | h1
            · exact .inl ⟨vs, h1, rfl⟩
            · exact .inr ⟨vs, h1, rfl⟩
          · rw [← r1.length]
            exact ResG.ret h hH (.int _)
        · exact h.elim
      cases u with
      | str z =>
        cases r.inv_str
        dsimp only [fLen] at hR
        by_cases h : z.length ≤ 16777216
        · rw [if_pos h] at hR
          exact ⟨_, z.length, rfl, ⟨by rw [szl]; exact h, rfl⟩, ResG.ret hR hH (.int _)⟩
        · rw [if_neg h] at hR
          exact hR.elim
      | _ => exact gen hR
def fTuple : List U → Sto → Out U := fun us st => match us with
  | [u] => match items u st with
    | some xs => .ok (.tup xs) st
    | none => .bad
  | _ => .bad
def fInt : List U → Sto → Out U := fun us st => match us with
  | [.int i] => .ok (.int i) st
  | [.bl k] => .ok (.int (if k then 1 else 0)) st
  | _ => .bad
theorem sim_int : CallSim T (fun xs H Q => (∃ i, xs = [.int i] ∧ Q (.int i) H) ∨ ∃ k, xs = [.bl k] ∧ Q (.int (if k then 1 else 0)) H) fInt := fun Wx c σ st H us xs Q hH r hR => by
  cases r with
  | nil => exact hR.elim
  | @cons u v us vs r t =>
    cases t with
    | cons _ _ => cases u <;> exact hR.elim
    | nil =>
      cases u with
      | int i => cases r.inv_int; exact .inl ⟨i, rfl, ResG.ret hR hH (.int _)⟩
      | bl i => cases r.inv_bl; exact .inr ⟨i, rfl, ResG.ret hR hH (.int _)⟩
      | _ => exact hR.elim
def fAbs : List U → Sto → Out U := fun us st => match us with
  | [.int i] => .ok (.int (if i < 0 then -i else i)) st
  | _ => .bad
theorem sim_abs : CallSim T (fun xs H Q => ∃ i, xs = [.int i] ∧ Q (.int (if i < 0 then -i else i)) H) fAbs := fun Wx c σ st H us xs Q hH r hR => by
  cases r with
  | nil => exact hR.elim
  | @cons u v us vs r t =>
    cases t with
    | cons _ _ => cases u <;> exact hR.elim
    | nil =>
      cases u with
      | int i => cases r.inv_int; exact ⟨i, rfl, ResG.ret hR hH (.int _)⟩
      | _ => exact hR.elim
def fMin2 : List U → Sto → Out U := fun us st => match us with
  | [.int i, .int j] => .ok (.int (if j < i then j else i)) st
  | _ => .bad
theorem atI_rp {c : Cn} {us : List U} {vs : List V} (r : RpL T c us vs) {i : Int} {u : U} (e : atI us i = some u) : ∃ v, atI vs i = some v ∧ Rp T c u v := by
  unfold atI at e ⊢
  rw [← r.length]
  cases q : ixN us.length i with
  | none => rw [q] at e; cases e
  | some j =>
    rw [q] at e
    exact r.get e
def fIx : U → U → Sto → Out U := fun u w st => match w with
  | .int i => match u with
    | .str z => if z.length ≤ 16777216 then (match atI z.cps.toList i with
      | some c => .ok (.str ⟨#[c]⟩) st
      | none => .bad) else .bad
    | u => match items u st with
      | some us => (match atI us i with
        | some x => .ok x st
        | none => .bad)
      | none => .bad
  | _ => .bad
theorem sim_ix : OpSim T (rIx T.K) fIx := fun Wx c σ st H u w x y Q hH ru rw hR => by
  cases w with
  | int i =>
    cases rw.inv_int
    have gen : ResG T Wx c σ (Rp T) (match items u st with | some us => (match atI us i with | some x => .ok x st | none => .bad) | none => .bad) Q → rIx T.K x (.int i) H Q := fun h => by
      split at h
      · rename_i us e
        obtain ⟨a, vs, rfl, h1, r1⟩ := items_at hH ru e
        split at h
        · rename_i z q
          obtain ⟨v, hv, rv⟩ := atI_rp r1 q
          rcases h1 with h1 | h1
          · exact .inl ⟨a, vs, i, v, rfl, rfl, h1, hv, ResG.ret h hH rv⟩
          · exact .inr (.inl ⟨a, vs, i, v, rfl, rfl, h1, hv, ResG.ret h hH rv⟩)
        · exact h.elim
      · exact h.elim
    cases u with
    | str z =>
      cases ru.inv_str
      dsimp only [fIx] at hR
      split at hR
      · rename_i hz
        split at hR
        · rename_i c' q
          exact .inr (.inr ⟨z, i, c', rfl, rfl, by rw [szl]; exact hz, q, ResG.ret hR hH (.str _)⟩)
        · exact hR.elim
      · exact hR.elim
    | _ => exact gen hR
  | _ => exact hR.elim
end
end NK

namespace NK
open PySem L2

def WalkM (T : Tb) (c0 : Cn) (J : It) (us : List U) (g : Sto → Prop) : Prop :=
  ∃ (G : Hp → Prop) (Y : Nat → Hp → V → Hp → Prop), Walk J us.length G Y ∧ ∀ c st H, Le c0 c → RH T c st H → g st →
    G H ∧ ∀ i x H', i < us.length → Y i H x H' → ∃ c' u, us[i]? = some u ∧ Le c c' ∧ RH T c' st H' ∧ Rp T c' u x
structure Src where
  us : List U
  g : Sto → Prop
abbrev MI := MG Src
abbrev tiOf (T : Tb) (P : Pin) (Wx : WX) (m : MI) : TI := tgOf T P Wx (fun c p J => WalkM T c J p.us p.g) m
def PIm (X : Cx) (T : Tb) (P : Pin) (Wx : WX) (tg e : Expr) (m : MI) : Prop := PI X tg e (tiOf T P Wx m)

def src (u : U) (st : Sto) : Option Src := match u with
  | .str z => some ⟨z.cps.toList.map fun k => .str ⟨#[k]⟩, fun _ => True⟩
  | .tup us => some ⟨us, fun _ => True⟩
  | .lst us => some ⟨us, fun _ => True⟩
  | .scr us => some ⟨us, fun _ => True⟩
  | .loc i => match st[i]? with
    | some (.lst us) => some ⟨us, fun s => s[i]? = some (Ob.lst us)⟩
    | _ => none
  | _ => none
def iSeq (m : ME) : MI := fun env st => (m env st).bind fun u st1 => match src u st1 with
  | some p => .ok p st1
  | none => .bad
section
variable {X : Cx} {T : Tb} {P : Pin} {Wx : WX} {tg e : Expr} {m : ME}
theorem walk_of_list {c0 : Cn} {a : Addr} {us : List U} {g : Sto → Prop} (h : ∀ c st H, Le c0 c → RH T c st H → g st → ∃ vs, SqL T.K H a vs ∧ RpL T c us vs) : WalkM T c0 (Itl T.K a) us g := by
  refine ⟨fun H => ∃ vs, SqL T.K H a vs ∧ vs.length = us.length, fun i H x H' => H' = H ∧ ∀ vs, SqL T.K H a vs → vs[i]? = some x, ⟨fun i H hi ⟨vs, h1, h2⟩ => ?_, fun H ⟨vs, h1, h2⟩ => ⟨vs, h1, Nat.le_of_eq h2⟩, fun i H x H' hi _ y => y⟩, fun c st H l hH hg => ?_⟩
  · have hi' : i < vs.length := by rw [h2]; exact hi
    exact ⟨vs, vs[i], h1, by simp [hi']⟩
  · obtain ⟨vs, h1, r⟩ := h c st H l hH hg
    refine ⟨⟨vs, h1, r.length.symm⟩, fun i x H' hi y => ?_⟩
    obtain ⟨rfl, hx⟩ := y
    obtain ⟨u, hu, ru⟩ := r.getV (hx vs h1)
    exact ⟨c, u, hu, Le.refl c, hH, ru⟩
theorem walk_of_tup {c0 : Cn} {a : Addr} {us : List U} {g : Sto → Prop} (h : ∀ c st H, Le c0 c → RH T c st H → g st → ∃ vs, SqT T.K H a vs ∧ RpL T c us vs) : WalkM T c0 (Itt T.K a) us g := by
  refine ⟨fun H => ∃ vs, SqT T.K H a vs ∧ vs.length = us.length, fun i H x H' => H' = H ∧ ∀ vs, SqT T.K H a vs → vs[i]? = some x, ⟨fun i H hi ⟨vs, h1, h2⟩ => ?_, fun H ⟨vs, h1, h2⟩ => ⟨vs, h1, Nat.le_of_eq h2⟩, fun i H x H' hi _ y => y⟩, fun c st H l hH hg => ?_⟩
  · have hi' : i < vs.length := by rw [h2]; exact hi
    exact ⟨vs, vs[i], h1, by simp [hi']⟩
  · obtain ⟨vs, h1, r⟩ := h c st H l hH hg
    refine ⟨⟨vs, h1, r.length.symm⟩, fun i x H' hi y => ?_⟩
    obtain ⟨rfl, hx⟩ := y
    obtain ⟨u, hu, ru⟩ := r.getV (hx vs h1)
    exact ⟨c, u, hu, Le.refl c, hH, ru⟩
theorem walk_of_str {c0 : Cn} {z : Str} {g : Sto → Prop} : WalkM T c0 (Its z) (z.cps.toList.map fun k => U.str ⟨#[k]⟩) g := by
  refine ⟨fun _ => True, fun i H v H' => H' = H ∧ ∃ c, z.cps[i]? = some c ∧ v = .str ⟨#[c]⟩, ?_, fun c st H l hH hg => ⟨True.intro, fun i x H' hi y => ?_⟩⟩
  · rw [List.length_map, Array.length_toList]; exact walk_str
  · obtain ⟨rfl, k, hk, rfl⟩ := y
    refine ⟨c, .str ⟨#[k]⟩, ?_, Le.refl c, hH, .str _⟩
    rw [List.getElem?_map, Array.getElem?_toList, hk]
    rfl
theorem pim_seq (hK : X.K = T.K) (h : PEm X T P Wx e m) : PIm X T P Wx tg e (iSeq m) := PI.imp (PI.or (PI.or (pi_list h) (pi_tup h)) (pi_str h)) fun σ H R ⟨c, env, st, hH, hE, hR⟩ => by
  have go := tg_bind (m := m) (R := Rp T) (Q := R) hH hE hR
  cases e1 : m env st with
  | bad =>
    unfold iSeq at hR
    rw [e1] at hR
    exact hR.elim
  | exc x st1 =>
    refine .inr ⟨c, env, st, hH, hE, ?_⟩
    unfold iSeq at hR
    rw [e1] at hR ⊢
    exact hR
  | ok u st1 =>
    unfold iSeq at hR
    rw [e1] at hR
    have tup : ∀ {us : List U}, u = .tup us → (iList X.K (teOf T P Wx m) σ H R ∨ iTup X.K (teOf T P Wx m) σ H R) ∨ iStr (teOf T P Wx m) σ H R := by
      intro us eu
      subst eu
      refine .inl (.inr ⟨c, env, st, hH, hE, ?_⟩)
      rw [e1]
      intro c1 v H1 l1 hH1 r1
      obtain ⟨a, vs, rfl, h1, r2⟩ := r1.inv_tup
      refine ⟨a, rfl, ⟨vs, by rw [hK]; exact sqT_up hH1 h1⟩, ?_⟩
      rw [hK]
      exact hR c1 _ H1 l1 hH1 (walk_of_tup fun c2 st2 H2 l2 hH2 _ => ⟨vs, sqT_up hH2 (sqT_mono l2.F h1), r2.mono l2⟩)
    have lst : ∀ {us : List U} {g : Sto → Prop}, src u st1 = some ⟨us, g⟩ → (∀ c1 v H1, Le c c1 → RH T c1 st1 H1 → Rp T c1 u v → ∃ a vs, v = .ref a ∧ SqL T.K H1 a vs ∧ ∀ c2 st2 H2, Le c1 c2 → RH T c2 st2 H2 → g st2 → ∃ vs, SqL T.K H2 a vs ∧ RpL T c2 us vs) →
        (iList X.K (teOf T P Wx m) σ H R ∨ iTup X.K (teOf T P Wx m) σ H R) ∨ iStr (teOf T P Wx m) σ H R := by
      intro us g es k
      refine .inl (.inl ⟨c, env, st, hH, hE, ?_⟩)
      rw [e1]
      intro c1 v H1 l1 hH1 r1
      obtain ⟨a, vs, rfl, h1, kk⟩ := k c1 v H1 l1 hH1 r1
      refine ⟨a, rfl, ⟨vs, by rw [hK]; exact h1⟩, ?_⟩
      rw [hK]
      change ResG T Wx c σ _ (match src u st1 with | some p => .ok p st1 | none => .bad) R at hR
      rw [es] at hR
      exact hR c1 _ H1 l1 hH1 (walk_of_list kk)
    cases u with
    | tup us => exact tup rfl
    | lst us =>
      refine lst (us := us) (g := fun _ => True) rfl fun c1 v H1 l1 hH1 r1 => ?_
      obtain ⟨a, vs, rfl, h1, r2⟩ := r1.inv_lst
      exact ⟨a, vs, rfl, SqL.of (hH1.sub _ _ h1), fun c2 st2 H2 l2 hH2 _ => ⟨vs, SqL.of (hH2.sub _ _ (l2.F _ _ h1)), r2.mono l2⟩⟩
    | scr us =>
      refine lst (us := us) (g := fun _ => True) rfl fun c1 v H1 l1 hH1 r1 => ?_
      obtain ⟨a, vs, rfl, h1, r2⟩ := r1.inv_scr
      exact ⟨a, vs, rfl, sqL_up hH1 h1, fun c2 st2 H2 l2 hH2 _ => ⟨vs, sqL_up hH2 (sqL_mono l2.F h1), r2.mono l2⟩⟩
    | loc i =>
      cases es : st1[i]? with
      | none =>
        change ResG T Wx c σ _ (match (match st1[i]? with | some (.lst us) => some (Src.mk us fun s => s[i]? = some (Ob.lst us)) | _ => none) with | some p => .ok p st1 | none => .bad) R at hR
        rw [es] at hR
        exact hR.elim
      | some o =>
        cases o with
        | lst us =>
          refine lst (us := us) (g := fun s => s[i]? = some (Ob.lst us)) (by dsimp only [src]; rw [es]) fun c1 v H1 l1 hH1 r1 => ?_
          obtain ⟨hi, rfl⟩ := r1.inv_loc
          obtain ⟨vs, h1, r2⟩ := hH1.at_lst es
          refine ⟨_, vs, rfl, SqL.of h1, fun c2 st2 H2 l2 hH2 hg => ?_⟩
          obtain ⟨ws, h3, r3⟩ := hH2.at_lst hg
          rw [l2.ρ i hi] at h3
          exact ⟨ws, SqL.of h3, r3⟩
        | _ =>
          change ResG T Wx c σ _ (match (match st1[i]? with | some (.lst us) => some (Src.mk us fun s => s[i]? = some (Ob.lst us)) | _ => none) with | some p => .ok p st1 | none => .bad) R at hR
          rw [es] at hR
          exact hR.elim
    | str z =>
      refine .inr ⟨c, env, st, hH, hE, ?_⟩
      rw [e1]
      intro c1 v H1 l1 hH1 r1
      cases r1.inv_str
      exact ⟨z, rfl, hR c1 _ H1 l1 hH1 walk_of_str⟩
    | _ => exact hR.elim

def iRng1 (ma : MA) : MI := fun env st => (ma env st).bind fun us st1 => match us with
  | [.int j] => if -(2 ^ 62) ≤ j ∧ j < 2 ^ 62 then .ok ⟨(List.range j.toNat).map fun (i : Nat) => .int (0 + (i : Int)), fun _ => True⟩ st1 else .bad
  | _ => .bad
theorem walk_of_range {c0 : Cn} {lo : Int} {n : Nat} {g : Sto → Prop} : WalkM T c0 (Itr lo n) ((List.range n).map fun (i : Nat) => U.int (lo + (i : Int))) g := by
  refine ⟨fun _ => True, YFn fun i => .int (lo + i), ?_, fun c st H l hH hg => ⟨True.intro, fun i x H' hi y => ?_⟩⟩
  · rw [List.length_map, List.length_range]; exact walk_range
  · obtain ⟨rfl, rfl⟩ := y
    rw [List.length_map, List.length_range] at hi
    exact ⟨c, .int (lo + (i : Int)), by rw [List.getElem?_map, List.getElem?_range hi]; rfl, Le.refl c, hH, .int _⟩
variable {a b : Expr} {ma : MA} {p pos tpos : Pos}
theorem pim_range1 (hg : Gl X "range") (hm : X.mg "range" = none) (ha : PAm X T P Wx [a] ma) (hs : starEach [a] X.env = [(false, eval a X.env)] := by rfl) : PIm X T P Wx tg (.Call (.Name "range" p) [a] [] pos) (iRng1 ma) :=
  PI.imp (pi_range1 hg hm ha hs) fun σ H R ⟨c, env, st, hH, hE, hR⟩ => by
    refine (tg_bind hH hE hR).mono fun vs H1 ⟨us, c1, st1, l1, hH1, hE1, r1, hR1⟩ => ?_
    split at hR1
    · rename_i j
      obtain ⟨v, vs', rfl, r, t⟩ := r1.inv_cons
      cases t.inv_nil
      cases r.inv_int
      split at hR1
      · rename_i hj
        exact ⟨j, rfl, hj.1, hj.2, ResG.ret hR1 hH1 walk_of_range⟩
      · exact hR1.elim
    · exact hR1.elim
def enumFrom : Nat → List U → List U
  | _, [] => []
  | n, u :: us => .tup [.int (n : Int), u] :: enumFrom (n + 1) us
theorem enum_len : ∀ (n : Nat) (us : List U), (enumFrom n us).length = us.length
  | _, [] => rfl
  | n, u :: us => by
    show (enumFrom (n + 1) us).length + 1 = us.length + 1
    rw [enum_len (n + 1) us]
theorem enum_get : ∀ (n : Nat) (us : List U) (i : Nat) (u : U), us[i]? = some u → (enumFrom n us)[i]? = some (.tup [.int ((n + i : Nat) : Int), u])
  | _, [], _, _, h => by simp at h
  | n, a :: us, 0, u, h => by
    cases h
    rfl
  | n, a :: us, i + 1, u, h => by
    have ih := enum_get (n + 1) us i u (by simpa using h)
    show (enumFrom (n + 1) us)[i]? = _
    rw [ih]
    have e : n + 1 + i = n + (i + 1) := by omega
    rw [e]
theorem new_pair {c : Cn} {st : Sto} {H : Hp} (hH : RH T c st H) {u w : U} {x y : V} (r : Rp T c u x) (q : Rp T c w y) {t : Addr} (ht : H t = none) :
    Le c (c.still t (.tup [x, y])) ∧ RH T (c.still t (.tup [x, y])) st (upd H t (.tup [x, y])) ∧ Rp T (c.still t (.tup [x, y])) (.tup [u, w]) (.ref t) :=
  let l := le_still hH ht (.tup [x, y])
  ⟨l, hH.still ht _, .tup (SqT.of upd_same) (.cons (r.mono l) (.cons (q.mono l) .nil))⟩
theorem walk_of_enum {c0 : Cn} {a : Addr} {us : List U} {g : Sto → Prop} (h : ∀ c st H, Le c0 c → RH T c st H → g st → ∃ vs, SqL T.K H a vs ∧ RpL T c us vs) : WalkM T c0 (Ite T.K a) (enumFrom 0 us) g := by
  refine ⟨fun H => ∃ vs, SqL T.K H a vs ∧ vs.length = us.length, fun i H v H' => ∃ t x, v = .ref t ∧ H t = none ∧ H' = upd H t (.tup [.int (i : Nat), x]) ∧ ∀ xs, SqL T.K H a xs → xs[i]? = some x, ⟨fun i H hi ⟨vs, h1, h2⟩ => ?_, fun H ⟨vs, h1, h2⟩ => ⟨vs, h1, ?_⟩, fun i H x H' hi _ y => y⟩, fun c st H l hH hg => ?_⟩
  · have hi' : i < vs.length := by rw [h2, ← enum_len 0 us]; exact hi
    exact ⟨vs, vs[i], h1, by simp [hi']⟩
  · rw [enum_len, h2]; exact Nat.le_refl _
  · obtain ⟨vs, h1, r⟩ := h c st H l hH hg
    refine ⟨⟨vs, h1, r.length.symm⟩, fun i x H' hi y => ?_⟩
    obtain ⟨t, z, rfl, ht, rfl, hx⟩ := y
    obtain ⟨u, hu, ru⟩ := r.getV (hx vs h1)
    obtain ⟨n1, n2, n3⟩ := new_pair hH (.int (i : Int)) ru ht
    refine ⟨_, _, enum_get 0 us i u hu, n1, n2, ?_⟩
    rw [Nat.zero_add]
    exact n3
end

abbrev MGt := U → Env → Sto → Option Env
def gN (i : Nat) : MGt := fun u env _ => some (env.set i (some u))
def setAll : List Nat → List U → Env → Option Env
  | [], [], env => some env
  | i :: is, u :: us, env => setAll is us (env.set i (some u))
  | _, _, _ => none
def gT (is : List Nat) : MGt := fun u env _ => match u with
  | .tup us => setAll is us env
  | _ => none
def tgtOf (T : Tb) (P : Pin) (g : MGt) : TG := fun v σ H Q => ∃ c env st u env', RH T c st H ∧ RE T P c env σ ∧ Rp T c u v ∧ g u env st = some env' ∧ ∀ σ', RE T P c env' σ' → Q σ' H
def PGm (X : Cx) (T : Tb) (P : Pin) (tg : Expr) (g : MGt) : Prop := PG X tg (tgtOf T P g)
theorem PG.imp {X : Cx} {tg : Expr} {t t' : TG} (h : PG X tg t) (k : ∀ v σ H Q, t' v σ H Q → t v σ H Q) : PG X tg t' := ⟨fun pins s σ H v u Q I r q => h.run pins s σ H v u Q I r (k v σ H Q q)⟩
section
variable {X : Cx} {T : Tb} {P : Pin} {pos : Pos}
theorem pgm_name {tg : Expr} {i : Nat} (h : PG X tg (gName i)) (hp : pinned P i = false := by rfl) : PGm X T P tg (gN i) := PG.imp h fun v σ H Q ⟨c, env, st, u, env', hH, hE, r, e, k⟩ => by
  cases e
  exact k _ (hE.set r i hp)
inductive PGN (X : Cx) (P : Pin) : List Expr → List Nat → TGs → Prop
  | nil : PGN X P [] [] gNil
  | cons {e : Expr} {es : List Expr} {i : Nat} {is : List Nat} {t : TGs} : PG X e (gName i) → pinned P i = false → PGN X P es is t → (assignEach (e :: es) X.env).map (·.2) = assign e X.env :: (assignEach es X.env).map (·.2) → PGN X P (e :: es) (i :: is) (gCons (gName i) t)
theorem PGN.pgs {es : List Expr} {is : List Nat} {t : TGs} (h : PGN X P es is t) : PGs X es t := by
  induction h with
  | nil => exact pgs_nil
  | cons a _ _ b ih => exact pgs_cons a ih b
theorem PGN.run {es : List Expr} {is : List Nat} {t : TGs} (h : PGN X P es is t) : ∀ {c : Cn} {env env' : Env} {σ : L2.St} {H : Hp} {us : List U} {vs : List V} {Q : L2.St → Hp → Prop}, RE T P c env σ → RpL T c us vs → setAll is us env = some env' → (∀ σ', RE T P c env' σ' → Q σ' H) → t vs σ H Q := by
  induction h with
  | nil =>
    intro c env env' σ H us vs Q hE r e k
    cases us with
    | nil =>
      cases e
      cases r
      exact ⟨rfl, k _ hE⟩
    | cons _ _ => cases e
  | @cons e es i is t a hp _ b ih =>
    intro c env env' σ H us vs Q hE r e k
    cases us with
    | nil => cases e
    | cons u us =>
      obtain ⟨v, vs', rfl, r1, r2⟩ := r.inv_cons
      exact ⟨v, vs', rfl, ih (hE.set r1 i hp) r2 e k⟩
theorem set_len : ∀ {is : List Nat} {us : List U} {env env' : Env}, setAll is us env = some env' → us.length = is.length
  | [], [], _, _, _ => rfl
  | i :: is, u :: us, env, env', h => by
    have := set_len (is := is) (us := us) h
    simp [this]
  | [], _ :: _, _, _, h => by cases h
  | _ :: _, [], _, _, h => by cases h
theorem pgm_tup {es : List Expr} {kk : Nat} {is : List Nat} {t : TGs} (hK : X.K = T.K) (hc : X.calm = true) (h : PGN X P es is t) (hn : (assignEach es X.env).length = is.length := by rfl) (hst : (assignEach es X.env).findIdx? (·.1) = none := by rfl) : PGm X T P (.Tuple es kk pos) (gT is) :=
  PG.imp (pg_tup hc h.pgs hn hst) fun v σ H Q ⟨c, env, st, u, env', hH, hE, r, e, k⟩ => by
    cases u with
    | tup us =>
      obtain ⟨a, vs, rfl, h1, r1⟩ := r.inv_tup
      refine ⟨a, vs, rfl, by rw [hK]; exact sqT_up hH h1, ?_, h.run hE r1 e k⟩
      rw [← r1.length]
      exact set_len e
    | _ => cases e
end
end NK

namespace NK
open PySem L2

inductive SO where
  | next (env : Env) (st : Sto)
  | ret (u : U) (st : Sto)
  | brk (env : Env) (st : Sto)
  | cont (env : Env) (st : Sto)
  | exc (x : Ex) (env : Env) (st : Sto)
  | bad
abbrev MS := Env → Sto → SO
def ResS (T : Tb) (P : Pin) (Wx : WX) (c : Cn) (r : SO) (D : Ends) : Prop := match r with
  | .next env st => ∀ c' σ' H', Le c c' → RH T c' st H' → RE T P c' env σ' → D.nx σ' H'
  | .ret u st => ∀ c' v H', Le c c' → RH T c' st H' → Rp T c' u v → D.rt v H'
  | .brk env st => ∀ c' σ' H', Le c c' → RH T c' st H' → RE T P c' env σ' → D.bk σ' H'
  | .cont env st => ∀ c' σ' H', Le c c' → RH T c' st H' → RE T P c' env σ' → D.ct σ' H'
  | .exc x env st => ∀ c' cls d σ' H', Le c c' → RH T c' st H' → RE T P c' env σ' → RX T c' x cls d → Wx cls d σ' H'
  | .bad => False
def tsOf (T : Tb) (P : Pin) (Wx : WX) (m : MS) : TS := fun D σ H => ∃ c env st, RH T c st H ∧ RE T P c env σ ∧ ResS T P Wx c (m env st) D
def PSm (X : Cx) (T : Tb) (P : Pin) (Wx : WX) (s : Stmt) (m : MS) : Prop := PS X s (tsOf T P Wx m)
def PSsm (X : Cx) (T : Tb) (P : Pin) (Wx : WX) (s : List Stmt) (m : MS) : Prop := PSs X s (tsOf T P Wx m)

def SO.bind (r : SO) (k : MS) : SO := match r with
  | .next env st => k env st
  | .ret u st => .ret u st
  | .brk env st => .brk env st
  | .cont env st => .cont env st
  | .exc x env st => .exc x env st
  | .bad => .bad
def Out.st {α : Type} (r : Out α) (env : Env) (k : α → Sto → SO) : SO := match r with
  | .ok a st => k a st
  | .exc x st => .exc x env st
  | .bad => .bad

section
variable {T : Tb} {P : Pin} {Wx : WX} {c c' : Cn} {r : SO} {D D' : Ends} {σ : L2.St} {H : Hp}
theorem ResS.later (l : Le c c') (h : ResS T P Wx c r D) : ResS T P Wx c' r D := by
  cases r with
  | next env st => exact fun c2 σ' H' a b d => h c2 σ' H' (l.trans a) b d
  | ret u st => exact fun c2 σ' H' a b d => h c2 σ' H' (l.trans a) b d
  | brk env st => exact fun c2 σ' H' a b d => h c2 σ' H' (l.trans a) b d
  | cont env st => exact fun c2 σ' H' a b d => h c2 σ' H' (l.trans a) b d
  | exc x env st => exact fun c2 cls d σ' H' a b e f => h c2 cls d σ' H' (l.trans a) b e f
  | bad => exact h
theorem ResS.mono (h : ResS T P Wx c r D) (n : ∀ σ H, D.nx σ H → D'.nx σ H) (rt : ∀ v H, D.rt v H → D'.rt v H) (b : ∀ σ H, D.bk σ H → D'.bk σ H) (ct : ∀ σ H, D.ct σ H → D'.ct σ H) : ResS T P Wx c r D' := by
  cases r with
  | next env st => exact fun c2 σ' H' a e d => n _ _ (h c2 σ' H' a e d)
  | ret u st => exact fun c2 σ' H' a e d => rt _ _ (h c2 σ' H' a e d)
  | brk env st => exact fun c2 σ' H' a e d => b _ _ (h c2 σ' H' a e d)
  | cont env st => exact fun c2 σ' H' a e d => ct _ _ (h c2 σ' H' a e d)
  | exc x env st => exact h
  | bad => exact h
theorem ts_bind {α β : Type} {R : Cn → α → β → Prop} {m : MG α} {k : α → Sto → SO} {env : Env} {st : Sto} (hH : RH T c st H) (hE : RE T P c env σ) (hR : ResS T P Wx c ((m env st).st env k) D) :
    tgOf T P Wx R m σ H fun x H1 => ∃ u c1 st1, Le c c1 ∧ RH T c1 st1 H1 ∧ RE T P c1 env σ ∧ R c1 u x ∧ ResS T P Wx c1 (k u st1) D := by
  refine ⟨c, env, st, hH, hE, ?_⟩
  cases e : m env st with
  | ok u st1 =>
    rw [e] at hR
    exact fun c1 v H1 l h r => ⟨u, c1, st1, l, h, hE.mono l, r, ResS.later l hR⟩
  | exc x st1 =>
    rw [e] at hR
    exact fun c1 cls d H1 l h r => hR c1 cls d σ H1 l h (hE.mono l) r
  | bad =>
    rw [e] at hR
    exact hR
theorem ResS.go {env : Env} {st : Sto} (h : ResS T P Wx c (.next env st) D) (hH : RH T c st H) (hE : RE T P c env σ) : D.nx σ H := h c σ H (Le.refl c) hH hE
end

def sNext : MS := fun env st => .next env st
def sSeq (a b : MS) : MS := fun env st => (a env st).bind b
def sDrop (m : ME) : MS := fun env st => (m env st).st env fun _ st1 => .next env st1
def sRet (m : ME) : MS := fun env st => (m env st).st env fun u st1 => .ret u st1
def sRetN : MS := fun env st => .ret .non st
def sBrk : MS := fun env st => .brk env st
def sCont : MS := fun env st => .cont env st
def sAsg (m : ME) (g : MGt) : MS := fun env st => (m env st).st env fun u st1 => match g u env st1 with
  | some env' => .next env' st1
  | none => .bad
def sIf (mt : MT) (a b : MS) : MS := fun env st => (mt env st).st env fun k st1 => if k = true then a env st1 else b env st1
noncomputable def forM (g : Sto → Prop) (gt : MGt) (b : MS) : List U → MS
  | [], env, st => open Classical in if g st then .next env st else .bad
  | u :: us, env, st => open Classical in if g st then (match gt u env st with
    | none => .bad
    | some env1 => match b env1 st with
      | .next env2 st2 => forM g gt b us env2 st2
      | .cont env2 st2 => forM g gt b us env2 st2
      | .brk env2 st2 => .next env2 st2
      | .ret u st2 => .ret u st2
      | .exc x env2 st2 => .exc x env2 st2
      | .bad => .bad) else .bad
noncomputable def sFor (mi : MI) (gt : MGt) (b : MS) : MS := fun env st => (mi env st).st env fun p st1 => forM p.g gt b p.us env st1

section
variable {X : Cx} {T : Tb} {P : Pin} {Wx : WX} {s : Stmt} {rest : List Stmt} {e : Expr} {ma mb : MS} {m : ME} {pos : Pos}
theorem pssm_nil : PSsm X T P Wx [] sNext := PSs.imp pss_nil fun D σ H ⟨c, env, st, hH, hE, hR⟩ => ResS.go (D := D) hR hH hE
theorem seq_run {t u : TS} (h1 : ∀ D σ H, tsOf T P Wx ma D σ H → t D σ H) (h2 : ∀ D σ H, tsOf T P Wx mb D σ H → u D σ H) (D : Ends) (σ : L2.St) (H : Hp) (h : tsOf T P Wx (sSeq ma mb) D σ H) : tSeq t u D σ H := by
  obtain ⟨c, env, st, hH, hE, hR⟩ := h
  refine h1 _ _ _ ⟨c, env, st, hH, hE, ?_⟩
  unfold sSeq at hR
  cases q : ma env st with
  | next env1 st1 =>
    rw [q] at hR
    exact fun c1 σ1 H1 l1 hH1 hE1 => h2 _ _ _ ⟨c1, env1, st1, hH1, hE1, ResS.later l1 hR⟩
  | ret u st1 => rw [q] at hR; exact hR
  | brk env1 st1 => rw [q] at hR; exact hR
  | cont env1 st1 => rw [q] at hR; exact hR
  | exc x env1 st1 => rw [q] at hR; exact hR
  | bad => rw [q] at hR; exact hR
theorem pssm_cons (h1 : PSm X T P Wx s ma) (h2 : PSsm X T P Wx rest mb) : PSsm X T P Wx (s :: rest) (sSeq ma mb) := PSs.imp (pss_cons h1 h2) (seq_run (fun _ _ _ h => h) fun _ _ _ h => h)
theorem pssm_one (h1 : PSm X T P Wx s ma) : PSsm X T P Wx [s] ma := pss_one h1
theorem psm_ret (h : PEm X T P Wx e m) : PSm X T P Wx (.Return (some e) pos) (sRet m) := PS.imp (ps_ret h) fun D σ H ⟨c, env, st, hH, hE, hR⟩ =>
  (ts_bind hH hE hR).mono fun x H1 ⟨u, c1, st1, l1, hH1, hE1, r1, hR1⟩ => hR1 c1 x H1 (Le.refl c1) hH1 r1
theorem asg_run {tg : TG} {g : MGt} (hg : ∀ v σ H Q, tgtOf T P g v σ H Q → tg v σ H Q) (D : Ends) (σ : L2.St) (H : Hp) (h : tsOf T P Wx (sAsg m g) D σ H) : tAsg (teOf T P Wx m) tg D σ H := by
  obtain ⟨c, env, st, hH, hE, hR⟩ := h
  refine (ts_bind hH hE hR).mono fun x H1 ⟨u, c1, st1, l1, hH1, hE1, r1, hR1⟩ => ?_
  split at hR1
  · rename_i env' q
    exact hg _ _ _ _ ⟨c1, env, st1, u, env', hH1, hE1, r1, q, fun σ' hE' => ResS.go (D := D) hR1 hH1 hE'⟩
  · exact hR1.elim
theorem psm_set {i : Nat} {x : Str} {pos' : Pos} (hN : X.N.Nodup) (hi : X.N[i]? = some x) (hx : Loc X.env.scope x) (h : PEm X T P Wx e m) (hs : swapsWith e (some (.Name x pos')) pos.line X.env = pure false := by rfl) (hp : pinned P i = false := by rfl)
    (hf : X.fn x = true ∨ X.env.scope.names.lookup x = some .local := by first | exact .inl rfl | exact .inr rfl | assumption) : PSm X T P Wx (.Assign [.Name x pos'] e pos) (sAsg m (gN i)) :=
  PS.imp (ps_set hN hi hx h hs hf) (asg_run fun v σ H Q ⟨c, env, st, u, env', hH, hE, r, q, k⟩ => by
    cases q
    exact k _ (hE.set r i hp))
theorem psm_if {c : Expr} {a b : List Stmt} {mt : MT} (hc : PTm X T P Wx c mt) (ha : PSsm X T P Wx a ma) (hb : PSsm X T P Wx b mb) : PSm X T P Wx (.If c a b pos) (sIf mt ma mb) :=
  PS.imp (ps_if hc ha hb) fun D σ H ⟨c, env, st, hH, hE, hR⟩ => (ts_bind hH hE hR).mono fun k H1 ⟨u, c1, st1, l1, hH1, hE1, r1, hR1⟩ => by
    cases (show u = k from r1)
    cases k with
    | true => exact ⟨c1, env, st1, hH1, hE1, hR1⟩
    | false => exact ⟨c1, env, st1, hH1, hE1, hR1⟩
theorem for_run {J : It} {us : List U} {g : Sto → Prop} {gt : MGt} {tg : TG} {tb : TS} {c0 : Cn} {D : Ends} (hw : WalkM T c0 J us g) (hg : ∀ v σ H Q, tgtOf T P gt v σ H Q → tg v σ H Q) (hb : ∀ D σ H, tsOf T P Wx ma D σ H → tb D σ H)
    {c : Cn} {env : Env} {st : Sto} {σ : L2.St} {H : Hp} (l : Le c0 c) (hH : RH T c st H) (hE : RE T P c env σ) (hR : ResS T P Wx c (forM g gt ma us env st) D) :
    ∃ W : Nat → Nat → L2.St → Hp → Prop, (∃ m, W 0 m σ H) ∧ ∀ i m σ H, W i m σ H →
      (J.stop i H ∧ D.nx σ H) ∨ (J.go i H ∧ ∃ N : L2.St → Hp → Prop, (∀ σ' H', N σ' H' → ∃ m', m' < m ∧ W (i + 1) m' σ' H') ∧ ∀ x H', J.yld i H x H' → tg x σ H' fun σ2 H2 => tb { D with nx := N, ct := N, bk := D.nx } σ2 H2) := by
  obtain ⟨G, Y, w, k⟩ := hw
  refine for_it w (fun i σ H => i ≤ us.length ∧ ∃ c env st, Le c0 c ∧ RH T c st H ∧ RE T P c env σ ∧ ResS T P Wx c (forM g gt ma (us.drop i) env st) D) ⟨Nat.zero_le _, c, env, st, l, hH, hE, hR⟩ ?_ ?_ ?_
  · rintro i σ H hi ⟨_, c, env, st, l, hH, hE, hR⟩
    have hg' : g st := by
      cases q : us.drop i with
      | nil =>
        rw [q] at hR
        unfold forM at hR
        split at hR
        · assumption
        · exact hR.elim
      | cons u r =>
        rw [q] at hR
        unfold forM at hR
        split at hR
        · assumption
        · exact hR.elim
    exact (k c st H l hH hg').1
  · rintro i x σ H H' hi ⟨_, c, env, st, l, hH, hE, hR⟩ y
    have hd : us.drop i = us[i] :: us.drop (i + 1) := List.drop_eq_getElem_cons hi
    rw [hd] at hR
    unfold forM at hR
    split at hR
    · rename_i hg'
      obtain ⟨c1, u, hu, l1, hH1, r1⟩ := (k c st H l hH hg').2 i x H' hi y
      have eu : us[i] = u := by
        rw [List.getElem?_eq_getElem hi] at hu
        exact Option.some.inj hu
      rw [eu] at hR
      split at hR
      · exact hR.elim
      · rename_i env1 q
        refine hg _ _ _ _ ⟨c1, env, st, u, env1, hH1, hE.mono l1, r1, q, fun σ1 hE1 => hb _ _ _ ⟨c1, env1, st, hH1, hE1, ?_⟩⟩
        have l2 := l.trans l1
        cases qb : ma env1 st with
        | next env2 st2 =>
          rw [qb] at hR
          exact fun c2 σ2 H2 l3 hH2 hE2 => ⟨hi, c2, env2, st2, l2.trans l3, hH2, hE2, ResS.later (l1.trans l3) hR⟩
        | cont env2 st2 =>
          rw [qb] at hR
          exact fun c2 σ2 H2 l3 hH2 hE2 => ⟨hi, c2, env2, st2, l2.trans l3, hH2, hE2, ResS.later (l1.trans l3) hR⟩
        | brk env2 st2 =>
          rw [qb] at hR
          exact fun c2 σ2 H2 l3 hH2 hE2 => hR c2 σ2 H2 (l1.trans l3) hH2 hE2
        | ret u2 st2 =>
          rw [qb] at hR
          exact fun c2 v H2 l3 hH2 r2 => hR c2 v H2 (l1.trans l3) hH2 r2
        | exc x2 env2 st2 =>
          rw [qb] at hR
          exact fun c2 cls d σ2 H2 l3 hH2 hE2 r2 => hR c2 cls d σ2 H2 (l1.trans l3) hH2 hE2 r2
        | bad =>
          rw [qb] at hR
          exact hR.elim
    · exact hR.elim
  · rintro σ H ⟨_, c, env, st, l, hH, hE, hR⟩
    rw [List.drop_length] at hR
    unfold forM at hR
    split at hR
    · exact ResS.go (D := D) hR hH hE
    · exact hR.elim
theorem psm_for {tg iter : Expr} {body : List Stmt} {mi : MI} {gt : MGt} (hp : PassesOwn (model X.prog X.w) X.A X.env X.xe) (hc : X.calm = true) (hi : PIm X T P Wx tg iter mi) (hg : PGm X T P tg gt) (hb : PSsm X T P Wx body ma)
    (hs : ∀ x, foldedSetIterable iter X.env x = pure x := by intro _; rfl) : PSm X T P Wx (.For tg iter body [] pos) (sFor mi gt ma) :=
  PS.imp (ps_for hp hc hi hg hb hs) fun D σ H ⟨c, env, st, hH, hE, hR⟩ => (ts_bind hH hE hR).mono fun J H1 ⟨p, c1, st1, l1, hH1, hE1, r1, hR1⟩ =>
    for_run r1 (fun _ _ _ _ h => h) (fun _ _ _ h => h) (Le.refl c1) hH1 hE1 hR1
end
end NK

namespace NK
open PySem L2

mutual
def U.under (n : Nat) : U → Bool
  | .loc i => decide (i < n)
  | .tup us => U.underL n us
  | .lst us => U.underL n us
  | .scr us => U.underL n us
  | .ins _ us => U.underL n us
  | .exn _ us => U.underL n us
  | _ => true
def U.underL (n : Nat) : List U → Bool
  | [] => true
  | u :: us => U.under n u && U.underL n us
end
def Ob.under (n : Nat) : Ob → Bool
  | .lst us => U.underL n us
  | .dK kvs => U.underL n (kvs.map (·.2))
  | .dT kvs => U.underL n (kvs.map (·.2))
  | .ins _ us => U.underL n us
  | .iset _ => true
  | .dead => true
  | .lk o => o.under n
section
variable {T : Tb} {c c2 : Cn}
mutual
theorem Rp.under : ∀ {u : U} {v : V}, Rp T c u v → u.under c.n = true
  | _, _, .non => rfl
  | _, _, .bl _ => rfl
  | _, _, .int _ => rfl
  | _, _, .str _ => rfl
  | _, _, .ty _ => rfl
  | _, _, .cls _ => rfl
  | _, _, .tup _ r => RpL.under r
  | _, _, .lst _ r => RpL.under r
  | _, _, .scr _ r => RpL.under r
  | _, _, .ins _ _ r => RpL.under r
  | _, _, .exn _ r => RpL.under r
  | _, _, .loc h => by
    unfold U.under
    exact decide_eq_true h
theorem RpL.under : ∀ {us : List U} {vs : List V}, RpL T c us vs → U.underL c.n us = true
  | _, _, .nil => rfl
  | _, _, .cons r t => by
    unfold U.underL
    rw [Rp.under r, RpL.under t]
    rfl
end
theorem RpK.under {κ : Type} : ∀ {us : List (κ × U)} {vs : List (κ × V)}, RpK T c us vs → U.underL c.n (us.map (·.2)) = true
  | _, _, .nil => rfl
  | _, _, .cons r t => by
    show U.underL c.n (_ :: _) = true
    unfold U.underL
    rw [Rp.under r, RpK.under t]
    rfl
theorem RO.under {o : Ob} {a : Addr} {h : HO} (r : RO T c o a h) : o.under c.n = true := by
  induction o generalizing h with
  | lk o ih => obtain ⟨od, x, _, _, r⟩ := r; exact ih r
  | lst us => obtain ⟨vs, _, r⟩ := r; exact r.under
  | dK us => obtain ⟨vs, _, r⟩ := r; exact r.under
  | dT us => obtain ⟨vs, _, r⟩ := r; exact r.under
  | ins k us => obtain ⟨dx, vs, _, _, r⟩ := r; exact r.under
  | iset ks => rfl
  | dead => rfl
def Cn.cut (c : Cn) (n : Nat) : Cn := { c with n := n }
mutual
theorem Rp.cut {n : Nat} : ∀ {u : U} {v : V}, Rp T c u v → u.under n = true → Rp T (c.cut n) u v
  | _, _, .non, _ => .non
  | _, _, .bl b, _ => .bl b
  | _, _, .int i, _ => .int i
  | _, _, .str x, _ => .str x
  | _, _, .ty n, _ => .ty n
  | _, _, .cls k, _ => .cls k
  | _, _, .tup e r, h => .tup e (RpL.cut r h)
  | _, _, .lst e r, h => .lst e (RpL.cut r h)
  | _, _, .scr e r, h => .scr e (RpL.cut r h)
  | _, _, .ins e l r, h => .ins e l (RpL.cut r h)
  | _, _, .exn e r, h => .exn e (RpL.cut r h)
  | _, _, .loc (i := i) hi, h => by
    unfold U.under at h
    exact .loc (c := c.cut n) (of_decide_eq_true h)
theorem RpL.cut {n : Nat} : ∀ {us : List U} {vs : List V}, RpL T c us vs → U.underL n us = true → RpL T (c.cut n) us vs
  | _, _, .nil, _ => .nil
  | _, _, .cons r t, h => by
    unfold U.underL at h
    rw [Bool.and_eq_true] at h
    exact .cons (Rp.cut r h.1) (RpL.cut t h.2)
end
theorem RpK.cut {κ : Type} {n : Nat} : ∀ {us : List (κ × U)} {vs : List (κ × V)}, RpK T c us vs → U.underL n (us.map (·.2)) = true → RpK T (c.cut n) us vs
  | _, _, .nil, _ => .nil
  | _, _, .cons r t, h => by
    have h' : (U.under n _ && U.underL n _) = true := h
    rw [Bool.and_eq_true] at h'
    exact .cons (Rp.cut r h'.1) (RpK.cut t h'.2)
theorem RO.cut {n : Nat} {o : Ob} {a : Addr} {h : HO} (r : RO T c o a h) (b : o.under n = true) : RO T (c.cut n) o a h := by
  induction o generalizing h with
  | lk o ih => obtain ⟨od, x, e, k, r⟩ := r; exact ⟨od, x, e, k, ih r b⟩
  | lst us => obtain ⟨vs, e, r⟩ := r; exact ⟨vs, e, r.cut b⟩
  | dK us => obtain ⟨vs, e, r⟩ := r; exact ⟨vs, e, r.cut b⟩
  | dT us => obtain ⟨vs, e, r⟩ := r; exact ⟨vs, e, r.cut b⟩
  | ins k us => obtain ⟨dx, vs, e, z, r⟩ := r; exact ⟨dx, vs, e, z, r.cut b⟩
  | iset ks => exact r
  | dead => exact r.elim
def oldOk (st st' : Sto) : Prop := st.length ≤ st'.length ∧ ∀ i, i < st.length → st'[i]? = st[i]? ∨ ∃ o, st'[i]? = some o ∧ o.under 0 = true
mutual
theorem U.under_mono {n m : Nat} (h : n ≤ m) : ∀ {u : U}, u.under n = true → u.under m = true
  | .loc i, e => by unfold U.under at e ⊢; exact decide_eq_true (Nat.lt_of_lt_of_le (of_decide_eq_true e) h)
  | .tup us, e => U.underL_mono h (us := us) e
  | .lst us, e => U.underL_mono h (us := us) e
  | .scr us, e => U.underL_mono h (us := us) e
  | .ins _ us, e => U.underL_mono h (us := us) e
  | .exn _ us, e => U.underL_mono h (us := us) e
  | .non, _ => rfl
  | .bl _, _ => rfl
  | .int _, _ => rfl
  | .str _, _ => rfl
  | .ty _, _ => rfl
  | .cls _, _ => rfl
theorem U.underL_mono {n m : Nat} (h : n ≤ m) : ∀ {us : List U}, U.underL n us = true → U.underL m us = true
  | [], _ => rfl
  | u :: us, e => by
    unfold U.underL at e ⊢
    rw [Bool.and_eq_true] at e ⊢
    exact ⟨U.under_mono h e.1, U.underL_mono h e.2⟩
end
theorem Ob.under_mono {n m : Nat} (h : n ≤ m) {o : Ob} (e : o.under n = true) : o.under m = true := by
  induction o with
  | lk o ih => exact ih e
  | lst us => exact U.underL_mono h (us := us) e
  | dK us =>
    have e' : U.underL n (us.map fun p => p.2) = true := e
    exact U.underL_mono h e'
  | dT us =>
    have e' : U.underL n (us.map fun p => p.2) = true := e
    exact U.underL_mono h e'
  | ins k us => exact U.underL_mono h (us := us) e
  | iset ks => rfl
  | dead => rfl
theorem scope_cut {st st2 : Sto} {H H2 : Hp} (hH : RH T c st H) (l : Le c c2) (hH2 : RH T c2 st2 H2) (old : oldOk st st2) : Le c (c2.cut c.n) ∧ RH T (c2.cut c.n) (st2.take st.length) H2 := by
  refine ⟨⟨Nat.le_refl _, fun i hi => l.ρ i hi, l.F, l.L⟩, ?_, hH2.sub, fun i o e d => ?_, fun i j a b ea da eb db q => ?_, hH2.lkd, hH2.tab, hH2.ntb⟩
  · show c.n = _
    rw [hH.n, List.length_take]
    have := old.1
    omega
  · have hi : i < st.length := by
      have := (List.getElem?_eq_some_iff.mp e).1
      rw [List.length_take] at this
      omega
    rw [List.getElem?_take_of_lt hi] at e
    obtain ⟨h, h1, h2, h3⟩ := hH2.act i o e d
    refine ⟨h, h1, h2.cut ?_, h3⟩
    rcases old.2 i hi with q | ⟨o', q, b⟩
    · rw [e] at q
      obtain ⟨h', _, h2', _⟩ := hH.act i o q.symm d
      exact h2'.under
    · rw [e] at q
      cases q
      exact Ob.under_mono (Nat.zero_le _) b
  · have hi : i < st.length := by
      have := (List.getElem?_eq_some_iff.mp ea).1
      rw [List.length_take] at this
      omega
    have hj : j < st.length := by
      have := (List.getElem?_eq_some_iff.mp eb).1
      rw [List.length_take] at this
      omega
    rw [List.getElem?_take_of_lt hi] at ea
    rw [List.getElem?_take_of_lt hj] at eb
    exact hH2.inj i j a b ea da eb db q
end

noncomputable def scopeOut (st : Sto) (r : Out U) : Out U := (r.bind frz).bind fun u st2 => open Classical in if u.under st.length = true ∧ oldOk st st2 then .ok u (st2.take st.length) else .bad
noncomputable def eScope (m : ME) : ME := fun env st => scopeOut st (m env st)
section
variable {X : Cx} {T : Tb} {P : Pin} {Wx : WX} {e : Expr} {m : ME} {pos : Pos}
theorem frz_at {c : Cn} {st : Sto} {H : Hp} {u u2 : U} {v : V} {st2 : Sto} (hH : RH T c st H) (r : Rp T c u v) (e : frz u st = .ok u2 st2) : ∃ c2, Le c c2 ∧ RH T c2 st2 H ∧ Rp T c2 u2 v := by
  cases u with
  | loc i =>
    obtain ⟨hi, rfl⟩ := r.inv_loc
    dsimp only [frz] at e
    split at e
    · rename_i us q
      cases e
      obtain ⟨vs, h1, h2⟩ := hH.at_lst q
      have l := le_freeze (x := .lst vs) hH q (fun z => nomatch z)
      exact ⟨_, l, hH.freeze q (fun z => nomatch z) h1, .lst upd_same (h2.mono l)⟩
    · rename_i k us q
      cases e
      obtain ⟨dx, vs, h1, hz, h2⟩ := hH.at_ins q
      have l := le_freeze (x := .ins (T.cls k) dx ((T.fld k).zip vs)) hH q (fun z => nomatch z)
      exact ⟨_, l, hH.freeze q (fun z => nomatch z) h1, .ins upd_same hz (h2.mono l)⟩
    · cases e
  | _ => cases e; exact ⟨c, Le.refl c, hH, r⟩
theorem frz_noexc {u : U} {st : Sto} {x : Ex} {st2 : Sto} : frz u st ≠ .exc x st2 := by
  intro h
  cases u with
  | loc i =>
    dsimp only [frz] at h
    split at h <;> cases h
  | _ => cases h
theorem scope_res {c : Cn} {σ : L2.St} {st : Sto} {H : Hp} {r : Out U} {Q : VK} (hH : RH T c st H) (h : ResG T Wx c σ (Rp T) (scopeOut st r) Q) : ResG T Wx c σ (Rp T) r Q := by
  cases r with
  | ok u st1 =>
    intro c1 v H1 l1 hH1 r1
    unfold scopeOut at h
    cases q : frz u st1 with
    | ok u2 st2 =>
      obtain ⟨c2, l2, hH2, r2⟩ := frz_at hH1 r1 q
      change ResG T Wx c σ (Rp T) ((frz u st1).bind _) Q at h
      rw [q] at h
      change ResG T Wx c σ (Rp T) (open Classical in if u2.under st.length = true ∧ oldOk st st2 then .ok u2 (st2.take st.length) else .bad) Q at h
      split at h
      · rename_i hs
        obtain ⟨l3, hH3⟩ := scope_cut hH (l1.trans l2) hH2 hs.2
        rw [← hH.n] at hs
        exact h _ _ _ l3 hH3 (r2.cut hs.1)
      · exact h.elim
    | exc x st2 => exact absurd q frz_noexc
    | bad =>
      change ResG T Wx c σ (Rp T) ((frz u st1).bind _) Q at h
      rw [q] at h
      exact h.elim
  | exc x st1 => exact h
  | bad => exact h
theorem pem_scope (h : PEm X T P Wx e m) : PEm X T P Wx e (eScope m) := PE.imp h fun σ H Q ⟨c, env, st, hH, hE, hR⟩ => ⟨c, env, st, hH, hE, scope_res hH hR⟩

def wipeE (env : Env) : List Nat → Env
  | [] => env
  | v :: vs => (wipeE env vs).set v none
theorem RE.wipe {c : Cn} {env : Env} {σ : L2.St} (r : RE T P c env σ) : ∀ vs : List Nat, (∀ i ∈ vs, pinned P i = false) → RE T P c (wipeE env vs) (L2.wipe σ vs)
  | [], _ => r
  | v :: vs, h => by
    show RE T P c ((wipeE env vs).set v none) ((L2.wipe σ vs).set v none)
    exact (RE.wipe r vs fun i hi => h i (List.mem_cons_of_mem _ hi)).unset v (h v (List.mem_cons_self ..))
noncomputable def compM (g : Sto → Prop) (gt : MGt) (mt : MT) (me : ME) (D : Nat) (env : Env) : List U → Sto → Out U
  | [], st => open Classical in if g st then .ok (.loc D) st else .bad
  | u :: us, st => open Classical in if g st then (match gt u env st with
    | none => .bad
    | some env1 => match mt env1 st with
      | .ok true st1 => (match me env1 st1 with
        | .ok w st2 => match st2[D]? with
          | some (.lst acc) => if acc.length < 16777216 then compM g gt mt me D env us (st2.set D (.lst (acc ++ [w]))) else .bad
          | _ => .bad
        | _ => .bad)
      | .ok false st1 => compM g gt mt me D env us st1
      | _ => .bad) else .bad
def tYes : MT := fun _ st => .ok true st
noncomputable def eComp (mi : MI) (gt : MGt) (mt : MT) (me : ME) (vs : List Nat) : ME := fun env st => (mi env st).bind fun p st1 => compM p.g gt mt me st1.length (wipeE env vs) p.us (st1 ++ [.lst []])
def Wx0 : WX := fun _ _ _ _ => False
def GW (tg : TG) (vs : List Nat) : Prop := ∀ (v : V) (σ : L2.St) (H : Hp) (Q : L2.St → Hp → Prop), (tg v (L2.wipe σ vs) H fun σ3 H3 => L2.wipe σ3 vs = L2.wipe σ vs → Q σ3 H3) → tg v (L2.wipe σ vs) H fun σ3 H3 => L2.wipe σ3 vs = L2.wipe σ vs ∧ Q σ3 H3
theorem comp_run {J : It} {us : List U} {g : Sto → Prop} {gt : MGt} {tg : TG} {mt : MT} {me : ME} {tt : TT} {te : TE} {vs : List Nat} {c0 : Cn} {Q : VK} {σ : L2.St} (hw : WalkM T c0 J us g)
    (hg : ∀ v σ H Q, tgtOf T P gt v σ H Q → tg v σ H Q) (ht : ∀ σ H Q, ttOf T P Wx0 mt σ H Q → tt σ H Q) (he : ∀ σ H Q, teOf T P Wx0 me σ H Q → te σ H Q)
    (hp : ∀ i ∈ vs, pinned P i = false) (hgw : GW tg vs)
    {c : Cn} {env : Env} {st : Sto} {H : Hp} (l : Le c0 c) (hH : RH T c st H) (hE : RE T P c env σ) {D : Addr} (hD : H D = none) (hR : ResG T Wx c σ (Rp T) (compM g gt mt me st.length (wipeE env vs) us (st ++ [.lst []])) Q) :
    ∃ W : Nat → Nat → Hp → Prop, (∃ m, W 0 m (upd H D (.lst []))) ∧ ∀ i m H, W i m H →
      (J.stop i H ∧ Q (.ref D) H) ∨ (J.go i H ∧ ∃ Nx : Hp → Prop, (∀ H', Nx H' → ∃ m', m' < m ∧ W (i + 1) m' H') ∧ ∀ x H', J.yld i H x H' → tg x (L2.wipe σ vs) H' fun σ2 H2 => L2.wipe σ2 vs = L2.wipe σ vs ∧ tt σ2 H2 fun b H3 =>
        if b = true then te σ2 H3 fun y H4 => ∃ acc, H4 D = some (.lst acc) ∧ acc.length < sizeLine ∧ Nx (upd H4 D (.lst (acc ++ [y]))) else Nx H3) := by
  obtain ⟨G, Y, w, k⟩ := hw
  have start := hH.new hD (o := .lst []) (x := .lst []) ⟨[], rfl, .nil⟩
  have hpos : (c.new D).ρ st.length = D := by rw [← hH.n, new_self]
  have hlt : st.length < (c.new D).n := by show _ < c.n + 1; rw [hH.n]; exact Nat.lt_succ_self _
  have lD := le_new c D
  have hE0 : RE T P c (wipeE env vs) (L2.wipe σ vs) := hE.wipe vs hp
  generalize hn : st.length = n at hR hpos hlt
  refine lc_it w (fun i H => i ≤ us.length ∧ ∃ c1 st1, Le (c.new D) c1 ∧ RH T c1 st1 H ∧ ResG T Wx c σ (Rp T) (compM g gt mt me n (wipeE env vs) (us.drop i) st1) Q) ⟨Nat.zero_le _, _, _, Le.refl _, start, hR⟩ ?_ ?_ ?_
  · rintro i H hi ⟨_, c1, st1, l1, hH1, hR1⟩
    have hg' : g st1 := by
      cases q : us.drop i with
      | nil =>
        rw [q] at hR1
        unfold compM at hR1
        split at hR1
        · assumption
        · exact hR1.elim
      | cons u r =>
        rw [q] at hR1
        unfold compM at hR1
        split at hR1
        · assumption
        · exact hR1.elim
    exact (k c1 st1 H ((l.trans lD).trans l1) hH1 hg').1
  · rintro i x H H' hi ⟨_, c1, st1, l1, hH1, hR1⟩ y
    have hd : us.drop i = us[i] :: us.drop (i + 1) := List.drop_eq_getElem_cons hi
    rw [hd] at hR1
    unfold compM at hR1
    split at hR1
    · rename_i hg'
      obtain ⟨c2, u, hu, l2, hH2, r2⟩ := (k c1 st1 H ((l.trans lD).trans l1) hH1 hg').2 i x H' hi y
      have eu : us[i] = u := by
        rw [List.getElem?_eq_getElem hi] at hu
        exact Option.some.inj hu
      rw [eu] at hR1
      have hE2 : RE T P c2 (wipeE env vs) (L2.wipe σ vs) := hE0.mono ((lD.trans l1).trans l2)
      split at hR1
      · exact hR1.elim
      · rename_i env1 q
        refine hgw x σ _ _ (hg _ _ _ _ ⟨c2, wipeE env vs, st1, u, env1, hH2, hE2, r2, q, fun σ1 hE1 _ => ?_⟩)
        refine ht _ _ _ ⟨c2, env1, st1, hH2, hE1, ?_⟩
        split at hR1
        · rename_i st2 qt
          rw [qt]
          intro c3 b H3 l3 hH3 eb
          cases (show true = b from eb)
          rw [if_pos rfl]
          refine he _ _ _ ⟨c3, env1, st2, hH3, hE1.mono l3, ?_⟩
          split at hR1
          · rename_i w' st3 qe
            rw [qe]
            intro c4 z H4 l4 hH4 r4
            split at hR1
            · rename_i acc qa
              obtain ⟨vacc, h1, ra⟩ := hH4.at_lst qa
              have hl4 := ((l1.trans l2).trans l3).trans l4
              have e4 : c4.ρ n = D := (hl4.ρ n hlt).trans hpos
              rw [e4] at h1
              split at hR1
              · rename_i hz
                refine ⟨vacc, h1, by rw [szl, ← ra.length]; exact hz, hi, c4, _, hl4, ?_, hR1⟩
                have := hH4.set qa (fun z => nomatch z) (o' := .lst (acc ++ [w'])) (x := .lst (vacc ++ [z])) ⟨_, rfl, ra.append (.one r4)⟩
                rw [e4] at this
                exact this
              · exact hR1.elim
            · exact hR1.elim
          · exact hR1.elim
        · rename_i st2 qt
          rw [qt]
          intro c3 b H3 l3 hH3 eb
          cases (show false = b from eb)
          rw [if_neg Bool.false_ne_true]
          exact ⟨hi, c3, st2, (l1.trans l2).trans l3, hH3, hR1⟩
        · exact hR1.elim
    · exact hR1.elim
  · rintro H ⟨_, c1, st1, l1, hH1, hR1⟩
    rw [List.drop_length] at hR1
    unfold compM at hR1
    split at hR1
    · have e : V.ref D = V.ref (c1.ρ n) := by rw [l1.ρ n hlt, hpos]
      rw [e]
      exact hR1 c1 _ H (lD.trans l1) hH1 (.loc (Nat.lt_of_lt_of_le hlt l1.n))
    · exact hR1.elim
theorem wipe_get : ∀ (ws : List Nat) (ρ : L2.St) (j : Nat), (L2.wipe ρ ws)[j]? = if j ∈ ws then (ρ[j]?).map fun _ => none else ρ[j]? := by
  intro ws
  induction ws with
  | nil => intro ρ j; simp [L2.wipe]
  | cons w ws ih =>
    intro ρ j
    show ((L2.wipe ρ ws).set w none)[j]? = _
    by_cases h : w = j
    · subst h
      rw [List.getElem?_set]
      simp only [if_true, List.mem_cons, true_or, L2.wipe_length]
      by_cases hl : w < ρ.length
      · simp [hl]
      · simp [hl]
    · rw [List.getElem?_set_ne h, ih]
      have h' : ¬ j = w := fun z => h z.symm
      simp [h']
theorem wipe_set {σ : L2.St} {i : Nat} {x : Option V} {vs : List Nat} (hi : i ∈ vs) : L2.wipe (σ.set i x) vs = L2.wipe σ vs := by
  apply List.ext_getElem?
  intro j
  rw [wipe_get, wipe_get vs σ]
  by_cases hj : j ∈ vs
  · simp only [hj, if_true]
    by_cases h : i = j
    · subst h
      rw [List.getElem?_set]
      simp only [if_true]
      by_cases hl : i < σ.length
      · simp [hl]
      · simp [hl]
    · rw [List.getElem?_set_ne h]
  · have h : i ≠ j := fun z => hj (z ▸ hi)
    rw [if_neg hj, if_neg hj, List.getElem?_set_ne h]
theorem wipe_wipe {σ : L2.St} {vs : List Nat} : L2.wipe (L2.wipe σ vs) vs = L2.wipe σ vs := by
  apply List.ext_getElem?
  intro j
  rw [wipe_get, wipe_get]
  by_cases hj : j ∈ vs
  · simp only [hj, if_true]
    cases σ[j]? <;> rfl
  · rw [if_neg hj]
theorem gw_name {i : Nat} {vs : List Nat} (hi : i ∈ vs) : GW (gName i) vs := fun v σ H Q h =>
  have e : L2.wipe ((L2.wipe σ vs).set i (some v)) vs = L2.wipe σ vs := (wipe_set hi).trans wipe_wipe
  ⟨e, h e⟩
theorem lc_run {wi : TI} {tg : TG} {tt : TT} {te : TE} {mi : MI} {gt : MGt} {mt : MT} {me : ME} {vs : List Nat} (hi : ∀ σ H R, tiOf T P Wx mi σ H R → wi σ H R) (hg : ∀ v σ H Q, tgtOf T P gt v σ H Q → tg v σ H Q) (ht : ∀ σ H Q, ttOf T P Wx0 mt σ H Q → tt σ H Q) (he : ∀ σ H Q, teOf T P Wx0 me σ H Q → te σ H Q)
    (hgw : GW tg vs) (hp : ∀ i ∈ vs, pinned P i = false) (σ : L2.St) (H : Hp) (Q : VK) (h : teOf T P Wx (eComp mi gt mt me vs) σ H Q) : tLc wi tg tt te vs σ H Q := by
  obtain ⟨c, env, st, hH, hE, hR⟩ := h
  refine hi σ H _ ((tg_bind hH hE hR).mono fun J H1 ⟨p, c1, st1, l1, hH1, hE1, r1, hR1⟩ D hD => ?_)
  exact comp_run r1 hg ht he hp hgw (Le.refl c1) hH1 hE1 hD hR1
theorem pem_comp {elt tg iter : Expr} {ifs : List Expr} {scope : Scope} {own : List (Str × Nat)} {tgr : TG} {mi : MI} {gt : MGt} {mt : MT} {me : ME} (hc : X.calm = true) (hN : X.N.Nodup) (hi : PIm X T P Wx tg iter mi) (ok : BlkOk X.N X.env.scope scope own)
    (hg : ∀ (s : Shared) (H : Hp) (C : Addr) (cl : List (Str × Addr)) (fp : List Addr), PG (X.blk s H scope (compEnvC scope cl C X.env) fp) tg tgr) (hgr : ∀ v σ H Q, tgtOf T P gt v σ H Q → tgr v σ H Q) (hgw : GW tgr (own.map (·.2)))
    (ht : ∀ (s : Shared) (H : Hp) (C : Addr) (cl : List (Str × Addr)) (fp : List Addr), PTs (X.blk s H scope (compEnvC scope cl C X.env) fp) ifs (ttOf T P Wx0 mt))
    (he : ∀ (s : Shared) (H : Hp) (C : Addr) (cl : List (Str × Addr)) (fp : List Addr), PEm (X.blk s H scope (compEnvC scope cl C X.env) fp) T P Wx0 elt me) (hp : ∀ i ∈ own.map (·.2), pinned P i = false := by intro i _; rfl) (hs : ∀ x, foldedSetIterable iter X.env x = pure x := by intro _; rfl) :
    PEm X T P Wx (.ListComp elt [⟨tg, iter, ifs, 0⟩] scope pos) (eComp mi gt mt me (own.map (·.2))) :=
  PE.imp (pe_lc hc hN hi ok hg ht he hs) (lc_run (fun _ _ _ h => h) hgr (fun _ _ _ h => h) (fun _ _ _ h => h) hgw hp)
theorem psm_setLc {i : Nat} {y : Str} {py spos : Pos} {elt tg iter : Expr} {ifs : List Expr} {scope : Scope} {own : List (Str × Nat)} {tgr : TG} {mi : MI} {gt : MGt} {mt : MT} {me : ME} {m' : ME} (hm : ∀ σ H Q, teOf T P Wx m' σ H Q → teOf T P Wx (eComp mi gt mt me (own.map (·.2))) σ H Q)
    (hc : X.calm = true) (hN : X.N.Nodup) (hy : X.N[i]? = some y) (hyl : X.env.scope.names.lookup y = some .local)
    (hsw : swapsWith (.ListComp elt [⟨tg, iter, ifs, 0⟩] scope pos) (some (.Name y py)) spos.line X.env = pure true) (hi : PIm X T P Wx tg iter mi) (ok : BlkOk X.N X.env.scope scope own)
    (hg : ∀ (s : Shared) (H : Hp) (C : Addr) (cl : List (Str × Addr)) (fp : List Addr), PG (X.blk s H scope (compEnvC scope cl C X.env) fp) tg tgr) (hgr : ∀ v σ H Q, tgtOf T P gt v σ H Q → tgr v σ H Q) (hgw : GW tgr (own.map (·.2)))
    (ht : ∀ (s : Shared) (H : Hp) (C : Addr) (cl : List (Str × Addr)) (fp : List Addr), PTs (X.blk s H scope (compEnvC scope cl C X.env) fp) ifs (ttOf T P Wx0 mt))
    (he : ∀ (s : Shared) (H : Hp) (C : Addr) (cl : List (Str × Addr)) (fp : List Addr), PEm (X.blk s H scope (compEnvC scope cl C X.env) fp) T P Wx0 elt me) (hp : ∀ i ∈ own.map (·.2), pinned P i = false := by intro i _; rfl) (hpi : pinned P i = false := by rfl) (hs : ∀ x, foldedSetIterable iter X.env x = pure x := by intro _; rfl) :
    PSm X T P Wx (.Assign [.Name y py] (.ListComp elt [⟨tg, iter, ifs, 0⟩] scope pos) spos) (sAsg m' (gN i)) :=
  PS.imp (ps_setLc hc hN hy hyl hsw hi ok hg ht he hs) fun D σ H h => lc_run (fun _ _ _ h => h) hgr (fun _ _ _ h => h) (fun _ _ _ h => h) hgw hp σ H _ (hm σ H _ (asg_run (tg := gName i) (fun v σ H Q ⟨c, env, st, u, env', hH, hE, r, q, k⟩ => by
    cases q
    exact k _ (hE.set r i hpi)) D σ H h))
theorem scope_hm {m : ME} (σ : L2.St) (H : Hp) (Q : VK) (h : teOf T P Wx (eScope m) σ H Q) : teOf T P Wx m σ H Q := by
  obtain ⟨c, env, st, hH, hE, hR⟩ := h
  exact ⟨c, env, st, hH, hE, scope_res hH hR⟩
theorem ptsm_nil {σ : Unit} : PTs X [] (ttOf T P Wx0 tYes) := ⟨fun pins s σ H Q I h => by
  obtain ⟨c, env, st, hH, hE, hR⟩ := h
  exact pts_nil.run pins s σ H Q I (show L2.tYes σ H Q from ResG.ret (u := true) hR hH rfl)⟩
end
end NK

namespace NK
open PySem L2

def isLoc : U → Sto → Bool := fun u st => match u with
  | .loc i => match st[i]? with
    | some (.lst _) => true
    | _ => false
  | _ => false
def eBM (f : U → List U → Sto → Out U) (mo : ME) (ma : MA) : ME := fun env st => (mo env st).bind fun x st1 => if isLoc x st1 = true then (ma env st1).bind fun ws st2 => f x ws st2 else .bad
section
variable {X : Cx} {T : Tb} {P : Pin} {Wx : WX} {o e : Expr} {es : List Expr} {mo m mi : ME} {ma : MA} {apos cpos pos : Pos}
def setIx (o i w : U) (st : Sto) : Option Sto := match o, i with
  | .loc n, .int k => match st[n]? with
    | some (.lst us) => match ixN us.length k with
      | some j => some (st.set n (.lst (us.set j w)))
      | none => none
    | _ => none
  | _, _ => none
def sSetIx (mo mi m : ME) : MS := fun env st => (m env st).st env fun w st1 => (mo env st1).st env fun o st2 => (mi env st2).st env fun i st3 => match setIx o i w st3 with
  | some st4 => .next env st4
  | none => .bad
theorem psm_setIx {s : Stmt} (h : PS X s (tAsg (teOf T P Wx m) (gSub (teOf T P Wx mo) (teOf T P Wx mi) rSetL))) : PSm X T P Wx s (sSetIx mo mi m) :=
  PS.imp h fun D σ H ⟨c, env, st, hH, hE, hR⟩ => by
    refine (ts_bind hH hE hR).mono fun x H1 ⟨w, c1, st1, l1, hH1, hE1, r1, hR1⟩ => ?_
    refine (ts_bind hH1 hE1 hR1).mono fun y H2 ⟨o, c2, st2, l2, hH2, hE2, r2, hR2⟩ => ?_
    refine (ts_bind hH2 hE2 hR2).mono fun z H3 ⟨i, c3, st3, l3, hH3, hE3, r3, hR3⟩ => ?_
    split at hR3
    · rename_i st4 q
      unfold setIx at q
      split at q
      · rename_i n k
        obtain ⟨hi, rfl⟩ := (r2.mono l3).inv_loc
        cases r3.inv_int
        split at q
        · rename_i us es'
          split at q
          · rename_i j ej
            cases q
            obtain ⟨vs, h1, r4⟩ := hH3.at_lst es'
            refine ⟨_, vs, _, j, rfl, rfl, h1, by rw [← r4.length]; exact ej, ?_⟩
            exact ResS.go (D := D) hR3 (hH3.set es' (fun z => nomatch z) ⟨_, rfl, r4.set j ((r1.mono l2).mono l3)⟩) hE3
          · cases q
        · cases q
      · cases q
    · exact hR3.elim

structure FldOk (T : Tb) (k j : Nat) (f : Str) : Prop where
  cl : Cls T.K (T.cls k)
  na : NoAttr T.K (T.cls k) f
  nm : (T.fld k)[j]? = some f
  nd : (T.fld k).Nodup
  sz : (T.fld k).length ≤ 900
def asIns (u : U) (st : Sto) : Option (Nat × List U) := match u with
  | .ins k us => some (k, us)
  | .loc i => match st[i]? with
    | some (.ins k us) => some (k, us)
    | _ => none
  | _ => none
def getF (k j : Nat) (u : U) (st : Sto) : Option U := match asIns u st with
  | some (k', us) => if k' = k then us[j]? else none
  | none => none
def eFld (k j : Nat) (m : ME) : ME := fun env st => (m env st).bind fun u st1 => match getF k j u st1 with
  | some w => .ok w st1
  | none => .bad
def putFld (k j : Nat) (o w : U) (st : Sto) : Option Sto := match o with
  | .loc i => match st[i]? with
    | some (.ins k' us) => if k' = k then (if j < us.length then some (st.set i (.ins k (us.set j w))) else if j = us.length then some (st.set i (.ins k (us ++ [w]))) else none) else none
    | _ => none
  | _ => none
def sFld (k j : Nat) (mo m : ME) : MS := fun env st => (m env st).st env fun w st1 => (mo env st1).st env fun o st2 => match putFld k j o w st2 with
  | some st3 => .next env st3
  | none => .bad
abbrev MF := List U → Sto → Out U
def spOf (T : Tb) (n : Nat) (mf : MF) : Sp := fun vs H Q E => vs.length = n ∧ ∃ c us st, RH T c st H ∧ RpL T c us vs ∧ ResG T (fun cls d _ H => E cls d H) c [] (Rp T) (mf us st) Q
def runF (n : Nat) (mb : MS) : MF := fun us st => match mb (us.map some ++ List.replicate (n - us.length) none) st with
  | .ret u st' => .ok u st'
  | .next _ st' => .ok .non st'
  | .exc x _ st' => .exc x st'
  | _ => .bad
open PyProof.Rows (envOfC) in
theorem start_RE {c : Cn} {us : List U} {vs : List V} {N : List Str} (r : RpL T c us vs) : RE T none c (us.map some ++ List.replicate (N.length - us.length) none) (L2.start N vs) := by
  unfold L2.start
  refine ⟨by simp [r.length], fun i u h => ?_, fun p e => by cases e⟩
  by_cases hi : i < us.length
  · rw [List.getElem?_append_left (by simpa using hi), List.getElem?_map] at h
    cases q : us[i]? with
    | none => rw [q] at h; cases h
    | some w =>
      rw [q] at h
      cases h
      obtain ⟨v, hv, rv⟩ := r.get q
      exact ⟨v, by rw [List.getElem?_append_left (by rw [List.length_map, ← r.length]; exact hi), List.getElem?_map, hv]; rfl, rv⟩
  · rw [List.getElem?_append_right (by simpa using hi), List.getElem?_replicate] at h
    split at h <;> cases h
open PyProof.Rows (envOfC) in
noncomputable def fScope (mf : MF) : MF := fun us st => scopeOut st (mf us st)
theorem spOf_scope {n : Nat} {mf : MF} (vs : List V) (H : Hp) (Q : VK) (E : XK) (h : spOf T n (fScope mf) vs H Q E) : spOf T n mf vs H Q E := by
  obtain ⟨hl, c, us, st0, hH, r, hR⟩ := h
  exact ⟨hl, c, us, st0, hH, r, scope_res hH hR⟩
def eCall (n : Nat) (mf : MF) (dus : List U) (ma : MA) : ME := fun env st => (ma env st).bind fun us st1 => if (us ++ dus).length = n then mf (us ++ dus) st1 else .bad
theorem ResG.wish {α β : Type} {R : Cn → α → β → Prop} {c : Cn} {σ σ' : L2.St} {r : Out α} {Q : β → Hp → Prop} {W W' : WX} (h : ResG T W c σ R r Q) (k : ∀ cls d H, W cls d σ H → W' cls d σ' H) : ResG T W' c σ' R r Q := by
  cases r with
  | ok u st => exact h
  | exc x st => exact fun c' cls d H' a b e => k _ _ _ (h c' cls d H' a b e)
  | bad => exact h
theorem pem_call {k n : Nat} {f : Addr} {fd : FuncData} {ps : List Str} {mf : MF} {dus : List U} {dvs : List V} {ds : List Value} {x : Str} {p : Pos} (tk : Takes X Wx) (F : FnOk X.prog X.w X.K X.mg X.base (L2.CX X.prog X.w) k f fd ps (spOf T n mf)) (hr : Room k X.A) (hg : Gl X x) (hm : X.mg x = some (.ref f)) (hk : PySem.W.keepIn X.K (.ref f) = true) (hb : Binds X.K fd ps ds) (hd : Vals dvs ds)
    (hdr : ∀ c, RpL T c dus dvs) (hn : ps.length = n) (ha : PAm X T P Wx (e :: es) ma) (hdb : (x == ("__debug__" : Str)) = false := by decide) (he : starEach (e :: es) X.env = (false, eval e X.env) :: starEach es X.env := by rfl) (hpl : (backTo pos (starEach es X.env)).any (·.1) = false := by rfl) :
    PEm X T P Wx (.Call (.Name x p) (e :: es) [] pos) (eCall n mf dus ma) :=
  PE.imp (pe_callSD (E := fun σ cls d H => Wx cls d σ H) F hr hg hm hk hb hd (fun σ => passAt tk σ) ha hdb he hpl) fun σ H Q ⟨c, env, st, hH, hE, hR⟩ => by
    refine (tg_bind hH hE hR).mono fun vs H1 ⟨us, c1, st1, l1, hH1, hE1, r1, hR1⟩ => ?_
    split at hR1
    · rename_i hl
      have r2 := r1.append (hdr c1)
      exact ⟨by rw [← r2.length]; exact hl, c1, _, st1, hH1, r2, hR1.wish fun cls d H h => h⟩
    · exact hR1.elim
end
end NK

namespace NK
open PySem L2

theorem call_mw {P : Program} {w : World} {A : Around} {E : Value → Shared → Prop} {h : Heap} {g : Array GenState} {d : Drawn} {tk : Nat} {os : OsState} {x C t u N' : Addr} {nm qn : Str} {bs bm : List Value} {hdct : Bool} {sn : List Str} {sub : List Value} {ab : Bool} {col : Option Bool}
    {dd : Option Addr} {k0 k1 k2 k3 k5 : Option Value} {rest : List Value} {Q : Value → Shared → Prop} (hC : h.get? C = some (excClassObj nm qn C N' bs bm hdct sn sub ab col dd k0 k1 k2 k3 k5 "ValueError.__new__"))
    (hu : h.get? u = some (PySem.W.kxs_mw "ValueError.__init__" x)) (he : h.get? x = some (PySem.W.excObj C t none .none)) (hz : rest.length ≤ sizeLine)
    (fin : ∀ h' t', (∀ b o, b ≠ x → h.get? b = some o → h'.get? b = some o) → h'.get? x = some (PySem.W.excObj C t' none .none) → Q .none ⟨h', g, d, tk, os⟩) :
    wpAny (model P w) A (call (.ref u) rest) Q E ⟨h, g, d, tk, os⟩ := by
  refine wpAny_call (codeAny_of_tree ?_)
  show wpAny _ A.in1 (callAny (.ref u) ⟨rest, []⟩) _ _ _
  simp only [callAny]
  refine wpAny_bind (wpAny_load hu ?_)
  simp only [PySem.W.kxs_mw, show (Value.type "method-wrapper" == Value.type "method" || Value.type "method-wrapper" == Value.type "builtin_function_or_method" || Value.type "method-wrapper" == Value.type "method-wrapper") = true by decide, if_true]
  refine PySem.W.KFB.if_so (by decide) ?_
  refine wpAny_bind (PySem.W.check_bound_init F.excBase_ValueError.toExcCallFacts hC he rfl ?_)
  refine wpAny_bind (wpAny_pure (wpAny_pure ?_))
  refine ⟨plainId_quiet F.excBase_ValueError.init.plain _, codeAny_builtin F.excBase_ValueError.initEntry ?_⟩
  exact PySem.W.exc_init_tree (cls := .ref C) (t0 := t) (dv := none) (c2 := .none) (c3 := .none) (b4 := .bool false) he hz fun h' k e' _ => fin h' _ k e'

def icx (P : Program) (w : World) (K : PySem.W.Frag) (mg : Str → Option Value) (base : Heap) (N : List Str) (qual : Str) (scope : Scope) (f : Addr) (cd : Value) (cc : Addr) (A : Around) (outer : List PySem.Env) (s : Shared) (H : Hp) (E : XK) : Cx where
  prog := P
  w := w
  K := K
  mg := mg
  base := base
  A := A.deeper (PySem.W.ksEnv qual scope s.heap.objs.size f cd cc)
  N := N
  s_0 := s
  H_0 := H
  env := PySem.W.ksEnv qual scope s.heap.objs.size f cd cc
  outer := outer
  stack := PySem.W.ksEnv qual scope s.heap.objs.size f cd cc :: outer
  ex := []
  calm := true
  fn := fun _ => false
  pn := []
  xe := fun e s' => wpAny (model P w) (A.deeper (PySem.W.ksEnv qual scope s.heap.objs.size f cd cc)) (leaving (PySem.W.ksEnv qual scope s.heap.objs.size f cd cc) e) (fun _ s'' => L2.CX P w outer H s E e s'') (fun e' s'' => L2.CX P w outer H s E e' s'') s'

structure Sup (P : Program) (K : PySem.W.Frag) (mg : Str → Option Value) (N ps : List Str) (sc : Scope) (C cda cc : Addr) : Prop where
  kind : sc.kind = .function
  co : sc.isCoroutine = false
  gen : sc.isGenerator = false
  nd : N.Nodup
  pre : N.take ps.length = ps
  par : ∀ x ∈ ps, sc.names.lookup x = some .local
  nocell : ∀ y ∈ sc.names, y.2 ≠ .cell
  free : ∀ y, sc.names.lookup y = some .free → y = ("__class__" : Str)
  ksup : sc.names.lookup ("super" : Str) = some .globalImplicit
  kcls : sc.names.lookup ("__class__" : Str) = some .free
  code : ∃ ccl cdd vs ccs file tf, K.lookup cda = some ⟨ccl, cdd, .fields vs, ccs⟩ ∧ vs[2]? = some (.str file tf) ∧ ((P.main.file : Str) == file) = true
  cell : ∃ cl cld csl, K.lookup cc = some ⟨cl, cld, .cell (some (.ref C)), csl⟩
  T : OexC K C
  sup : PySem.W.ks_superIn K C C "__init__" = some (some (.builtin "ValueError.__init__"))
  isV : PySem.W.subIn K (.ref C) (.type "ValueError") = some true
  self : PySem.W.mroIn K C (.ref C) = some true
  opq : PySem.W.nsIn K cStatics "thirdparty.any" = some none
  msup : mg "super" = none
  top : (P.main.scope.names.lookup ("super" : Str)).isSome = false

theorem zip_rev_lookup : ∀ {ps : List Str} {us : List Value} {i : Nat} {x : Str} {u : Value}, ps.Nodup → ps[i]? = some x → us[i]? = some u → (ps.zip us).reverse.lookup x = some u := by
  intro ps us i x u nd h1 h2
  have key : ∀ {l : List (Str × Value)} {r : List (Str × Value)}, (∀ v, (x, v) ∉ l) → (l ++ r).lookup x = r.lookup x := by
    intro l r
    induction l with
    | nil => intro _; rfl
    | cons a l ih =>
      intro h
      obtain ⟨y, v⟩ := a
      have ne : (x == y) = false := by
        rw [beq_eq_false_iff_ne]
        rintro rfl
        exact h v List.mem_cons_self
      simp only [List.cons_append, List.lookup, ne]
      exact ih fun v hv => h v (List.mem_cons_of_mem _ hv)
  induction ps generalizing us i with
  | nil => simp at h1
  | cons p ps ih =>
    cases us with
    | nil => simp at h2
    | cons w us =>
      have nd' := List.nodup_cons.mp nd
      simp only [List.zip_cons_cons, List.reverse_cons]
      cases i with
      | zero =>
        simp at h1 h2
        subst h1 h2
        rw [key fun v hv => nd'.1 (List.of_mem_zip (List.mem_reverse.mp hv)).1]
        simp [List.lookup]
      | succ i =>
        have q := ih (us := us) (i := i) nd'.2 (by simpa using h1) (by simpa using h2)
        have e : ∀ {l r : List (Str × Value)}, l.lookup x = some u → (l ++ r).lookup x = some u := by
          intro l r
          induction l with
          | nil => intro h; cases h
          | cons a l ih2 =>
            intro h
            obtain ⟨y, v⟩ := a
            simp only [List.cons_append, List.lookup] at h ⊢
            split
            · rename_i hh; rw [hh] at h; exact h
            · rename_i hh; rw [hh] at h; exact ih2 h
        exact e q

section
variable {P : Program} {w : World} {K : PySem.W.Frag} {mg : Str → Option Value} {base : Heap} {N ps : List Str} {qual : Str} {scope : Scope} {f cda cc C : Addr} {A : Around} {outer : List PySem.Env} {s : Shared} {H : Hp} {E : XK} {us : List Value} {vs : List V}
theorem inv_init {h1 : Heap} {tk : Nat} (S : Sup P K mg N ps scope C cda cc) (hd : A.handled = none) (e0 : Env0 P w K mg base A outer s H) (hl : vs.length = ps.length) (r : Vals vs us)
    (hns : h1.Ns s.heap.objs.size (fun x => (ps.zip us).reverse.lookup x)) (hk : ∀ b o, s.heap.get? b = some o → h1.get? b = some o) :
    Inv (icx P w K mg base N qual scope f (.ref cda) cc A outer s H E) [] (L2.start N vs) H { s with heap := h1, toks := tk } := by
  have hpl : ps.length ≤ N.length := by have := congrArg List.length S.pre; rw [List.length_take] at this; omega
  have noA : ∀ b : Addr, b ∉ (icx P w K mg base N qual scope f (.ref cda) cc A outer s H E).ex := fun b z => absurd (show b ∈ ([] : List Addr) from z) (by simp)
  have one : ∀ {x : Str} {c : Addr}, ([("__class__", cc)] : List (Str × Addr)).lookup x = some c → x = "__class__" ∧ c = cc := fun {x c} h => by
    simp only [List.lookup] at h
    split at h
    · rename_i hh
      exact ⟨beq_iff_eq.mp hh, (Option.some.inj h).symm⟩
    · cases h
  obtain ⟨cl, cld, csl, hcell⟩ := S.cell
  have cin : base.get? cc = some ⟨cl, cld, .cell (some (.ref C)), csl⟩ := e0.mod.kin _ _ hcell
  refine ⟨⟨e0.mod, S.kind, rfl, rfl, Nat.le_refl _, fun y z c h1 h2 => (one h1).1.trans (one h2).1.symm, fun y hy => ?_, fun y c h => (nomatch h), fun _ => hd, Around.frames_deeper e0.frames, .inr ⟨rfl, rfl⟩, fun b z => absurd z (noA b), e0.bs, e0.bsz, fun b _ _ => noA b, fun b z => absurd z (noA b), e0.funs, e0.frf⟩,
    rfl, e0.bare, Un.kept hk, ⟨_, hns, fun i y v h1 h2 h3 => ?_⟩, fun y c h => ?_, e0.hok.fresh (Nat.le_refl _), fun y c h => ?_, fun p hp => absurd (show p ∈ ([] : List (Addr × Obj)) from hp) (by simp), e0.hok.kept hk, ?_⟩
  · have hy : scope.names.lookup y = some .cell ∨ scope.names.lookup y = some .free := hy
    rcases hy with hy | hy
    · exact absurd rfl (S.nocell _ (PySem.mem_of_lookup hy))
    · rw [S.free y hy]
      exact ⟨cc, by show ([("__class__", cc)] : List (Str × Addr)).lookup ("__class__" : Str) = some cc; simp [List.lookup]⟩
  · have hi : i < vs.length := by
      unfold L2.start at h2
      by_cases hi : i < vs.length
      · exact hi
      · rw [List.getElem?_append_right (by simpa using hi)] at h2
        rw [List.getElem?_replicate] at h2
        split at h2 <;> cases h2
    have ha : vs[i]? = some v := by
      unfold L2.start at h2
      rw [List.getElem?_append_left (by simpa using hi), List.getElem?_map] at h2
      cases e : vs[i]? with
      | none => rw [e] at h2; cases h2
      | some a => rw [e] at h2; cases h2; rfl
    obtain ⟨u, hu, rv⟩ := r.get ha
    have hp : ps[i]? = some y := by
      rw [← S.pre, List.getElem?_take_of_lt (by omega)]; exact h1
    have ndP : ps.Nodup := by rw [← S.pre]; exact S.nd.sublist (List.take_sublist _ _)
    exact ⟨u, rv, .inl ⟨S.par y (List.mem_of_getElem? hp), zip_rev_lookup ndP hp hu⟩⟩
  · rw [(one h).2]
    exact ⟨_, _, hk _ _ (e0.bs _ _ cin).1, rfl⟩
  · rw [(one h).2]
    exact (e0.bs _ _ cin).2
  · unfold L2.start
    show _ = N.length
    rw [List.length_append, List.length_map, List.length_replicate]
    omega
end

def IniAt (H0 : Hp) (a C : Addr) (fs : List (Str × V)) (H : Hp) : Prop :=
  (fs = [] ∧ H = upd H0 a (exo a C none)) ∨ ∃ d, H0 d = none ∧ d ≠ a ∧ H = upd (upd H0 d (exd d fs)) a (exo a C (some d))
def spIni (C : Addr) (fs : List Str) : Sp := fun vs H Q _ => vs.length = fs.length + 1 ∧ ∃ a ws H0, vs = .ref a :: ws ∧ H0 a = none ∧ H = upd H0 a (exo a C none) ∧
  ∀ d, H0 d = none → d ≠ a → Q .non (upd (upd H0 d (exd d (fs.zip ws).reverse)) a (exo a C (some d)))
inductive IniSts (X : Cx) (C : Addr) : Nat → List Stmt → List Str → Prop where
  | nil {i : Nat} : IniSts X C i [] []
  | cons {i : Nat} {f : Str} {fs : List Str} {eo ev : Expr} {p' pos : Pos} {r : List Stmt} (h1 : PE X eo (tVar 0)) (h2 : PE X ev (tVar i)) (h3 : PySem.W.findIn X.K (.ref C) f = some none)
      (hs : swapsWith ev (some (.Attribute eo f p')) pos.line X.env = pure false) (h : IniSts X C (i + 1) r fs) : IniSts X C i (.Assign [.Attribute eo f p'] ev pos :: r) (f :: fs)
def tIni (K : PySem.W.Frag) (C : Addr) (i : Nat) (fs : List Str) : TS := fun D σ H => ∃ a H0 done ws, σ[0]? = some (some (.ref a)) ∧ OexC K C ∧ H0 a = none ∧ IniAt H0 a C done H ∧ done.length + fs.length ≤ 900 ∧ ws.length = fs.length ∧
  (∀ j v, ws[j]? = some v → σ[i + j]? = some (some v)) ∧ ∀ H', IniAt H0 a C ((fs.zip ws).reverse ++ done) H' → D.nx σ H'
theorem ini_sts {X : Cx} {C : Addr} {i : Nat} {sts : List Stmt} {fs : List Str} (h : IniSts X C i sts fs) : PSs X sts (tIni X.K C i fs) := by
  induction h with
  | nil =>
    refine PSs.imp pss_nil fun D σ H ⟨a, H0, done, ws, _, _, _, h4, _, h6, _, h8⟩ => ?_
    exact h8 H (by simpa using h4)
  | @cons i f fs eo ev p' pos r h1 h2 h3 hs h ih =>
    refine PSs.imp (pss_cons (ps_ost h1 h2 hs) ih) fun D σ H ⟨a, H0, done, ws, q1, q2, q3, q4, q5, q6, q7, q8⟩ => ?_
    obtain ⟨v, ws', rfl⟩ : ∃ v ws', ws = v :: ws' := by
      cases ws with
      | nil => simp at q6
      | cons v ws' => exact ⟨v, ws', rfl⟩
    have qv := q7 0 v rfl
    refine ⟨v, by simpa using qv, .ref a, q1, a, C, rfl, q2, h3, ?_⟩
    have more : ∀ H', IniAt H0 a C ((f, v) :: done) H' → tIni X.K C (i + 1) fs D σ H' := fun H' k => by
      refine ⟨a, H0, _, ws', q1, q2, q3, k, by simp at q5 ⊢; omega, by simpa using q6, fun j u e => ?_, fun H2 k2 => q8 H2 ?_⟩
      · have := q7 (j + 1) u (by simpa using e)
        rw [← this]
        congr 1
        omega
      · simpa [List.append_assoc] using k2
    rcases q4 with ⟨rfl, rfl⟩ | ⟨d, n1, n2, rfl⟩
    · refine .inl ⟨upd_same, fun dx nd ne => more _ (.inr ⟨dx, ?_, ne, ?_⟩)⟩
      · rwa [upd_ne ne] at nd
      · funext b
        by_cases hb : b = a
        · rw [hb, upd_same, upd_same]
        · rw [upd_ne hb, upd_ne hb]
          by_cases hd : b = dx
          · rw [hd, upd_same, upd_same]
          · rw [upd_ne hd, upd_ne hd, upd_ne hb]
    · refine .inr ⟨d, done, upd_same, by rw [upd_ne n2, upd_same], by simp at q5; omega, more _ (.inr ⟨d, n1, n2, ?_⟩)⟩
      funext b
      by_cases hd : b = d
      · rw [hd, upd_same, upd_ne n2, upd_same]
      · rw [upd_ne hd]
        by_cases hb : b = a
        · rw [hb, upd_same, upd_same]
        · rw [upd_ne hb, upd_ne hb, upd_ne hd, upd_ne hd]

end NK

namespace PySem.W
open PySem PySem.Spec PySem.Calls PyProof.Rows
section
variable {prog : Program} {w : World} {A : Around} {E : Value → Shared → Prop} {s : Shared} {K : Frag} {x D : Addr} {ox od : Obj}
theorem nk_kin_classE {Q : Option Value → Shared → Prop} (hga : findIn K (.ref D) "__getattribute__" = some (some (.builtin "BaseException.__getattribute__"))) (hgt : findIn K (.ref D) "__getattr__" = some none) (hsub : subIn K (.ref D) (.type "BaseException") = some true)
    (hdct : hasDictIn K D = true) (ha : findIn K (.ref D) "__class__" = some (some (.builtin "object.__class__")))
    (hn : specialIn K (.builtin "object.__class__") "__get__" = some (some (.builtin "getset_descriptor.__get__"))) (htk : takesIn K (.builtin "object.__class__") = some true) (hm : mroIn K D (.type "object") = some true)
    (X : K.In s.heap) (I : InstAt s.heap x ox D (some od)) (h : Q (some (.ref D)) { s with toks := s.toks + 1 }) : wpAny (model prog w) A (getAttr? (.ref x) "__class__") Q E s := by
  have hf : findObj K D (some od) "__class__" = some (.bind (.builtin "getset_descriptor.__get__") (.builtin "object.__class__")) := findObj_data (by obtain ⟨cd, hc, _⟩ := any_some hdct; rw [hc]; rfl) ha hn htk
  obtain ⟨hp, g, d, t, os⟩ := s
  have L0 := I.type (M := model prog w)
  have L1 := looks_findIn (M := model prog w) X hga
  have L2 := looks_findIn (M := model prog w) X hgt
  have L3 := looks_find (M := model prog w) X I hf
  have sub : Looks (model prog w) hp (isInstance (.ref x) (.type "BaseException")) true := L0.andThen (looks_subIn X hsub)
  have hx0 : (false && onTheHeap (Value.builtin "BaseException.__getattribute__")) = false := rfl
  have hx2 : (Value.builtin "BaseException.__getattribute__" == Value.builtin "object.__getattribute__") = false := by decide +kernel
  have hx1 : (onTheHeap (Value.ref D) && Value.builtin "BaseException.__getattribute__" == Value.builtin "object.__getattribute__") = false := by rw [hx2]; rfl
  unfold getAttr? getAttrBy? getAttrBy
  refine wpAny_bind (wpAny_mkText (wpAny_bind (wpAny_attempt (wpAny_holding (wpAny_bind (L0.at (wpAny_bind (L1.at ?_))))))))
  show wpAny _ _ (if (onTheHeap (Value.ref D) && Value.builtin "BaseException.__getattribute__" == Value.builtin "object.__getattribute__") = true then _ else _) _ _ _
  rw [hx1, if_neg Bool.false_ne_true]
  unfold getAttrByItsOwn hookBefore
  refine wpAny_bind ?_
  rw [if_pos (show onTheHeap (Value.ref D) = true from rfl)]
  refine L2.at ?_
  refine wpAny_bind (wpAny_attempt (wpAny_holding ?_))
  unfold callGetattribute
  rw [hx0, if_neg Bool.false_ne_true]
  unfold boundAndCalled
  rw [PySem.F.excAttr_ValueError.ga.bind (.ref x)]
  refine wpAny_bind (wpAny_pure ?_)
  show wpAny _ _ (call (.builtin "BaseException.__getattribute__") [.ref x, .str "__class__" t]) _ _ _
  refine wpAny_call (codeAny_call_builtin PySem.F.excAttr_ValueError.ga.plain PySem.F.entry_bexc_ga ?_)
  refine @check_slot (model prog w) _ _ ⟨hp, g, d, t + 1, os⟩ "BaseException.__getattribute__" "BaseException" "__getattribute__" (.ref x) [.str "__class__" t] [] _ (by decide +kernel) (by decide +kernel) sub (PySem.F.args_bexc_ga (.ref x) (.str "__class__" t)) ?_
  unfold Builtin.«object.__getattribute__»
  refine wpAny_bind (wpAny_of_eq (a := ((Value.ref x : Value), [Value.str "__class__" t])) (by first | rfl | (simp only [slotArgs]; rfl)) ?_)
  refine wpAny_bind (wpAny_pure (wpAny_bind (L0.at (wpAny_bind (L3.at ?_)))))
  show wpAny _ _ (holding [Value.builtin "object.__class__"] (call (.builtin "getset_descriptor.__get__") [.builtin "object.__class__", .ref x, .ref D]) >>= ret) _ _ _
  refine wpAny_bind (wpAny_holding (wpAny_call (class_get (s := ⟨hp, g, d, t + 1, os⟩) (ox := ox) (od := some od) X I hm ?_)))
  refine wpAny_pure ?_
  show wpAny _ _ (handedOut (.ref D)) _ _ _
  rw [handedOut_of (v := .ref D) rfl]
  first
    | exact wpAny_pure (wpAny_pure h)
    | exact wpAny_pure h
    | exact wpAny_pure (wpAny_bind (wpAny_pure (wpAny_pure h)))
theorem nk_kitx_exc (hga : findIn K (.ref D) "__getattribute__" = some (some (.builtin "BaseException.__getattribute__"))) (hgt : findIn K (.ref D) "__getattr__" = some none) (hsub : subIn K (.ref D) (.type "BaseException") = some true) (hdct : hasDictIn K D = true) (ha : findIn K (.ref D) "__class__" = some (some (.builtin "object.__class__")))
    (hn : specialIn K (.builtin "object.__class__") "__get__" = some (some (.builtin "getset_descriptor.__get__"))) (htk : takesIn K (.builtin "object.__class__") = some true) (hm : mroIn K D (.type "object") = some true) :
    KitX K (.ref x) (.ref D) (fun h => InstAt h x ox D (some od)) where
  ty := fun _ _ _ I => I.type
  it := fun _ _ X _ => by
    obtain ⟨cdD, hcD, _⟩ := any_some hdct
    unfold clsIn at hcD
    split at hcD
    · rename_i c' d' cd' sl' ho
      intro A' Q' E' s' k q
      unfold isType loadHead
      exact wpAny_bind (wpAny_loadPart (k _ _ (X _ _ ho)) (wpAny_pure q))
    · cases hcD
  ne := fun h tp dd its n sl X htp => by
    obtain ⟨cdD, hcD, _⟩ := any_some hdct
    refine Bool.eq_false_iff.mpr fun q => ?_
    have e : D = tp := Value.ref.inj (beq_iff_eq.mp q)
    subst e
    unfold clsIn at hcD
    split at hcD
    · rename_i c' d' cd' sl' ho
      have z := (X _ _ ho).symm.trans htp
      cases z
    · cases hcD
  ca := fun X I k => nk_kin_classE hga hgt hsub hdct ha hn htk hm X I k
end
end PySem.W
namespace NK
open PySem L2

section
variable {X : Cx} {T : Tb} {P : Pin} {Wx : WX} {e : Expr} {es : List Expr} {ma : MA} {pos pos' p : Pos}
theorem zrl : ∀ {ps : List Str} {us : List V} {i : Nat} {x : Str} {u : V}, ps.Nodup → ps[i]? = some x → us[i]? = some u → (ps.zip us).reverse.lookup x = some u := by
  intro ps us i x u nd h1 h2
  have key : ∀ {l : List (Str × V)} {r : List (Str × V)}, (∀ v, (x, v) ∉ l) → (l ++ r).lookup x = r.lookup x := by
    intro l r
    induction l with
    | nil => intro _; rfl
    | cons a l ih =>
      intro h
      obtain ⟨y, v⟩ := a
      have ne : (x == y) = false := by
        rw [beq_eq_false_iff_ne]
        rintro rfl
        exact h v List.mem_cons_self
      simp only [List.cons_append, List.lookup, ne]
      exact ih fun v hv => h v (List.mem_cons_of_mem _ hv)
  induction ps generalizing us i with
  | nil => simp at h1
  | cons p ps ih =>
    cases us with
    | nil => simp at h2
    | cons w us =>
      have nd' := List.nodup_cons.mp nd
      simp only [List.zip_cons_cons, List.reverse_cons]
      cases i with
      | zero =>
        simp at h1 h2
        subst h1 h2
        rw [key fun v hv => nd'.1 (List.of_mem_zip (List.mem_reverse.mp hv)).1]
        simp [List.lookup]
      | succ i =>
        have q := ih (us := us) (i := i) nd'.2 (by simpa using h1) (by simpa using h2)
        have e : ∀ {l r : List (Str × V)}, l.lookup x = some u → (l ++ r).lookup x = some u := by
          intro l r
          induction l with
          | nil => intro h; cases h
          | cons a l ih2 =>
            intro h
            obtain ⟨y, v⟩ := a
            simp only [List.cons_append, List.lookup] at h ⊢
            split
            · rename_i hh; rw [hh] at h; exact h
            · rename_i hh; rw [hh] at h; exact ih2 h
        exact e q
end
end NK

set_option maxHeartbeats 4000000
namespace NK
section
open PySem PySem.Spec PyProof.Rows L2 PpSet
section
variable {X : Cx}
end
end
end NK

set_option maxHeartbeats 2000000
namespace NK
open PySem L2

def valU {κ : Type} [DecidableEq κ] (kvs : List (κ × U)) (k : κ) : Option U := (kvs.find? fun kv => decide (kv.1 = k)).map (·.2)
def putU {κ : Type} [DecidableEq κ] (kvs : List (κ × U)) (k : κ) (v : U) : List (κ × U) :=
  if (kvs.any fun kv => decide (kv.1 = k)) = true then kvs.map (fun kv => if kv.1 = k then (kv.1, v) else kv) else kvs ++ [(k, v)]
def keyU (u : U) : Option Key := match u with
  | .int i => some (.inl i)
  | .str x => some (.inr x)
  | _ => none
section
variable {κ : Type} [DecidableEq κ] {T : Tb} {c : Cn}
theorem RpK.length : ∀ {us : List (κ × U)} {vs : List (κ × V)}, RpK T c us vs → us.length = vs.length
  | _, _, .nil => rfl
  | _, _, .cons _ t => by simp [RpK.length t]
theorem RpK.any : ∀ {us : List (κ × U)} {vs : List (κ × V)} (k : κ), RpK T c us vs → (us.any fun kv => decide (kv.1 = k)) = (vs.any fun kv => decide (kv.1 = k))
  | _, _, _, .nil => rfl
  | _, _, k, .cons _ t => by simp only [List.any_cons, RpK.any k t]
theorem RpK.val : ∀ {us : List (κ × U)} {vs : List (κ × V)} {k : κ}, RpK T c us vs → (∀ u, valU us k = some u → ∃ v, valV vs k = some v ∧ Rp T c u v) ∧ (valU us k = none → valV vs k = none)
  | _, _, _, .nil => ⟨fun u h => by simp [valU] at h, fun _ => rfl⟩
  | _, _, k, .cons (k := k') (u := u0) (v := v0) (us := us) (vs := vs) r t => by
    obtain ⟨h1, h2⟩ := RpK.val (k := k) t
    by_cases e : k' = k
    · subst e
      refine ⟨fun u h => ?_, fun h => ?_⟩
      · simp [valU] at h
        subst h
        exact ⟨v0, by simp [valV], r⟩
      · simp [valU] at h
    · have a : valU ((k', u0) :: us) k = valU us k := by simp [valU, List.find?, e]
      have b : valV ((k', v0) :: vs) k = valV vs k := by simp [valV, List.find?, e]
      rw [a, b]
      exact ⟨h1, h2⟩
theorem RpK.snoc {k : κ} {u : U} {v : V} (q : Rp T c u v) : ∀ {us : List (κ × U)} {vs : List (κ × V)}, RpK T c us vs → RpK T c (us ++ [(k, u)]) (vs ++ [(k, v)])
  | _, _, .nil => .cons q .nil
  | _, _, .cons r t => .cons r (RpK.snoc q t)
end
def dictAt (u : U) (st : Sto) : Option (Nat × List (Key × U)) := match u with
  | .loc i => match st[i]? with
    | some (.dK kvs) => some (i, kvs)
    | _ => none
  | _ => none
def dput (o i w : U) (st : Sto) : Option Sto := match dictAt o st, keyU i with
  | some (n, kvs), some k => if kvs.length < 16777216 then some (st.set n (.dK (putU kvs k w))) else none
  | _, _ => none
def sDPut (mo mi m : ME) : MS := fun env st => (m env st).st env fun w st1 => (mo env st1).st env fun o st2 => (mi env st2).st env fun i st3 => match dput o i w st3 with
  | some st4 => .next env st4
  | none => .bad
section
variable {X : Cx} {T : Tb} {P : Pin} {Wx : WX} {o i e value : Expr} {es : List Expr} {mo mi m ma mb : ME} {mas : MA} {pos pos' apos p p2 : Pos}
open PySem PyProof.Rows in
def isK (k : Nat) (u : U) (st : Sto) : Bool := match asIns u st with
  | some (k', _) => k' == k
  | none => false
def eMeth (k n : Nat) (mf : MF) (dus : List U) (mo : ME) (ma : MA) : ME := fun env st => (mo env st).bind fun o st1 => if isK k o st1 = true then (ma env st1).bind fun us st2 => if (o :: (us ++ dus)).length = n then mf (o :: (us ++ dus)) st2 else .bad else .bad
section
variable {kk k n : Nat} {f C : Addr} {fd : FuncData} {ps : List Str} {mf : MF} {dus : List U} {dvs : List V} {ds : List Value} {x mn : Str} {sp : Sp}
end
end
end NK

namespace PySem
open AutoSeq1 (wpAny_loadPart')
theorem nk_enumerate_newT (l : Addr) (items : Array Value) (n : Nat) (dct : Option Addr) (sl : Array (Option Value)) :
    Meets (Builtin.«enumerate.__new__» ⟨[.type "enumerate", .ref l], []⟩) (fun _ R s => s.heap.get? l = some { cls := .type "tuple", dict := dct, data := .seq items n, slots := sl } ∧
      R (.ok (.ret (.ref (s.heap.push { cls := .type "tuple_iterator", data := .fields #[.ref l, .int 0 0] }).objs.size)))
        { s with heap := (s.heap.push { cls := .type "tuple_iterator", data := .fields #[.ref l, .int 0 0] }).push { cls := .type "enumerate", data := .fields #[.none, .bool false, .ref s.heap.objs.size, rawInt 0, .none, .none] } }) :=
  .of_wp fun prog w A R s h => by
    obtain ⟨hp, g, d, tk, os⟩ := s; obtain ⟨hl, h⟩ := h
    have hsub := sub_enumerate
    have hL : Heap.IsTuple (Shared.heap ⟨hp, g, d, tk, os⟩) l items := ⟨_, hl, rfl, n, rfl⟩
    wp_walk using wpAny_loadPart' hl
    refine wpAny_stack_any fun st => wpAny_pure ?_
    split
    · rename_i c _ _ _ _ _
      cases (c == Value.type "enumerate")
      · wp_walk using wpAny_loadPart' hl, wpAny_pyIter_tuple hL
        exact ⟨_, rfl, h⟩
      · wp_walk using wpAny_loadPart' hl, wpAny_pyIter_tuple hL
        exact ⟨_, rfl, h⟩
    · wp_walk using wpAny_loadPart' hl, wpAny_pyIter_tuple hL
      exact ⟨_, rfl, h⟩
section
variable {prog : Program} {w : World} {A : Around} {E : Value → Shared → Prop} {s : Shared}
theorem nk_call_enumerate_tuple {l : Addr} {items : Array Value} {Q : Value → Shared → Prop} (hL : s.heap.IsTuple l items)
    (h : ∀ h', IsEnum h' (s.heap.objs.size + 1) s.heap.objs.size 0 .none → h'.IsTupleIter s.heap.objs.size l 0 → h'.objs.size = s.heap.objs.size + 2 →
      (∀ b o, s.heap.get? b = some o → h'.get? b = some o) → Q (.ref (s.heap.objs.size + 1)) { s with heap := h' }) :
    wpAny (model prog w) A (call (.type "enumerate") [.ref l]) Q E s := by
  obtain ⟨⟨c, dct, dt, sl⟩, hl, hc, n, hd⟩ := hL
  replace hc : c = .type "tuple" := hc
  replace hd : dt = .seq items n := hd
  subst hc hd
  refine callType_new F.called_enumerate (by decide) (F.typeCall_enumerate_1 _) (F.newCall_enumerate_1 _) (fun obj => F.args_object_init_2 obj _) F.entry_enumerate_new
    (nk_enumerate_newT l items n dct sl) ⟨hl, ?_⟩
  have hz : (s.heap.push { cls := .type "tuple_iterator", data := .fields #[.ref l, .int 0 0] }).objs.size = s.heap.objs.size + 1 := Heap.size_push ..
  show _ ∧ _
  rw [hz]
  have he : IsEnum ((s.heap.push { cls := .type "tuple_iterator", data := .fields #[.ref l, .int 0 0] }).push
      { cls := .type "enumerate", data := .fields #[.none, .bool false, .ref s.heap.objs.size, rawInt 0, .none, .none] }) (s.heap.objs.size + 1) s.heap.objs.size 0 .none := by
    have := Heap.get?_push_size (s.heap.push { cls := .type "tuple_iterator", data := .fields #[.ref l, .int 0 0] })
      (o := { cls := .type "enumerate", data := .fields #[.none, .bool false, .ref s.heap.objs.size, rawInt 0, .none, .none] }) rfl
    rw [hz] at this; exact this
  refine ⟨⟨_, he, rfl⟩, h _ he ⟨_, Heap.get?_push_of_some _ (Heap.get?_push_size _ rfl), rfl, rfl⟩ (by rw [Heap.size_push, hz]) fun b o x => Heap.get?_push_of_some _ (Heap.get?_push_of_some _ x)⟩
end
end PySem
namespace NK
section
open PySem PySem.Spec PyProof.Rows L2
def IteT (K : PySem.W.Frag) (a : Addr) : It :=
  ⟨fun i H => ∃ (xs : List V) (x : V), SqT K H a xs ∧ xs[i]? = some x, fun i H v H' => ∃ T x, v = .ref T ∧ H T = none ∧ H' = L2.upd H T (.tup [.int (i : Nat), x]) ∧ ∀ xs, SqT K H a xs → xs[i]? = some x, fun i H => ∃ xs : List V, SqT K H a xs ∧ xs.length ≤ i⟩
theorem tup_inj {X : Cx} {pins : List (Addr × Obj)} {σ : L2.St} {H : Hp} {s : Shared} {a : Addr} {xs ys : List V} (I : Inv X pins σ H s) (h : SqT X.K H a xs) (g : SqT X.K H a ys) : xs = ys := by
  obtain ⟨its, r, t, _⟩ := I.tuple h
  obtain ⟨its', r', t', _⟩ := I.tuple g
  obtain ⟨o, h1, _, n, h2⟩ := t
  obtain ⟨o', h1', _, n', h2'⟩ := t'
  rw [h1] at h1'
  cases h1'
  rw [h2] at h2'
  have e : its = its' := by
    have := congrArg Array.toList (Data.seq.inj h2').1
    simpa using this
  subst e
  exact Vals.inj r r'
theorem turn_enumT {P : Program} {w : World} {K : PySem.W.Frag} {elts : List Expr} {kk : Nat} {tpos : Pos} (a e it : Addr) (hai : a ≠ it) (hae : a ≠ e) :
    Turn P w K (.Tuple elts kk tpos) (IteT K a) [e, it] e (fun i h => (∃ old, IsEnum h e it ((i : Nat) : Int) old) ∧ h.IsTupleIter it a i ∧ e ≠ it) where
  mem := by simp
  obj := fun i h st b hb => by
    obtain ⟨⟨old, he⟩, ⟨o, ho, hc, hd⟩, _⟩ := st
    have e' : b = e ∨ b = it := by simpa using hb
    rcases e' with z | z
    · rw [z]; exact ⟨_, he, fun v q => nomatch q⟩
    · rw [z]; exact ⟨o, ho, fun v q => by rw [hd] at q; cases q⟩
  keep := fun i h h' st k => let ⟨⟨old, he⟩, hi, hne⟩ := st; ⟨⟨old, k e (by simp) _ he⟩, hi.at fun o q => k it (by simp) o q, hne⟩
  item := by
    intro X hP hw hK hc i pins s σ H E I hf st hg
    subst hP hw hK
    obtain ⟨⟨old, he⟩, hit, hne⟩ := st
    obtain ⟨xs, x, hq, hx⟩ := hg
    obtain ⟨its, rv, p, hz⟩ := I.tuple hq
    obtain ⟨u, hu, ru⟩ := rv.get hx
    have hel : e < s.heap.objs.size := Heap.lt_size he
    have hil : it < s.heap.objs.size := by obtain ⟨_, q, _⟩ := hit; exact Heap.lt_size q
    have hlen : i < its.toArray.size := by
      have := (List.getElem?_eq_some_iff.mp hu).1
      simpa using this
    refine wpAny_pyNext_enum_itemD (Draws.tuple (A := X.A.in1) (I.ok.hd hc) it a hai its.toArray) he ⟨hit, p⟩ hlen hne (by simp [hne, Ne.symm hae]) fun x' h' tk hPx ho hs' hT hsz hk => ?_
    have ex : x' = u := by
      have hPx' : its.toArray[i]? = some x' := hPx
      have : its[i]? = some x' := by simpa using hPx'
      rw [hu] at this
      exact (Option.some.inj this).symm
    subst ex
    obtain ⟨hit', _⟩ := hs'
    refine ⟨_, rfl, wpAny_letOwnedTupleGo_enum (s := { s with heap := h', toks := tk + 1 }) ho fun h'' he' sb => ?_⟩
    have hT2 : h''.get? s.heap.objs.size = some { cls := .type "tuple", data := .seq #[.int i tk, x'] } := (sb.2 _ (Nat.ne_of_gt hel)).trans hT
    have new : ObjOk X.prog X.w (L2.upd H s.heap.objs.size (.tup [.int (i : Nat), x])) h'' s.heap.objs.size (.tup [.int (i : Nat), x]) :=
      ⟨by show 2 ≤ sizeLine; decide, [.int i tk, x'], .cons ⟨_, rfl⟩ (.cons ru .nil), ⟨_, hT2, rfl, _, rfl⟩⟩
    have I1 : Inv X pins σ (L2.upd H s.heap.objs.size (.tup [.int (i : Nat), x])) { s with heap := h'', toks := tk + 1 } :=
      I.turnedNew (ch := [e, it]) (fun b ob hb q => (sb.2 b (fun z => hb (by simp [z]))).trans (hk b ob (fun z => hb (by simp [z])) (fun z => hb (by simp [z])) q)) hf (Nat.le_refl _) new
    refine ⟨.ref s.heap.objs.size, _, I1, rfl, ⟨_, x, rfl, I.hok.fresh (Nat.le_refl _), rfl, fun ys hy => by rw [tup_inj I hy hq]; exact hx⟩, ⟨⟨x', ?_⟩, hit'.at fun o q => (sb.2 it (Ne.symm hne)).trans q, hne⟩, fun b hb => ?_⟩
    · have e1 : ((i + 1 : Nat) : Int) = (i : Int) + 1 := by omega
      rw [e1]; exact he'
    · have hb' : b < s.heap.objs.size := by
        have e' : b = e ∨ b = it := by simpa using hb
        rcases e' with z | z
        · rw [z]; exact hel
        · rw [z]; exact hil
      rw [upd_ne (Nat.ne_of_lt hb')]
      exact (hf b hb).1
  done := by
    intro X hP hw hK hc i pins s σ H E I hf st hg
    subst hP hw hK
    obtain ⟨⟨old, he⟩, hit, hne⟩ := st
    obtain ⟨xs, hq, hx⟩ := hg
    obtain ⟨its, rv, p, hz⟩ := I.tuple hq
    obtain ⟨f0, f1, f2, f3, f4, f5⟩ := hf it (by simp)
    have hl := rv.length
    have hTe : s.TypeIs (.ref e) "enumerate" := ⟨_, he, rfl⟩
    unfold pyNext
    refine wpAny_bind (wpAny_attempt (wpAny_callSpecial?_slot (name := Str.ofString "__next__") hTe PySem.F.slot_enumerate_next
      (wpAny_call_entry PySem.F.slot_enumerate_next hTe PySem.F.entry_enumerate_next ?_ (PySem.F.args_enumerate_next_1 _))))
    show wpAny _ _ (field (.ref e) 2 >>= _) _ _ _
    refine wpAny_bind (wpAny_field he rfl (x := .ref it) rfl ?_)
    refine wpAny_bind (wpAny_nextOf_tuple_end (A := X.A.in1) (I.ok.hd hc) hit p (by simp; omega) fun h' x he' hx' => ?_)
    obtain ⟨o, ho, hcx⟩ := hx'
    refine wpAny_bind (wpAny_isInstance (T := "StopIteration") (b := true) ⟨o, ho, hcx⟩ isSubtype_stop ?_)
    exact wpAny_pure ⟨rfl, I.turned (t' := s.toks) (fun b o hb q => he' b o hb q) f0 f1 f3 f4 f5⟩
  self := fun A i s Q E st h => let ⟨⟨_, he⟩, _⟩ := st; wpAny_pyIter_enum he h
def iEnumA2 (K : PySem.W.Frag) (ta : TA) : TI := fun σ H R => ta σ H fun vs H1 => ∃ a xs, vs = [.ref a] ∧ ((SqL K H1 a xs ∧ R (Ite K a) H1) ∨ (SqT K H1 a xs ∧ R (IteT K a) H1))
theorem pi_enumA {X : Cx} {e : Expr} {ta : TA} {p pos tpos : Pos} {elts : List Expr} {kk : Nat} (hg : Gl X "enumerate") (hm : X.mg "enumerate" = none) (ha : PA X [e] ta) (hs : starEach [e] X.env = [(false, eval e X.env)] := by rfl) :
    PI X (.Tuple elts kk tpos) (.Call (.Name "enumerate" p) [e] [] pos) (iEnumA2 X.K ta) := by
  refine ⟨fun pins s σ H R I h => ?_⟩
  refine Call_ (ld_blt I hg hm boot_enumerate (PyProof.Rows.callWith_type1 (thn (ha.run pos pins s σ H _ I h) fun us s1 ⟨vs, H1, I1, r1, q1⟩ => ?_) hs rfl))
  obtain ⟨a, xs, ex, hq⟩ := q1
  subst ex
  have fresh2 : ∀ b ∈ [s1.heap.objs.size + 1, s1.heap.objs.size], FpOk X pins H1 b := fun b hb => by
    have e' : b = s1.heap.objs.size + 1 ∨ b = s1.heap.objs.size := by simpa using hb
    have hle : s1.heap.objs.size ≤ b := by
      rcases e' with z | z
      · rw [z]; exact Nat.le_add_right _ _
      · rw [z]; exact Nat.le_refl _
    exact I1.fpOk hle (I1.hok.fresh hle)
  cases r1 with
  | cons r rr =>
    cases rr
    cases r
    rcases hq with ⟨hq, q⟩ | ⟨hq, q⟩
    · obtain ⟨its, rv, p', hz⟩ := I1.list hq
      refine call_enumerate_list p'.isList fun h' he hit hsz hk => wpAny_pyIter_enum he ?_
      have I2 : Inv X pins σ H1 { s1 with heap := h' } := I1.kept (t' := s1.toks) hk
      exact ⟨s1.heap.objs.size + 1, [s1.heap.objs.size + 1, s1.heap.objs.size], _, _, H1, rfl, I2, turn_enum a (s1.heap.objs.size + 1) s1.heap.objs.size, ⟨⟨.none, he⟩, hit, Nat.succ_ne_self _⟩, fresh2, q⟩
    · obtain ⟨its, rv, p', hz⟩ := I1.tuple hq
      have hal : a < s1.heap.objs.size := by obtain ⟨o, ho, _⟩ := p'; exact Heap.lt_size ho
      refine nk_call_enumerate_tuple p' fun h' he hit hsz hk => wpAny_pyIter_enum he ?_
      have I2 : Inv X pins σ H1 { s1 with heap := h' } := I1.kept (t' := s1.toks) hk
      exact ⟨s1.heap.objs.size + 1, [s1.heap.objs.size + 1, s1.heap.objs.size], _, _, H1, rfl, I2, turn_enumT a (s1.heap.objs.size + 1) s1.heap.objs.size (Nat.ne_of_lt hal) (Nat.ne_of_lt (Nat.lt_succ_of_lt hal)), ⟨⟨.none, he⟩, hit, Nat.succ_ne_self _⟩, fresh2, q⟩
end
section
open PySem L2
def iEnumA (ma : MA) : MI := fun env st => (ma env st).bind fun us st1 => match us with
  | [.tup us] => .ok ⟨enumFrom 0 us, fun _ => True⟩ st1
  | [.lst us] => .ok ⟨enumFrom 0 us, fun _ => True⟩ st1
  | [.scr us] => .ok ⟨enumFrom 0 us, fun _ => True⟩ st1
  | [.loc i] => match st1[i]? with
    | some (.lst us) => .ok ⟨enumFrom 0 us, fun s => s[i]? = some (Ob.lst us)⟩ st1
    | _ => .bad
  | _ => .bad
theorem walk_of_enumT {T : Tb} {c0 : Cn} {a : Addr} {us : List U} {g : Sto → Prop} (h : ∀ c st H, Le c0 c → RH T c st H → g st → ∃ vs, SqT T.K H a vs ∧ RpL T c us vs) : WalkM T c0 (IteT T.K a) (enumFrom 0 us) g := by
  refine ⟨fun H => ∃ vs, SqT T.K H a vs ∧ vs.length = us.length, fun i H v H' => ∃ t x, v = .ref t ∧ H t = none ∧ H' = L2.upd H t (.tup [.int (i : Nat), x]) ∧ ∀ xs, SqT T.K H a xs → xs[i]? = some x, ⟨fun i H hi ⟨vs, h1, h2⟩ => ?_, fun H ⟨vs, h1, h2⟩ => ⟨vs, h1, ?_⟩, fun i H x H' hi _ y => y⟩, fun c st H l hH hg => ?_⟩
  · have hi' : i < vs.length := by rw [h2, ← enum_len 0 us]; exact hi
    exact ⟨vs, vs[i], h1, by simp [hi']⟩
  · rw [enum_len, h2]; exact Nat.le_refl _
  · obtain ⟨vs, h1, r⟩ := h c st H l hH hg
    refine ⟨⟨vs, h1, r.length.symm⟩, fun i x H' hi y => ?_⟩
    obtain ⟨t, z, rfl, ht, rfl, hx⟩ := y
    obtain ⟨u, hu, ru⟩ := r.getV (hx vs h1)
    obtain ⟨n1, n2, n3⟩ := new_pair hH (.int (i : Int)) ru ht
    refine ⟨_, _, enum_get 0 us i u hu, n1, n2, ?_⟩
    rw [Nat.zero_add]
    exact n3
theorem pim_enumA {X : Cx} {T : Tb} {P : Pin} {Wx : WX} {e : Expr} {ma : MA} {p pos tpos : Pos} {elts : List Expr} {kk : Nat} (hK : X.K = T.K) (hg : Gl X "enumerate") (hm : X.mg "enumerate" = none) (ha : PAm X T P Wx [e] ma) (hs : starEach [e] X.env = [(false, eval e X.env)] := by rfl) :
    PIm X T P Wx (.Tuple elts kk tpos) (.Call (.Name "enumerate" p) [e] [] pos) (iEnumA ma) := by
  refine PI.imp (pi_enumA hg hm ha hs) fun σ H R ⟨c, env, st, hH, hE, hR⟩ => ?_
  refine (tg_bind hH hE hR).mono fun vs H1 ⟨us, c1, st1, l1, hH1, hE1, r1, hR1⟩ => ?_
  split at hR1
  · rename_i us'
    obtain ⟨v, vs', rfl, r, t⟩ := r1.inv_cons
    cases t.inv_nil
    obtain ⟨a, ws, rfl, h1, r2⟩ := r.inv_tup
    refine ⟨a, ws, rfl, .inr ⟨by rw [hK]; exact sqT_up hH1 h1, ?_⟩⟩
    rw [hK]
    exact ResG.ret hR1 hH1 (walk_of_enumT fun c2 st2 H2 l2 hH2 _ => ⟨ws, sqT_up hH2 (sqT_mono l2.F h1), r2.mono l2⟩)
  · rename_i us'
    obtain ⟨v, vs', rfl, r, t⟩ := r1.inv_cons
    cases t.inv_nil
    obtain ⟨a, ws, rfl, h1, r2⟩ := r.inv_lst
    refine ⟨a, ws, rfl, .inl ⟨by rw [hK]; exact SqL.of (hH1.sub _ _ h1), ?_⟩⟩
    rw [hK]
    exact ResG.ret hR1 hH1 (walk_of_enum fun c2 st2 H2 l2 hH2 _ => ⟨ws, SqL.of (hH2.sub _ _ (l2.F _ _ h1)), r2.mono l2⟩)
  · rename_i us'
    obtain ⟨v, vs', rfl, r, t⟩ := r1.inv_cons
    cases t.inv_nil
    obtain ⟨a, ws, rfl, h1, r2⟩ := r.inv_scr
    refine ⟨a, ws, rfl, .inl ⟨by rw [hK]; exact sqL_up hH1 h1, ?_⟩⟩
    rw [hK]
    exact ResG.ret hR1 hH1 (walk_of_enum fun c2 st2 H2 l2 hH2 _ => ⟨ws, sqL_up hH2 (sqL_mono l2.F h1), r2.mono l2⟩)
  · rename_i i
    obtain ⟨v, vs', rfl, r, t⟩ := r1.inv_cons
    cases t.inv_nil
    obtain ⟨hi, rfl⟩ := r.inv_loc
    split at hR1
    · rename_i us' es
      obtain ⟨ws, h1, r2⟩ := hH1.at_lst es
      refine ⟨_, ws, rfl, .inl ⟨by rw [hK]; exact SqL.of h1, ?_⟩⟩
      rw [hK]
      refine ResG.ret hR1 hH1 (walk_of_enum fun c2 st2 H2 l2 hH2 hg' => ?_)
      obtain ⟨ws', h2, r3⟩ := hH2.at_lst hg'
      rw [l2.ρ i hi] at h2
      exact ⟨ws', SqL.of h2, r3⟩
    · exact hR1.elim
  · exact hR1.elim
end
end NK

namespace NK
open PySem L2

section
variable {X : Cx} {T : Tb} {P : Pin} {Wx : WX}
end

inductive Tr where
  | b (t : Ty)
  | o (k : Nat)
  deriving DecidableEq
def Tr.v (T : Tb) : Tr → Value
  | .b t => .type t.name
  | .o k => .ref (T.cls k)
def Tr.x (T : Tb) : Tr → V
  | .b t => .ty t.name
  | .o k => .ref (T.cls k)
def trOf (u : U) (st : Sto) : Option Tr := match u with
  | .non => some (.b .none)
  | .bl _ => some (.b .bool)
  | .int _ => some (.b .int)
  | .str _ => some (.b .str)
  | .tup _ => some (.b .tuple)
  | .lst _ => some (.b .list)
  | .scr _ => some (.b .list)
  | .ins k _ => some (.o k)
  | .loc i => match st[i]? with
    | some (.lst _) => some (.b .list)
    | some (.dK _) => some (.b .dict)
    | some (.ins k _) => some (.o k)
    | _ => none
  | _ => none
def isiB : Ty → Ty → Option Bool
  | _, .none => none
  | .bool, .int => some true
  | a, b => some (a == b)
abbrev IsL := List ((Tr × Tr) × Bool)
def isOne (l : IsL) (t c : Tr) : Option Bool := match t, c with
  | .b x, .b y => isiB x y
  | t, c => l.lookup (t, c)
def isAny (l : IsL) (t : Tr) : List Tr → Option Bool
  | [] => some false
  | c :: r => match isOne l t c with
    | some true => some true
    | some false => isAny l t r
    | none => none
structure InsC (T : Tb) (k : Nat) : Prop where
  cl : Cls T.K (T.cls k)
  ha : PySem.W.findIn T.K (.ref (T.cls k)) "__class__" = some (some (.builtin "object.__class__"))
  hn : PySem.W.specialIn T.K (.builtin "object.__class__") "__get__" = some (some (.builtin "getset_descriptor.__get__"))
  ht : PySem.W.takesIn T.K (.builtin "object.__class__") = some true
  hm : PySem.W.mroIn T.K (T.cls k) (.type "object") = some true
def TrOk (T : Tb) : Tr → Prop
  | .b _ => True
  | .o k => InsC T k
def IsOk (T : Tb) (l : IsL) : Prop := ∀ p ∈ l, TrOk T p.1.1 ∧ PySem.W.kitOne T.K (p.1.1.v T) (p.1.2.v T) = some p.2
theorem mem_lookup {l : IsL} {k : Tr × Tr} {b : Bool} : l.lookup k = some b → (k, b) ∈ l := by
  induction l with
  | nil => intro h; cases h
  | cons a l ih =>
    intro h
    obtain ⟨y, v⟩ := a
    simp only [List.lookup] at h
    split at h
    · rename_i hh
      cases h
      rw [beq_iff_eq] at hh
      subst hh
      exact List.mem_cons_self
    · exact List.mem_cons_of_mem _ (ih h)
section
variable {X : Cx} {T : Tb} {P : Pin} {Wx : WX} {e ce : Expr} {es : List Expr} {me : ME} {p pos p2 : Pos}
def eIsi (l : IsL) (cs : List Tr) (me : ME) : ME := fun env st => (me env st).bind fun u st1 => match trOf u st1 with
  | some t => match isAny l t cs with
    | some b => .ok (.bl b) st1
    | none => .bad
  | none => .bad
def cutU (us : List U) (lo hi : Option Int) : List U := (us.drop (HT.sIx us.length 0 lo)).take (HT.sIx us.length us.length hi - HT.sIx us.length 0 lo)
def eSl (m : ME) (lo hi : Option ME) : ME := fun env st => (m env st).bind fun x st1 =>
  ((match lo with | none => Out.ok none st1 | some f => (f env st1).bind fun i s => match i with | .int k => .ok (some k) s | _ => .bad) : Out (Option Int)).bind fun l st2 =>
  ((match hi with | none => Out.ok none st2 | some f => (f env st2).bind fun i s => match i with | .int k => .ok (some k) s | _ => .bad) : Out (Option Int)).bind fun h st3 =>
  match lsts x st3 with
  | some us => .ok (.loc st3.length) (st3 ++ [.lst (cutU us l h)])
  | none => .bad
where lsts (u : U) (st : Sto) : Option (List U) := match u with
  | .lst us => some us
  | .scr us => some us
  | .loc i => match st[i]? with
    | some (.lst us) => some us
    | _ => none
  | _ => none
theorem lsts_at {c : Cn} {st : Sto} {H : Hp} (h : RH T c st H) {u : U} {v : V} {us : List U} (r : Rp T c u v) (e : eSl.lsts u st = some us) : ∃ a vs, v = .ref a ∧ SqL T.K H a vs ∧ RpL T c us vs := by
  cases u with
  | lst xs => obtain ⟨a, vs, rfl, h1, h2⟩ := r.inv_lst; cases e; exact ⟨a, vs, rfl, SqL.of (h.sub _ _ h1), h2⟩
  | scr xs => obtain ⟨a, vs, rfl, h1, h2⟩ := r.inv_scr; cases e; exact ⟨a, vs, rfl, sqL_up h h1, h2⟩
  | loc i =>
    obtain ⟨_, rfl⟩ := r.inv_loc
    dsimp only [eSl.lsts] at e
    split at e
    · rename_i xs q
      cases e
      obtain ⟨vs, h1, h2⟩ := h.at_lst q
      exact ⟨_, vs, rfl, SqL.of h1, h2⟩
    · cases e
  | _ => cases e
def toOf (T : Tb) (P : Pin) (Wx : WX) (m : Option ME) : TO := match m with
  | none => tNoPart
  | some f => tPart (teOf T P Wx f)
def POm (X : Cx) (T : Tb) (P : Pin) (Wx : WX) (e : Option Expr) (m : Option ME) : Prop := PO X e (toOf T P Wx m)
theorem pom_none : POm X T P Wx none none := po_none
theorem pom_some (h : PEm X T P Wx e me) : POm X T P Wx (some e) (some me) := po_some h
theorem part_run {c : Cn} {env : Env} {st : Sto} {σ : L2.St} {H : Hp} {Q : VK} {m : Option ME} {kk : Option Int → Sto → Out U} (hH : RH T c st H) (hE : RE T P c env σ)
    (hR : ResG T Wx c σ (Rp T) (((match m with | none => Out.ok none st | some f => (f env st).bind fun i s => match i with | .int k => .ok (some k) s | _ => .bad) : Out (Option Int)).bind kk) Q) :
    toOf T P Wx m σ H fun o H1 => ∃ c1 st1, Le c c1 ∧ RH T c1 st1 H1 ∧ RE T P c1 env σ ∧ ResG T Wx c1 σ (Rp T) (kk o st1) Q := by
  cases m with
  | none => exact ⟨c, st, Le.refl c, hH, hE, hR⟩
  | some f =>
    refine ⟨c, env, st, hH, hE, ?_⟩
    dsimp only at hR
    cases q : f env st with
    | ok u st1 =>
      rw [q] at hR
      intro c1 v H1 l hH1 r
      cases u with
      | int k =>
        cases r.inv_int
        exact ⟨k, rfl, c1, st1, l, hH1, hE.mono l, ResG.later l hR⟩
      | _ => exact hR.elim
    | exc x st1 => rw [q] at hR; exact hR
    | bad => rw [q] at hR; exact hR
theorem pem_sl {lo hi : Option Expr} {ml mh : Option ME} (hK : X.K = T.K) (he : PEm X T P Wx e me) (hl : POm X T P Wx lo ml) (hu : POm X T P Wx hi mh) : PEm X T P Wx (.Subscript e (.Slice lo hi none p2) pos) (eSl me ml mh) :=
  PE.imp (pe_slice sl_list he hl hu) fun σ H Q ⟨c, env, st, hH, hE, hR⟩ => by
    refine (tg_bind hH hE hR).mono fun x H1 ⟨u, c1, st1, l1, hH1, hE1, r1, hR1⟩ => ?_
    have mo : ∀ {m : Option ME} {σ : L2.St} {H : Hp} {Q Q' : Option Int → Hp → Prop}, toOf T P Wx m σ H Q → (∀ o H, Q o H → Q' o H) → toOf T P Wx m σ H Q' := fun {m σ H Q Q'} h k => by
      cases m with
      | none => exact k _ _ h
      | some f => exact tgOf.mono h fun v H ⟨i, e, q⟩ => ⟨i, e, k _ _ q⟩
    refine mo (part_run hH1 hE1 hR1) fun lo H2 ⟨c2, st2, l2, hH2, hE2, hR2⟩ => ?_
    refine mo (part_run hH2 hE2 hR2) fun hi H3 ⟨c3, st3, l3, hH3, hE3, hR3⟩ => ?_
    split at hR3
    · rename_i us e1
      obtain ⟨a, vs, rfl, h1, h2⟩ := lsts_at hH3 ((r1.mono l2).mono l3) e1
      refine ⟨a, vs, rfl, by rw [hK]; exact h1, fun p hp => ?_⟩
      have l := le_new c3 p
      have hlt : st3.length < (c3.new p).n := by show _ < c3.n + 1; rw [hH3.n]; exact Nat.lt_succ_self _
      have e : V.ref p = V.ref ((c3.new p).ρ st3.length) := by rw [← hH3.n, new_self]
      have r3 : RpL T c3 (cutU us lo hi) (cutV vs lo hi) := by
        unfold cutU cutV
        rw [h2.length]
        exact (h2.drop _).take _
      rw [e]
      exact hR3 _ _ _ l (hH3.new hp (o := .lst (cutU us lo hi)) (x := .lst (cutV vs lo hi)) ⟨_, rfl, r3⟩) (.loc hlt)
    · exact hR3.elim
end
end NK

namespace NK
open PySem L2
theorem bt_len : bootBuiltins "len" = some (.builtin "len") := by decide +kernel
theorem bt_abs : bootBuiltins "abs" = some (.builtin "abs") := by decide +kernel
theorem bt_int : bootBuiltins "int" = some (.type "int") := by decide +kernel
theorem bt_str : bootBuiltins "str" = some (.type "str") := by decide +kernel
theorem gr_name {T : Tb} {P : Pin} {i : Nat} (hp : pinned P i = false) (v : V) (σ : L2.St) (H : Hp) (Q : L2.St → Hp → Prop) (h : tgtOf T P (gN i) v σ H Q) : gName i v σ H Q := by
  obtain ⟨c, env, st, u, env', hH, hE, r, e, k⟩ := h
  cases e
  exact k _ (hE.set r i hp)
section
variable {P : Program} {w : World} {K : PySem.W.Frag} {mg : Str → Option Value} {base : Heap} {T : Tb} {x qual : Str} {params : Arguments} {body : List Stmt} {scope : Scope} {dvs : List V} {kws : List (Str × V)} {f : Addr} {fd : FuncData} {N ps : List Str} {k : Nat} {mb : MS}
open PyProof.Rows (envOfC) in
theorem fund_okm (F : FunD K x qual params body scope dvs kws f fd) (S : FnScope N ps scope)
    (hb : ∀ (cdv : Value) (A : Around) (outer : List PySem.Env) (s : Shared) (H : Hp) (E : XK), Room k (A.deeper (envOfC qual scope s.heap.objs.size f cdv)) →
      PSsm (cxOf (L2.CX P w) P w K mg base N qual scope f cdv A outer s H E) T none (fun cls d _ H => E cls d H) body mb) : FnOk P w K mg base (L2.CX P w) (k + 1) f fd ps (spOf T ps.length (fScope (runF N.length mb))) := by
  refine (F.ok S (fun vs H Q E h => h.1) (fun cdv A outer s H vs Q E hr h => ⟨_, hb cdv A outer s H E hr, ?_⟩) : FnOk P w K mg base (L2.CX P w) (k + 1) f fd ps (spOf T ps.length (runF N.length mb))).imp spOf_scope
  obtain ⟨hl, c, us, st0, hH, r, hR⟩ := h
  refine ⟨c, _, st0, hH, start_RE r, ?_⟩
  unfold runF at hR
  cases q : mb (us.map some ++ List.replicate (N.length - us.length) none) st0 with
  | ret u st' => rw [q] at hR; exact fun c' v H' a b d => hR c' v H' a b d
  | next env st' => rw [q] at hR; exact fun c' σ' H' a b d => hR c' .non H' a b .non
  | exc x' env st' => rw [q] at hR; exact fun c' cls d σ' H' a b _ e => hR c' cls d H' a b e
  | brk env st' => rw [q] at hR; exact hR.elim
  | cont env st' => rw [q] at hR; exact hR.elim
  | bad => rw [q] at hR; exact hR.elim
open PyProof.Rows (envOfC) in
theorem fund_okl (F : FunD K x qual params body scope dvs kws f fd) (S : FnScope N ps scope)
    (hb : ∀ (cdv : Value) (A : Around) (outer : List PySem.Env) (s : Shared) (H : Hp) (E : XK), Room k (A.deeper (envOfC qual scope s.heap.objs.size f cdv)) →
      PSsm (cxOf (L2.CX P w) P w K mg base N qual scope f cdv A outer s H E) T none (fun cls d _ H => E cls d H) body mb) : FnOk P w K mg base (L2.CX P w) (k + 1) f fd ps (spOf T ps.length (runF N.length mb)) := by
  refine F.ok S (fun vs H Q E h => h.1) (fun cdv A outer s H vs Q E hr h => ⟨_, hb cdv A outer s H E hr, ?_⟩)
  obtain ⟨hl, c, us, st0, hH, r, hR⟩ := h
  refine ⟨c, _, st0, hH, start_RE r, ?_⟩
  unfold runF at hR
  cases q : mb (us.map some ++ List.replicate (N.length - us.length) none) st0 with
  | ret u st' => rw [q] at hR; exact fun c' v H' a b d => hR c' v H' a b d
  | next env st' => rw [q] at hR; exact fun c' σ' H' a b d => hR c' .non H' a b .non
  | exc x' env st' => rw [q] at hR; exact fun c' cls d σ' H' a b _ e => hR c' cls d H' a b e
  | brk env st' => rw [q] at hR; exact hR.elim
  | cont env st' => rw [q] at hR; exact hR.elim
  | bad => rw [q] at hR; exact hR.elim
end
def sPar (i j : Nat) (ma : MA) : MS := fun env st => (ma env st).st env fun us st1 => match us with
  | [u, w] => .next ((env.set i (some u)).set j (some w)) st1
  | _ => .bad
theorem psm_par {X : Cx} {T : Tb} {P : Pin} {Wx : WX} {i j : Nat} {x y : Str} {a b : Expr} {ma : MA} {px py pt pos : Pos} {kt k2 pt2} (hc : X.calm = true) (hN : X.N.Nodup) (hi : X.N[i]? = some x) (hj : X.N[j]? = some y) (hij : i ≠ j)
    (hx : X.env.scope.names.lookup x = some .local) (hy : X.env.scope.names.lookup y = some .local) (ha : PAm X T P Wx [a, b] ma)
    (hw : swappedStores [.Tuple [.Name x px, .Name y py] kt pt] (.Tuple [a, b] k2 pt2) X.env = pure (some [x, y])) (hpi : pinned P i = false := by rfl) (hpj : pinned P j = false := by rfl)
    (hs : swapsWithSole [.Tuple [.Name x px, .Name y py] kt pt] (.Tuple [a, b] k2 pt2) pos.line X.env = pure false := by rfl) :
    PSm X T P Wx (.Assign [.Tuple [.Name x px, .Name y py] kt pt] (.Tuple [a, b] k2 pt2) pos) (sPar i j ma) :=
  PS.imp (ps_par hc hN hi hj hij hx hy ha hw hs) fun D σ H ⟨c, env, st, hH, hE, hR⟩ => by
    refine (ts_bind hH hE hR).mono fun vs H1 ⟨us, c1, st1, l1, hH1, hE1, r1, hR1⟩ => ?_
    split at hR1
    · rename_i u w
      obtain ⟨v, vs', rfl, r2, t⟩ := r1.inv_cons
      obtain ⟨v2, vs2, rfl, r3, t2⟩ := t.inv_cons
      cases t2.inv_nil
      exact ⟨v, v2, rfl, ResS.go (D := D) hR1 hH1 ((hE1.set r2 i hpi).set r3 j hpj)⟩
    · exact hR1.elim
theorem cx_false {P : Program} {w : World} {outer : List PySem.Env} {H : Hp} {s : Shared} {e : Value} {s' : Shared} (h : L2.CX P w outer H s (fun _ _ _ => False) e s') : False := by
  obtain ⟨_, _, _, _, _, _, _, _, _, _, _, _, z⟩ := h
  exact z
theorem rpl_ints {T : Tb} {c : Cn} : ∀ ns : List Int, RpL T c (ns.map U.int) (ns.map V.int)
  | [] => .nil
  | n :: ns => .cons (.int n) (rpl_ints ns)
def begF (H : Hp) (a : Addr) : Hp := fun b => if b = a then (match H a with
  | some o => if isTbl o = true then none else some o
  | none => none) else none
theorem begF_in {H : Hp} {a b : Addr} {o : HO} (e : begF H a b = some o) : b = a ∧ H a = some o ∧ isTbl o = false := by
  unfold begF at e
  split at e
  · rename_i hb
    split at e
    · rename_i u hu
      split at e
      · cases e
      · rename_i k
        cases e
        exact ⟨hb, hu, by simpa using k⟩
    · cases e
  · cases e
theorem begF_at {H : Hp} {a : Addr} {o : HO} (e : H a = some o) (k : isTbl o = false) : begF H a a = some o := by
  unfold begF
  rw [if_pos rfl, e]
  simp [k]
theorem beg_sq {K : PySem.W.Frag} {H : Hp} {a : Addr} {vs : List V} (h : SqL K H a vs) : SqL K (begF H a) a vs := by
  rcases h with h | h
  · rcases h with h | ⟨o, h⟩
    · exact .inl (.inl (begF_at h rfl))
    · exact .inl (.inr ⟨o, begF_at h rfl⟩)
  · exact .inr h
theorem beg_rh {T : Tb} {H : Hp} {a : Addr} (ht : ∀ p ∈ T.tabs, H p.1 = some (.tbl #[])) : RH T ⟨fun _ => 0, 0, begF H a, fun _ => none⟩ [] H where
  n := rfl
  sub := fun b o q => by
    obtain ⟨h1, h2, _⟩ := begF_in q
    rw [h1]
    exact h2
  act := fun i o q => by simp at q
  inj := fun i j x y q => by simp at q
  lkd := fun b o q => by cases q
  tab := fun p hp => ⟨#[], ht p hp, True.intro, fun z v e => by
    have e : codeAmong z [] = some v := e
    simp [codeAmong] at e⟩
  ntb := fun b o q => (begF_in q).2.2
end NK

set_option maxHeartbeats 1000000
namespace NK
open PySem L2

section
variable {α β : Type} {a : α} {s : Sto} {x : Ex} {env : Env}
theorem ob {f : α → Sto → Out β} : (Out.ok a s).bind f = f a s := rfl
theorem xb {f : α → Sto → Out β} : (Out.exc x s : Out α).bind f = .exc x s := rfl
theorem os {k : α → Sto → SO} : (Out.ok a s).st env k = k a s := rfl
theorem xs {k : α → Sto → SO} : (Out.exc x s : Out α).st env k = .exc x env s := rfl
theorem nb {k : MS} : (SO.next env s).bind k = k env s := rfl
theorem rb {k : MS} {u : U} : (SO.ret u s).bind k = .ret u s := rfl
theorem kb {k : MS} : (SO.cont env s).bind k = .cont env s := rfl
theorem eb {k : MS} : (SO.exc x env s).bind k = .exc x env s := rfl
end

def Old (st st2 : Sto) : Prop := st2.length = st.length ∧ ∀ i, i < st.length → st2[i]? = st[i]? ∨ ∃ o, st2[i]? = some o ∧ o.under 0 = true
theorem Old.refl (st : Sto) : Old st st := ⟨rfl, fun _ _ => .inl rfl⟩
theorem Old.hand {h h' : Ob} {rest : Sto} (e : h'.under 0 = true) : Old (h :: rest) (h' :: rest) := by
  refine ⟨rfl, fun i _ => ?_⟩
  cases i with
  | zero => exact .inr ⟨h', rfl, e⟩
  | succ i => exact .inl rfl
theorem Old.trans {a b c : Sto} (h : Old a b) (g : Old b c) : Old a c := by
  refine ⟨g.1.trans h.1, fun i hi => ?_⟩
  rcases g.2 i (by rw [h.1]; exact hi) with q | q
  · rw [q]; exact h.2 i hi
  · exact .inr q
theorem Old.ok {st st2 ext : Sto} (h : Old st st2) : oldOk st (st2 ++ ext) := by
  refine ⟨by rw [List.length_append, h.1]; omega, fun i hi => ?_⟩
  rw [List.getElem?_append_left (by rw [h.1]; exact hi)]
  exact h.2 i hi
theorem Old.take {st st2 ext : Sto} (h : Old st st2) : (st2 ++ ext).take st.length = st2 := by rw [← h.1, List.take_left']; rfl
theorem under_up {u : U} (h : u.under 0 = true) (n : Nat) : u.under n = true := U.under_mono (Nat.zero_le n) h
theorem sc_val {u : U} {st st2 : Sto} (ext : Sto) (h : Old st st2) (hu : u.under 0 = true) : scopeOut st (.ok u (st2 ++ ext)) = .ok u st2 := by
  have f : frz u (st2 ++ ext) = .ok u (st2 ++ ext) := by
    cases u with
    | loc i => simp [U.under] at hu
    | _ => rfl
  show ((frz u (st2 ++ ext)).bind _) = _
  rw [f]
  show (open Classical in if u.under st.length = true ∧ oldOk st (st2 ++ ext) then Out.ok u ((st2 ++ ext).take st.length) else .bad) = _
  rw [if_pos ⟨under_up hu _, h.ok⟩, h.take]
theorem sc_same {u : U} {st : Sto} (hu : u.under 0 = true) : scopeOut st (.ok u st) = .ok u st := by
  have := sc_val (u := u) [] (Old.refl st) hu
  rwa [List.append_nil] at this
theorem sc_old {u : U} {st st2 : Sto} (h : Old st st2) (hu : u.under 0 = true) : scopeOut st (.ok u st2) = .ok u st2 := by
  have := sc_val (u := u) [] h hu
  rwa [List.append_nil] at this
theorem set_app {st2 ext : Sto} {j : Nat} {o : Ob} : (st2 ++ ext).set (st2.length + j) o = st2 ++ ext.set j o := by
  have e := List.set_append (s := st2) (t := ext) (i := st2.length + j) (x := o)
  rw [if_neg (by omega), show st2.length + j - st2.length = j by omega] at e
  exact e
theorem sc_loc {us : List U} {st st2 : Sto} (ext : Sto) {j : Nat} (h : Old st st2) (hj : ext[j]? = some (.lst us)) (hu : U.underL 0 us = true) : scopeOut st (.ok (.loc (st.length + j)) (st2 ++ ext)) = .ok (.lst us) st2 := by
  have q : (st2 ++ ext)[st.length + j]? = some (.lst us) := by
    rw [List.getElem?_append_right (by rw [h.1]; omega), h.1]
    rw [show st.length + j - st.length = j by omega]
    exact hj
  have f : frz (.loc (st.length + j)) (st2 ++ ext) = .ok (.lst us) (st2 ++ ext.set j .dead) := by
    dsimp only [frz]
    rw [q]
    dsimp only
    rw [← h.1, set_app]
  show ((frz (.loc (st.length + j)) (st2 ++ ext)).bind _) = _
  rw [f]
  show (open Classical in if (U.lst us).under st.length = true ∧ oldOk st (st2 ++ ext.set j .dead) then Out.ok (U.lst us) ((st2 ++ ext.set j .dead).take st.length) else .bad) = _
  rw [if_pos ⟨under_up (u := .lst us) (by unfold U.under; exact hu) _, h.ok⟩, h.take]
theorem underL_all {n : Nat} : ∀ {us : List U}, (∀ u ∈ us, u.under n = true) → U.underL n us = true
  | [], _ => rfl
  | u :: us, h => by
    unfold U.underL
    rw [h u List.mem_cons_self, underL_all fun w hw => h w (List.mem_cons_of_mem _ hw)]
    rfl
mutual
def datU : U → PyData
  | .bl b => .bool b
  | .int i => .int i
  | .str x => .str x
  | .tup us => .tuple (datL us)
  | .lst us => .list (datL us)
  | _ => .none
def datL : List U → List PyData
  | [] => []
  | u :: us => datU u :: datL us
end
def okU : Nat → U → Bool
  | 0, _ => false
  | n + 1, u => match u with
    | .non => true
    | .bl _ => true
    | .int _ => true
    | .str x => PyData.canLay0 (.str x)
    | .tup us => us.all (okU n)
    | .lst us => us.all (okU n)
    | _ => false
theorem okU_D {st : Sto} : ∀ (n : Nat) (u : U), okU n u = true → toD st n u = some (datU u) ∧ PyData.canLay0 (datU u) = true ∧ PyData.depth (datU u) ≤ n
  | 0, _, h => by cases h
  | n + 1, u, h => by
    have lst : ∀ us : List U, us.all (okU n) = true → allD (toD st n) us = some (datL us) ∧ PyData.canLayAll0 (datL us) = true ∧ PyData.depthAll (datL us) ≤ n := by
      intro us
      induction us with
      | nil => intro _; exact ⟨rfl, rfl, Nat.zero_le _⟩
      | cons w us ih =>
        intro hh
        rw [List.all_cons, Bool.and_eq_true] at hh
        obtain ⟨a1, a2, a3⟩ := okU_D n w hh.1
        obtain ⟨b1, b2, b3⟩ := ih hh.2
        refine ⟨?_, ?_, ?_⟩
        · unfold allD
          rw [a1, b1]
          rfl
        · unfold datL PyData.canLayAll0
          rw [a2, b2]
          rfl
        · unfold datL PyData.depthAll
          exact Nat.max_le.mpr ⟨a3, b3⟩
    cases u with
    | non => exact ⟨rfl, rfl, Nat.zero_le _⟩
    | bl b => exact ⟨rfl, rfl, Nat.zero_le _⟩
    | int i => exact ⟨rfl, rfl, Nat.zero_le _⟩
    | str x => exact ⟨rfl, h, Nat.zero_le _⟩
    | tup us =>
      obtain ⟨a, b, c⟩ := lst us h
      refine ⟨?_, ?_, ?_⟩
      · show (allD (toD st n) us).map _ = _
        rw [a]
        rfl
      · unfold datU PyData.canLay0
        exact b
      · unfold datU PyData.depth
        omega
    | lst us =>
      obtain ⟨a, b, c⟩ := lst us h
      refine ⟨?_, ?_, ?_⟩
      · show (allD (toD st n) us).map _ = _
        rw [a]
        rfl
      · unfold datU PyData.canLay0
        exact b
      · unfold datU PyData.depth
        omega
    | _ => cases h
def eqvU (u w : U) : Bool := PyData.eqv (datU u) (datU w)
theorem okU_shaped {u : U} (h : okU 12 u = true) : SeqAt.shaped (datU u) = true := by
  obtain ⟨_, b, c⟩ := okU_D (st := []) 12 u h
  unfold SeqAt.shaped
  rw [b, Bool.true_and]
  exact decide_eq_true (by omega)
theorem fEqB_ok {g : Bool → Bool} {u w : U} {st : Sto} (hu : okU 12 u = true) (hw : okU 12 w = true) : fEqB g u w st = .ok (.bl (g (eqvU u w))) st := by
  unfold fEqB
  rw [(okU_D 12 u hu).1, (okU_D 12 w hw).1]
  dsimp only
  rw [if_pos ⟨okU_shaped hu, okU_shaped hw⟩]
  rfl
theorem fEq_ok {u w : U} {st : Sto} (hu : okU 12 u = true) (hw : okU 12 w = true) : fEq u w st = .ok (.bl (eqvU u w)) st := fEqB_ok hu hw
theorem fNe_ok {u w : U} {st : Sto} (hu : okU 12 u = true) (hw : okU 12 w = true) : fNe u w st = .ok (.bl (!eqvU u w)) st := fEqB_ok hu hw
theorem eqvU_same {u : U} (h : okU 12 u = true) : eqvU u u = true := PySem.SeqAt.eqv_refl _ (okU_D (st := []) 12 u h).2.1
mutual
theorem okU_under : ∀ (n : Nat) (u : U), okU n u = true → u.under 0 = true
  | 0, _, h => by cases h
  | n + 1, u, h => by
    cases u with
    | tup us => unfold U.under; exact okU_underL n us h
    | lst us => unfold U.under; exact okU_underL n us h
    | non => rfl
    | bl b => rfl
    | int i => rfl
    | str x => rfl
    | _ => cases h
theorem okU_underL : ∀ (n : Nat) (us : List U), us.all (okU n) = true → U.underL 0 us = true
  | _, [], _ => rfl
  | n, u :: us, h => by
    rw [List.all_cons, Bool.and_eq_true] at h
    unfold U.underL
    rw [okU_under n u h.1, okU_underL n us h.2]
    rfl
end
end NK

namespace NK
open PySem L2
section
variable {g : Sto → Prop} {gt : MGt} {b : MS} {u : U} {us : List U} {env env1 env2 : Env} {st st2 : Sto} {x : Ex} {r : U}
theorem forM_nil (hg : g st) : forM g gt b [] env st = .next env st := by unfold forM; rw [if_pos hg]
theorem forM_n (hg : g st) (ht : gt u env st = some env1) (hb : b env1 st = .next env2 st2) : forM g gt b (u :: us) env st = forM g gt b us env2 st2 := by
  rw [forM, if_pos hg, ht]; dsimp only; rw [hb]
end
theorem wipe1 (env : Env) (i : Nat) (u : U) : (wipeE env [i]).set i (some u) = env.set i (some u) := by
  show (env.set i none).set i (some u) = _
  rw [List.set_set]
section
variable {g : Sto → Prop} {i : Nat} {mt : MT} {me : ME} {mi : MI} {env : Env} {st : Sto}
theorem compM_pure (f : U → U) (p : U → Bool) (hg : ∀ acc, g (st ++ [.lst acc])) : ∀ (us acc : List U), acc.length + us.length ≤ 16777216 →
    (∀ u ∈ us, ∀ acc, mt (env.set i (some u)) (st ++ [.lst acc]) = .ok (p u) (st ++ [.lst acc]) ∧ (p u = true → me (env.set i (some u)) (st ++ [.lst acc]) = .ok (f u) (st ++ [.lst acc]))) →
    compM g (gN i) mt me st.length (wipeE env [i]) us (st ++ [.lst acc]) = .ok (.loc st.length) (st ++ [.lst (acc ++ (us.filter p).map f)])
  | [], acc, _, _ => by unfold compM; rw [if_pos (hg acc)]; simp
  | u :: us, acc, hz, h => by
    have ih := compM_pure f p hg us
    obtain ⟨h1, h2⟩ := h u List.mem_cons_self acc
    have h' := fun w hw => h w (List.mem_cons_of_mem _ hw)
    rw [List.length_cons] at hz
    unfold compM
    rw [if_pos (hg acc)]
    show (match mt ((wipeE env [i]).set i (some u)) (st ++ [.lst acc]) with | .ok true st1 => _ | .ok false st1 => _ | _ => Out.bad) = _
    rw [wipe1, h1]
    cases hp : p u with
    | false =>
      dsimp only
      rw [ih acc (by omega) h', List.filter_cons_of_neg (by simp [hp])]
    | true =>
      dsimp only
      rw [h2 hp]
      dsimp only
      have e : (st ++ [Ob.lst acc])[st.length]? = some (.lst acc) := by simp
      rw [e]
      dsimp only
      rw [if_pos (by omega)]
      have e2 : (st ++ [Ob.lst acc]).set st.length (.lst (acc ++ [f u])) = st ++ [.lst (acc ++ [f u])] := by simp
      rw [e2, ih (acc ++ [f u]) (by simp; omega) h', List.filter_cons_of_pos hp]
      simp [List.append_assoc]
theorem comp_pure (f : U → U) (p : U → Bool) {us : List U} (hm : mi env st = .ok ⟨us, g⟩ st) (hg : ∀ acc, g (st ++ [.lst acc])) (hz : us.length ≤ 16777216)
    (h : ∀ u ∈ us, ∀ acc, mt (env.set i (some u)) (st ++ [.lst acc]) = .ok (p u) (st ++ [.lst acc]) ∧ (p u = true → me (env.set i (some u)) (st ++ [.lst acc]) = .ok (f u) (st ++ [.lst acc]))) :
    eComp mi (gN i) mt me [i] env st = .ok (.loc st.length) (st ++ [.lst ((us.filter p).map f)]) := by
  unfold eComp
  rw [hm, ob, compM_pure f p hg us [] (by simpa using hz) h, List.nil_append]
theorem comp_scope (f : U → U) (p : U → Bool) {us : List U} (hm : mi env st = .ok ⟨us, g⟩ st) (hg : ∀ acc, g (st ++ [.lst acc])) (hz : us.length ≤ 16777216)
    (h : ∀ u ∈ us, ∀ acc, mt (env.set i (some u)) (st ++ [.lst acc]) = .ok (p u) (st ++ [.lst acc]) ∧ (p u = true → me (env.set i (some u)) (st ++ [.lst acc]) = .ok (f u) (st ++ [.lst acc])))
    (hu : U.underL 0 ((us.filter p).map f) = true) : eScope (eComp mi (gN i) mt me [i]) env st = .ok (.lst ((us.filter p).map f)) st := by
  unfold eScope
  rw [comp_pure f p hm hg hz h]
  exact sc_loc (j := 0) [.lst _] (Old.refl st) rfl hu
end
end NK

namespace NK
open PySem L2
section
variable {n : Nat} {mb : MS} {us : List U} {env env' : Env} {st st2 ext : Sto} {u : U} {x : Ex}
theorem run_ret (he : us.map some ++ List.replicate (n - us.length) none = env) (h : mb env st = .ret u st2) : runF n mb us st = .ok u st2 := by
  unfold runF; rw [he, h]
theorem fs_val (he : us.map some ++ List.replicate (n - us.length) none = env) (h : mb env st = .ret u (st2 ++ ext)) (o : Old st st2) (hu : u.under 0 = true) : fScope (runF n mb) us st = .ok u st2 := by
  show scopeOut st (runF n mb us st) = _
  rw [run_ret he h]
  exact sc_val ext o hu
theorem fs_same (he : us.map some ++ List.replicate (n - us.length) none = env) (h : mb env st = .ret u st) (hu : u.under 0 = true) : fScope (runF n mb) us st = .ok u st := by
  show scopeOut st (runF n mb us st) = _
  rw [run_ret he h]
  exact sc_same hu
theorem fs_old (he : us.map some ++ List.replicate (n - us.length) none = env) (h : mb env st = .ret u st2) (o : Old st st2) (hu : u.under 0 = true) : fScope (runF n mb) us st = .ok u st2 := by
  show scopeOut st (runF n mb us st) = _
  rw [run_ret he h]
  exact sc_old o hu
end
section
variable {i j : Int} {st : Sto} {u : U} {us ws : List U}
theorem fAdd_i : fAdd (.int i) (.int j) st = .ok (.int (i + j)) st := rfl
theorem fSub_i : fSub (.int i) (.int j) st = .ok (.int (i - j)) st := rfl
theorem fNeg_i : fNeg (.int i) st = .ok (.int (-i)) st := rfl
theorem fInt_i : fInt [.int i] st = .ok (.int i) st := rfl
theorem fAbs_i : fAbs [.int i] st = .ok (.int (if i < 0 then -i else i)) st := rfl
theorem fLt_i : fLt (.int i) (.int j) st = .ok (.bl (decide (i < j))) st := rfl
theorem fLe_i : fLe (.int i) (.int j) st = .ok (.bl (decide (i ≤ j))) st := rfl
theorem fGt_i : fGt (.int i) (.int j) st = .ok (.bl (decide (j < i))) st := rfl
theorem fMin_i : fMin2 [.int i, .int j] st = .ok (.int (if j < i then j else i)) st := rfl
theorem fMul_i (h : (-18446744073709551616 < i ∧ i < 18446744073709551616) ∨ (-18446744073709551616 < j ∧ j < 18446744073709551616)) : fMul (.int i) (.int j) st = .ok (.int (i * j)) st := by
  have c : cMul i j = true := by
    unfold cMul
    exact decide_eq_true h
  show (if cMul i j = true then _ else Out.bad) = _
  rw [if_pos c]
theorem fMod_i (h : 0 < j) : fMod (.int i) (.int j) st = .ok (.int (i % j)) st := by
  show (if cMod i j = true then _ else Out.bad) = _
  rw [if_pos (show cMod i j = true from decide_eq_true h)]
theorem fDiv_i (h : 0 < j) (h2 : j < 1000000000000000000000000000000000000000000000000000000000000) : fDiv (.int i) (.int j) st = .ok (.int (i / j)) st := by
  show (if cDiv i j = true then _ else Out.bad) = _
  rw [if_pos (show cDiv i j = true from decide_eq_true ⟨h, h2⟩)]
theorem fIsN_n : fIsN u .non st = .ok (.bl u.isNon) st := by cases u <;> rfl
theorem fNotN_n : fNotN u .non st = .ok (.bl (!u.isNon)) st := by cases u <;> rfl
theorem fIx_lst (h : atI us i = some u) : fIx (.lst us) (.int i) st = .ok u st := by
  unfold fIx
  dsimp only [items]
  rw [h]
theorem atI_nat {k : Nat} : atI us (k : Int) = us[k]? := by
  unfold atI
  by_cases h : k < us.length
  · simp [ixN, h]
  · simp [ixN, h]
theorem fLen_lst : fLen [.lst us] st = .ok (.int us.length) st := rfl
theorem fLen_tup : fLen [.tup us] st = .ok (.int us.length) st := rfl
theorem fTuple_lst : fTuple [.lst us] st = .ok (.tup us) st := rfl
theorem fTuple_tup : fTuple [.tup us] st = .ok (.tup us) st := rfl
end
end NK

namespace NK
open PySem L2
section
variable {X : Cx} {T : Tb} {P : Pin} {Wx : WX}
open PySem.Spec PyProof.Rows in
end
end NK

set_option maxHeartbeats 2000000
namespace NK
open PySem L2

section
variable {X : Cx} {T : Tb} {P : Pin} {Wx : WX} {o i e value : Expr} {es : List Expr} {mo mi m me : ME} {ma : MA} {pos pos' p2 : Pos}

open PySem PySem.Spec PyProof.Rows in
open PySem PySem.Spec PyProof.Rows in
structure PDm (X : Cx) (T : Tb) (P : Pin) (Wx : WX) (pos : Pos) (keys : List (Option Expr)) (values : List Expr) (ks : List Str) (ma : MA) : Prop where
  run : ∃ trs, PPs X pos keys values trs ∧ ∀ σ H Q, taOf T P Wx ma σ H (fun vs H' => Q ((ks.map V.str).zip vs) H') → tPairs trs σ H Q
def keysU : List U → Option (List Key)
  | [] => some []
  | u :: us => match keyU u, keysU us with
    | some k, some ks => some (k :: ks)
    | _, _ => none
def dicTAt (u : U) (st : Sto) : Option (Nat × List (List Key × U)) := match u with
  | .loc i => match st[i]? with
    | some (.dT kvs) => some (i, kvs)
    | _ => none
  | _ => none
def dicTRd (u : U) (st : Sto) : Option (List (List Key × U)) := match u with
  | .loc i => match st[i]? with
    | some (.dT kvs) => some kvs
    | some (.lk (.dT kvs)) => some kvs
    | _ => none
  | _ => none
def keyT (us : List U) : Option (List Key) := if us.length ≤ 100 then keysU us else none
def eDGetT (mo : ME) (ma : MA) : ME := fun env st => (mo env st).bind fun o st1 => (ma env st1).bind fun us st2 => match dicTRd o st2, keyT us with
  | some kvs, some k => match valU kvs k with
    | some w => .ok w st2
    | none => .bad
  | _, _ => .bad
def eDInT (neg : Bool) (ma : MA) (mo : ME) : ME := fun env st => (ma env st).bind fun us st1 => match keyT us with
  | some k => (mo env st1).bind fun o st2 => match dicTRd o st2 with
    | some kvs => .ok (.bl ((valU kvs k).isSome != neg)) st2
    | none => .bad
  | none => .bad
def dputT (o : U) (us : List U) (w : U) (st : Sto) : Option Sto := match dicTAt o st, keyT us with
  | some (n, kvs), some k => if kvs.length < 16777216 then some (st.set n (.dT (putU kvs k w))) else none
  | _, _ => none
def sDPutT (mo : ME) (ma : MA) (m : ME) : MS := fun env st => (m env st).st env fun w st1 => (mo env st1).st env fun o st2 => (ma env st2).st env fun us st3 => match dputT o us w st3 with
  | some st4 => .next env st4
  | none => .bad
end
end NK

namespace NK
open PySem L2

section
variable {X : Cx} {pins : List (Addr × Obj)} {σ : L2.St} {H : Hp} {s : Shared}
open PySem PySem.Spec PyProof.Rows in
variable {C f : Addr} {fd : FuncData} {ps : List Str} {sp : Sp} {n : Nat} {A1 : Around} {E : Value → Shared → Prop}
end

structure ItK (K : PySem.W.Frag) (C fi fl : Addr) : Prop where
  it : PySem.W.findIn K (.ref C) "__iter__" = some (some (.ref fi))
  itF : PySem.W.isFn K (.ref fi) = true
  ln : PySem.W.findIn K (.ref C) "__len__" = some (some (.ref fl))
  lnF : PySem.W.isFn K (.ref fl) = true

section
variable {X : Cx} {pins : List (Addr × Obj)} {σ : L2.St} {H : Hp} {s : Shared} {C fi fl : Addr} {fdI fdL : FuncData} {psI psL : List Str} {fld : Str} {n : Nat} {E : Value → Shared → Prop}
open PySem PySem.Spec PyProof.Rows in
open PySem PySem.Spec PyProof.Rows in
open PySem PySem.Spec PyProof.Rows in
open PySem PySem.Spec PyProof.Rows in
end

section
variable {X : Cx} {T : Tb} {P : Pin} {Wx : WX} {Pg : Program} {w : World} {K : PySem.W.Frag} {mg : Str → Option Value} {base : Heap} {x qual : Str} {params : Arguments} {body : List Stmt} {scope : Scope} {dvs : List V} {kws : List (Str × V)} {f : Addr} {fd : FuncData} {N ps : List Str} {n k j : Nat} {fld : Str}
open PyProof.Rows (envOfC) in
open PyProof.Rows (envOfC) in
end
end NK
namespace NK
open PySem L2
end NK
namespace NK
open PySem L2
end NK
namespace NK
open PySem L2
def sPar3 (i j l : Nat) (ma : MA) : MS := fun env st => (ma env st).st env fun us st1 => match us with
  | [u, w, z] => .next (((env.set i (some u)).set j (some w)).set l (some z)) st1
  | _ => .bad
end NK

namespace NK
open PySem L2
inductive All2 {α β : Type} (R : α → β → Prop) : List α → List β → Prop
  | nil : All2 R [] []
  | cons {a : α} {b : β} {as : List α} {bs : List β} : R a b → All2 R as bs → All2 R (a :: as) (b :: bs)
theorem All2.imp {α β : Type} {R R' : α → β → Prop} (f : ∀ a b, R a b → R' a b) : ∀ {as : List α} {bs : List β}, All2 R as bs → All2 R' as bs
  | _, _, .nil => .nil
  | _, _, .cons h t => .cons (f _ _ h) (All2.imp f t)
theorem All2.len {α β : Type} {R : α → β → Prop} : ∀ {as : List α} {bs : List β}, All2 R as bs → as.length = bs.length
  | _, _, .nil => rfl
  | _, _, .cons _ t => by rw [List.length_cons, List.length_cons, t.len]
theorem All2.append {α β : Type} {R : α → β → Prop} : ∀ {as as' : List α} {bs bs' : List β}, All2 R as bs → All2 R as' bs' → All2 R (as ++ as') (bs ++ bs')
  | _, _, _, _, .nil, g => g
  | _, _, _, _, .cons h t, g => .cons h (t.append g)
section
variable {i j : Int} {st S : Sto} {u : U} {us ws : List U} {x y : Str}
theorem fGe_i : fGe (.int i) (.int j) st = .ok (.bl (decide (j ≤ i))) st := rfl
theorem eqv_ii (i j : Int) : eqvU (.int i) (.int j) = (i == j) := by simp [eqvU, datU, PyData.eqv]
theorem ok_int (i : Int) : okU 12 (.int i) = true := rfl
theorem fEq_ii : fEq (.int i) (.int j) st = .ok (.bl (i == j)) st := by rw [fEq_ok (ok_int i) (ok_int j), eqv_ii]
theorem fNe_ii : fNe (.int i) (.int j) st = .ok (.bl (!(i == j))) st := by rw [fNe_ok (ok_int i) (ok_int j), eqv_ii]
theorem powN {n : Nat} (hn : n ≤ 1000) : fPow (.int 10) (.int (n : Int)) st = .ok (.int ((10 : Int) ^ n)) st := by
  have c : cPow 10 (n : Int) = true := by
    unfold cPow
    exact decide_eq_true ⟨by omega, by omega, by decide⟩
  show (if cPow 10 (n : Int) = true then Out.ok (U.int ((10 : Int) ^ (n : Int).toNat)) st else .bad) = _
  rw [if_pos c, Int.toNat_natCast]
theorem pow18 : fPow (.int 10) (.int 18) st = .ok (.int 1000000000000000000) st := powN (n := 18) (by decide)
def lstK (xs : List U) (st1 : Sto) : Out U := if xs.length ≤ 16777216 then .ok (.loc st1.length) (st1 ++ [.lst xs]) else .bad
theorem lstK_ok {xs : List U} (h : xs.length ≤ 1000) : lstK xs st = .ok (.loc st.length) (st ++ [.lst xs]) := by
  unfold lstK
  rw [if_pos (Nat.le_trans h (by omega))]
theorem esl {ma : MA} {env : NK.Env} : eScope (eLst ma) env st = scopeOut st ((ma env st).bind lstK) := rfl
theorem sFor_ok {mi : MI} {gt : MGt} {b : MS} {env : NK.Env} {S S1 : Sto} {us : List U} {g : Sto → Prop} {r : SO} (hi : mi env S = .ok ⟨us, g⟩ S1) (hf : forM g gt b us env S1 = r) : sFor mi gt b env S = r := by
  unfold sFor
  rw [hi]
  exact hf
theorem filter_all (l : List U) : l.filter (fun _ => true) = l := List.filter_eq_self.mpr fun _ _ => rfl
theorem ofS_inj {a b : String} (h : Str.ofString a = Str.ofString b) : a = b := by
  have h2 := congrArg (fun z : Str => z.cps.toList) h
  rw [Str.ofString_eq_toList, Str.ofString_eq_toList] at h2
  simp only [List.toList_toArray] at h2
  have inj : ∀ (l m : List Char), l.map Char.toNat = m.map Char.toNat → l = m := by
    intro l
    induction l with
    | nil =>
      intro m e
      cases m with
      | nil => rfl
      | cons _ _ => cases e
    | cons c l ih =>
      intro m e
      cases m with
      | nil => cases e
      | cons d m =>
        simp only [List.map_cons, List.cons.injEq] at e
        rw [ih m e.2, Char.ext (UInt32.toNat_inj.mp e.1)]
  exact String.toList_inj.mp (inj _ _ h2)
theorem beq_lit {a b : String} : (Str.ofString a == Str.ofString b) = (a == b) := by
  by_cases h : a = b
  · subst h
    simp
  · have h2 : Str.ofString a ≠ Str.ofString b := fun e => h (ofS_inj e)
    rw [beq_eq_false_iff_ne.mpr h2, beq_eq_false_iff_ne.mpr h]
end
section
variable {S : Sto} {i : Int} {x : Str} {b : Bool} {us : List U} {k : Nat} {j : Nat} {kvs : List (Key × U)}
theorem truth_bl : truth (.bl b) S = some b := rfl
theorem truth_non : truth .non S = some false := rfl
theorem truth_int : truth (.int i) S = some (i != 0) := rfl
theorem truth_tup : truth (.tup us) S = some (!us.isEmpty) := rfl
theorem truth_lst : truth (.lst us) S = some (!us.isEmpty) := rfl
theorem non_non : U.isNon .non = true := rfl
theorem non_bl : U.isNon (.bl b) = false := rfl
theorem non_int : U.isNon (.int i) = false := rfl
theorem non_str : U.isNon (.str x) = false := rfl
theorem non_tup : U.isNon (.tup us) = false := rfl
theorem non_lst : U.isNon (.lst us) = false := rfl
theorem non_ins : U.isNon (.ins k us) = false := rfl
theorem non_loc : U.isNon (.loc j) = false := rfl
end
section
variable {S xs : Sto} {o o' : Ob} {j : Nat}
end
section
variable {κ : Type} [DecidableEq κ]
end
section
variable {κ : Type} [DecidableEq κ]
end
section
variable {S : Sto} {j : Nat} {kvs : List (Key × U)} {tvs : List (List Key × U)} {x y : Str} {w : U} {neg : Bool}
theorem keyT2 : keyT [.str x, .str y] = some [.inr x, .inr y] := rfl
end
section
variable {us ws : List U} {k : Nat} {S : Sto}
end
end NK

namespace NK
open PySem L2

def Cn.wL (c : Cn) (L : Hp) : Cn := { c with L := L }
section
variable {T : Tb} {c : Cn} {L : Hp}
mutual
theorem Rp.wL : ∀ {u : U} {v : V}, Rp T c u v → Rp T (c.wL L) u v
  | _, _, .non => .non
  | _, _, .bl b => .bl b
  | _, _, .int i => .int i
  | _, _, .str x => .str x
  | _, _, .ty n => .ty n
  | _, _, .cls n => .cls n
  | _, _, .tup e r => .tup (c := c.wL L) e (RpL.wL r)
  | _, _, .lst e r => .lst (c := c.wL L) e (RpL.wL r)
  | _, _, .scr e r => .scr (c := c.wL L) e (RpL.wL r)
  | _, _, .ins e l r => .ins (c := c.wL L) e l (RpL.wL r)
  | _, _, .exn e r => .exn (c := c.wL L) e (RpL.wL r)
  | _, _, .loc hi => .loc (c := c.wL L) hi
theorem RpL.wL : ∀ {us : List U} {vs : List V}, RpL T c us vs → RpL T (c.wL L) us vs
  | _, _, .nil => .nil
  | _, _, .cons r t => .cons (Rp.wL r) (RpL.wL t)
end
theorem RpK.wL {κ : Type} : ∀ {us : List (κ × U)} {vs : List (κ × V)}, RpK T c us vs → RpK T (c.wL L) us vs
  | _, _, .nil => .nil
  | _, _, .cons r t => .cons (Rp.wL r) (RpK.wL t)
theorem RX.wL {x : Ex} {cls : Value} {d : Option Addr} (r : RX T c x cls d) : RX T (c.wL L) x cls d := by
  obtain ⟨e, dx, vs, h1, h2, h3, h4⟩ := r
  exact ⟨e, dx, vs, h1, h2, h3, h4.wL⟩
theorem RE.wL {P : Pin} {env : Env} {σ : St} (r : RE T P c env σ) : RE T P (c.wL L) env σ :=
  ⟨r.len, fun i u e => let ⟨v, h, q⟩ := r.get i u e; ⟨v, h, q.wL⟩, fun p e => ⟨(r.pin p e).1, (r.pin p e).2.wL⟩⟩
theorem RO.wL {o : Ob} {a : Addr} {h : HO} (k : ∀ h', c.L a = some h' → L a = some h') (r : RO T c o a h) : RO T (c.wL L) o a h := by
  induction o generalizing h with
  | lst us => obtain ⟨vs, e, r⟩ := r; exact ⟨vs, e, r.wL⟩
  | dK kvs => obtain ⟨vs, e, r⟩ := r; exact ⟨vs, e, r.wL⟩
  | dT kvs => obtain ⟨vs, e, r⟩ := r; exact ⟨vs, e, r.wL⟩
  | ins j us => obtain ⟨dx, vs, e, z, r⟩ := r; exact ⟨dx, vs, e, z, r.wL⟩
  | iset ks => exact r
  | dead => exact r
  | lk o ih => obtain ⟨od, x, e, q, r⟩ := r; exact ⟨od, x, e, k _ q, ih r⟩
theorem RO.wL1 {o : Ob} {a : Addr} {h : HO} (k : o.isLk = false) (r : RO T c o a h) : RO T (c.wL L) o a h := by
  cases o with
  | lst us => obtain ⟨vs, e, r⟩ := r; exact ⟨vs, e, r.wL⟩
  | dK kvs => obtain ⟨vs, e, r⟩ := r; exact ⟨vs, e, r.wL⟩
  | dT kvs => obtain ⟨vs, e, r⟩ := r; exact ⟨vs, e, r.wL⟩
  | ins j us => obtain ⟨dx, vs, e, z, r⟩ := r; exact ⟨dx, vs, e, z, r.wL⟩
  | iset ks => exact r
  | dead => exact r
  | lk o => cases k
end
section
variable {T : Tb} {c : Cn} {st : Sto} {H : Hp} {i : Nat} {o : Ob} {x : HO}
def Cn.lock (c : Cn) (a : Addr) (h : HO) : Cn := c.wL (upd c.L a h)
noncomputable def Cn.unlock (c : Cn) (a : Addr) : Cn := c.wL (fun b => open Classical in if b = a then none else c.L b)
theorem RH.lk_no (h : RH T c st H) (e : st[i]? = some o) (hd : o ≠ .dead) (k : o.isLk = false) : c.L (c.ρ i) = none := by
  obtain ⟨y, h1, h2, _⟩ := h.act i o e hd
  cases q : c.L (c.ρ i) with
  | none => rfl
  | some u =>
    obtain ⟨q1, od, x', q2⟩ := h.lkd _ _ q
    rw [h1] at q1
    cases q1
    exact absurd q2 (h2.nofrz k od x')
theorem RH.lock (h : RH T c st H) (e : st[i]? = some o) (hd : o ≠ .dead) (k : o.isLk = false) (r : RO T c o (c.ρ i) x) (od : Obj) : RH T (c.lock (c.ρ i) (.frz od x)) (st.set i (.lk o)) (upd H (c.ρ i) (.frz od x)) := by
  have hi : i < st.length := (List.getElem?_eq_some_iff.mp e).1
  have old : ∀ {j : Nat} {a : Ob}, j ≠ i → (st.set i (.lk o))[j]? = some a → st[j]? = some a := fun {j a} hj q => by
    rw [List.getElem?_set_ne (Ne.symm hj)] at q
    exact q
  have self : ∀ {a : Ob}, (st.set i (.lk o))[i]? = some a → a = .lk o := fun {a} q => by
    rw [List.getElem?_set_self hi] at q
    exact (Option.some.inj q).symm
  have ln := h.lk_no e hd k
  refine ⟨by show c.n = _; rw [h.n, List.length_set], fun a u q => ?_, fun j a q da => ?_, fun j l a b ea da eb db q => ?_, fun a u q => ?_, fun q hq => (h.tab q hq).mono (fun _ _ z => z) (tbl_upd (.inr (let ⟨y, h1, h2, _⟩ := h.act i o e hd; ⟨y, h1, h2.notbl⟩)) ·), h.ntb⟩
  · obtain ⟨_, _, _, h3⟩ := h.act i o e hd
    have q' : c.F a = some u := q
    rw [upd_ne (fun z => by rw [z, h3] at q'; cases q')]
    exact h.sub a u q'
  · by_cases hj : j = i
    · subst hj
      cases self q
      obtain ⟨_, _, _, h3⟩ := h.act j o e hd
      exact ⟨.frz od x, upd_same, ⟨od, x, rfl, upd_same, r.wL1 k⟩, h3⟩
    · have q' := old hj q
      obtain ⟨y, h1, h2, h3⟩ := h.act j a q' da
      have ne : c.ρ j ≠ c.ρ i := fun z => hj (h.inj j i a o q' da e hd z)
      refine ⟨y, ?_, h2.wL fun h' z => ?_, h3⟩
      · show upd H (c.ρ i) _ (c.ρ j) = _
        rw [upd_ne ne]
        exact h1
      · show upd c.L (c.ρ i) _ (c.ρ j) = _
        rw [upd_ne ne]
        exact z
  · have q' : c.ρ j = c.ρ l := q
    by_cases hj : j = i
    · by_cases hl : l = i
      · rw [hj, hl]
      · subst hj
        exact h.inj j l o b e hd (old hl eb) db q'
    · by_cases hl : l = i
      · subst hl
        exact h.inj j l a o (old hj ea) da e hd q'
      · exact h.inj j l a b (old hj ea) da (old hl eb) db q'
  · have q' : upd c.L (c.ρ i) (.frz od x) a = some u := q
    by_cases z : a = c.ρ i
    · subst z
      rw [upd_same] at q' ⊢
      cases q'
      exact ⟨rfl, od, x, rfl⟩
    · rw [upd_ne z] at q' ⊢
      exact h.lkd a u q'
theorem RH.unlock (h : RH T c st H) (e : st[i]? = some (.lk o)) (hd : o ≠ .dead) (k : o.isLk = false) : ∃ od y, H (c.ρ i) = some (.frz od y) ∧ c.L (c.ρ i) = some (.frz od y) ∧ RO T c o (c.ρ i) y ∧ RH T (c.unlock (c.ρ i)) (st.set i o) (upd H (c.ρ i) y) := by
  have hi : i < st.length := (List.getElem?_eq_some_iff.mp e).1
  have old : ∀ {j : Nat} {a : Ob}, j ≠ i → (st.set i o)[j]? = some a → st[j]? = some a := fun {j a} hj q => by
    rw [List.getElem?_set_ne (Ne.symm hj)] at q
    exact q
  have self : ∀ {a : Ob}, (st.set i o)[i]? = some a → a = o := fun {a} q => by
    rw [List.getElem?_set_self hi] at q
    exact (Option.some.inj q).symm
  have ld : Ob.lk o ≠ .dead := fun z => nomatch z
  obtain ⟨y, h1, ⟨od, x, rfl, hl, r⟩, h3⟩ := h.act i _ e ld
  refine ⟨od, x, h1, hl, r, by show c.n = _; rw [h.n, List.length_set], fun a u q => ?_, fun j a q da => ?_, fun j l a b ea da eb db q => ?_, fun a u q => ?_, fun q hq => (h.tab q hq).mono (fun _ _ z => z) (tbl_upd (.inr ⟨_, h1, rfl⟩) ·), h.ntb⟩
  · have q' : c.F a = some u := q
    rw [upd_ne (fun z => by rw [z, h3] at q'; cases q')]
    exact h.sub a u q'
  · by_cases hj : j = i
    · subst hj
      cases self q
      exact ⟨x, upd_same, r.wL1 k, h3⟩
    · have q' := old hj q
      obtain ⟨z, k1, k2, k3⟩ := h.act j a q' da
      have ne : c.ρ j ≠ c.ρ i := fun w => hj (h.inj j i a _ q' da e ld w)
      refine ⟨z, ?_, k2.wL fun h' w => ?_, k3⟩
      · show upd H (c.ρ i) _ (c.ρ j) = _
        rw [upd_ne ne]
        exact k1
      · show (open Classical in if c.ρ j = c.ρ i then none else c.L (c.ρ j)) = _
        rw [if_neg ne]
        exact w
  · have q' : c.ρ j = c.ρ l := q
    by_cases hj : j = i
    · by_cases hl : l = i
      · rw [hj, hl]
      · subst hj
        exact h.inj j l _ b e ld (old hl eb) db q'
    · by_cases hl : l = i
      · subst hl
        exact h.inj j l a _ (old hj ea) da e ld q'
      · exact h.inj j l a b (old hj ea) da (old hl eb) db q'
  · have q' : (open Classical in if a = c.ρ i then none else c.L a) = some u := q
    by_cases z : a = c.ρ i
    · rw [if_pos z] at q'
      cases q'
    · rw [if_neg z] at q'
      rw [upd_ne z]
      exact h.lkd a u q'
end

section
variable {X : Cx}
end
section
variable {X : Cx} {T : Tb} {P : Pin} {Wx : WX} {e : Expr} {s : Stmt} {m md : ME} {ms : MS}
end

section
variable {X : Cx} {T : Tb} {P : Pin} {Wx : WX} {tg e : Expr} {m : ME}
theorem RpK.getV {κ : Type} {c : Cn} : ∀ {us : List (κ × U)} {vs : List (κ × V)} {i : Nat} {k : κ} {v : V}, RpK T c us vs → vs[i]? = some (k, v) → ∃ u, us[i]? = some (k, u)
  | _, _, _, _, _, .nil, e => by simp at e
  | _, _, 0, _, _, .cons r _, e => by simp at e; obtain ⟨rfl, rfl⟩ := e; exact ⟨_, rfl⟩
  | _, _, i + 1, k, v, .cons _ t, e => by
    obtain ⟨u, h1⟩ := RpK.getV (i := i) (k := k) (v := v) t (by simpa using e)
    exact ⟨u, by simpa using h1⟩
end
end NK

namespace NK
open PySem PySem.Spec PyProof.Rows L2 GenW
section
variable {prog : Program} {w : World} {A : Around} {R : GenEnd} {Y : Protocol} {n : Nat} {s₀ s : Shared} {fs : List Frame} {env : PySem.Env}
end
section
variable {X : Cx}
end
end NK

namespace NK
open PySem PySem.Spec PyProof.Rows L2
inductive GO where
  | next (ys : List U) (env : Env) (st : Sto)
  | ret (ys : List U) (st : Sto)
  | brk (ys : List U) (env : Env) (st : Sto)
  | cont (ys : List U) (env : Env) (st : Sto)
  | exc (x : Ex) (env : Env) (st : Sto)
  | bad
abbrev MGS := List U → Env → Sto → GO
def ResY (T : Tb) (P : Pin) (Wx : WX) (c : Cn) (r : GO) (D : GEnds) : Prop := match r with
  | .next ys env st => ∀ c' zs σ' H', Le c c' → RH T c' st H' → RE T P c' env σ' → RpL T c' ys zs → D.nx zs σ' H'
  | .ret ys st => ∀ c' zs H', Le c c' → RH T c' st H' → RpL T c' ys zs → D.rt zs .non H'
  | .brk ys env st => ∀ c' zs σ' H', Le c c' → RH T c' st H' → RE T P c' env σ' → RpL T c' ys zs → D.bk zs σ' H'
  | .cont ys env st => ∀ c' zs σ' H', Le c c' → RH T c' st H' → RE T P c' env σ' → RpL T c' ys zs → D.ct zs σ' H'
  | .exc x env st => ∀ c' cls d σ' H', Le c c' → RH T c' st H' → RE T P c' env σ' → RX T c' x cls d → Wx cls d σ' H'
  | .bad => False
theorem GS.imp {X : Cx} {s : Stmt} {t t' : TGn} (h : GS X s t) (k : ∀ D ys σ H, t' D ys σ H → t D ys σ H) : GS X s t' :=
  ⟨fun A S ip R n ys s₀ c fs K J gd lv s σ H D g hn kk hI ht => h.run A S ip R n ys s₀ c fs K J gd lv s σ H D g hn kk hI (k _ _ _ _ ht)⟩
theorem GSs.imp {X : Cx} {s : List Stmt} {t t' : TGn} (h : GSs X s t) (k : ∀ D ys σ H, t' D ys σ H → t D ys σ H) : GSs X s t' :=
  ⟨fun A S ip R n ys s₀ c fs K J gd lv s σ H D g hn kk hI ht => h.run A S ip R n ys s₀ c fs K J gd lv s σ H D g hn kk hI (k _ _ _ _ ht)⟩
section
variable {T : Tb} {P : Pin} {Wx : WX} {c c' : Cn} {r : GO} {D : GEnds}
theorem ResY.later (l : Le c c') (h : ResY T P Wx c r D) : ResY T P Wx c' r D := by
  cases r with
  | next ys env st => exact fun c2 zs σ' H' a b d e => h c2 zs σ' H' (l.trans a) b d e
  | ret ys st => exact fun c2 zs H' a b d => h c2 zs H' (l.trans a) b d
  | brk ys env st => exact fun c2 zs σ' H' a b d e => h c2 zs σ' H' (l.trans a) b d e
  | cont ys env st => exact fun c2 zs σ' H' a b d e => h c2 zs σ' H' (l.trans a) b d e
  | exc x env st => exact fun c2 cls d σ' H' a b e f => h c2 cls d σ' H' (l.trans a) b e f
  | bad => exact h
end
def GO.bind (r : GO) (k : MGS) : GO := match r with
  | .next ys env st => k ys env st
  | r => r
def gNil : MGS := fun ys env st => .next ys env st
section
variable {X : Cx} {T : Tb} {P : Pin} {Wx : WX} {s : Stmt} {rest : List Stmt} {e : Expr} {ma mb : MGS} {ms : MS} {m : ME} {pos yp : Pos}
end
abbrev MGF := List U → Sto → Out (List U)
section
variable {P : Program} {w : World} {K : PySem.W.Frag} {mg : Str → Option Value} {base : Heap} {T : Tb} {x qual : Str} {params : Arguments} {body : List Stmt} {scope : Scope} {dvs : List V} {kws : List (Str × V)} {f : Addr} {fd : FuncData} {N ps : List Str} {k : Nat} {mb : MGS}
end
section
variable {X : Cx} {T : Tb} {P : Pin} {Wx : WX} {k n : Nat} {f : Addr} {fd : FuncData} {ps : List Str} {mf : MGF} {dus : List U} {dvs : List V} {ds : List Value} {x : Str} {p p2 pos pos' : Pos} {e : Expr} {es : List Expr} {ma : MA}
end
end NK

namespace NK
open PySem PySem.Spec PyProof.Rows L2
section
variable {prog : Program} {w : World} {A : Around} {E : Value → Shared → Prop} {s : Shared} {K : PySem.W.Frag} {x C Lf f : Addr} {h₀ : Heap} {m : Str → Option Value} {ox : Obj} {od : Option Obj} {name : Str} {b tb : Value}
end
section
variable {X : Cx} {T : Tb}
end

section
variable {P : Program} {w : World} {K : PySem.W.Frag} {mg : Str → Option Value} {base : Heap} {T : Tb} {x qual pv : Str} {params : Arguments} {body : List Stmt} {scope : Scope} {dvs : List V} {kws : List (Str × V)} {f : Addr} {fd : FuncData} {N ps : List Str} {k : Nat} {mb : MS}
end
section
variable {X : Cx} {T : Tb} {P : Pin} {Wx : WX} {k kk n : Nat} {f : Addr} {mf : MF} {mn : Str} {o e : Expr} {es : List Expr} {mo : ME} {mas : MA} {pos apos : Pos}
end
end NK

namespace NK
open PySem PySem.Spec PyProof.Rows L2
section
variable {X : Cx} {T : Tb} {P : Pin} {Wx : WX} {o e : Expr} {mo me : ME} {ma : MA} {apos pos p2 : Pos}
end
end NK

namespace NK
open PySem PySem.Spec PyProof.Rows L2
section
variable {X : Cx} {T : Tb} {P : Pin} {Wx : WX} {o e : Expr} {mo me m : ME} {ma : MA} {apos pos p2 : Pos}
open Builtin Builtin.Str Builtin.Float in
open Builtin Builtin.Str Builtin.Float in
open Builtin Builtin.Str Builtin.Float in
inductive PJm (X : Cx) (T : Tb) (P : Pin) (Wx : WX) : List Expr → List ME → Prop where
  | nil : PJm X T P Wx [] []
  | cons {e : Expr} {m : ME} {es : List Expr} {ms : List ME} (h : PEm X T P Wx e m) (r : PJm X T P Wx es ms) : PJm X T P Wx (e :: es) (m :: ms)
end
end NK

namespace NK
open PySem PySem.Spec PyProof.Rows L2
section
variable {X : Cx} {T : Tb} {P : Pin} {Wx : WX} {e : Expr} {me : ME} {j : Nat} {sps spj pos : Pos}
end
end NK

namespace NK
open PySem L2
section
variable {X : Cx} {pins : List (Addr × Obj)} {σ : L2.St} {H : Hp} {s : Shared} {a b : Addr} {ks : List Key} {kvs : List (List Key × V)} {A : Around} {E : Value → Shared → Prop}
open PySem PySem.Spec PyProof.Rows in
open PySem PySem.Spec PyProof.Rows in
open PySem PySem.Spec PyProof.Rows in
end
section
variable {X : Cx} {T : Tb} {P : Pin} {Wx : WX} {o i : Expr} {mo mi : ME} {pos : Pos}
end
end NK

namespace NK
open PySem L2
end NK

namespace L2
open PySem PySem.Spec PyProof.Rows
inductive HdsAs (X : Cx) (n : Str) : List ExceptHandler → List (Value × (Addr → Value → Option Addr → TS)) → Prop
  | nil : HdsAs X n [] []
  | cons {x : Str} {c : Value} {ts : Addr → Value → Option Addr → TS} {b₀9 : Stmt} {suite9 : List Stmt} {np9 posp9 : Pos} {hds9 : List ExceptHandler} {l : List (Value × (Addr → Value → Option Addr → TS))} (hc9 : Names X x c)
      (hsu9 : ∀ (a9 : Addr) (oe9 : Obj) (cls9 : Value) (d9 : Option Addr) (pn9 : List (Addr × Obj)), Zc cls9 d9 oe9 → (∃ vs9, oe9.data = .fields vs9) → PSs (X.suite a9 ((a9, oe9) :: pn9)) (b₀9 :: suite9) (ts a9 cls9 d9)) (r : HdsAs X n hds9 l) :
      HdsAs X n (.ExceptHandler (some (.Name x np9)) (some n) (b₀9 :: suite9) posp9 :: hds9) ((c, ts) :: l)
section
variable {X : Cx} {n : Str} {i : Nat} {body : List Stmt} {h₀ : ExceptHandler} {hds9 : List ExceptHandler} {l : List (Value × (Addr → Value → Option Addr → TS))} {pos : Pos} {tb : WX → TS} {Wout : WX}
end
end L2
namespace NK
open PySem L2
section
variable {X : Cx} {T : Tb} {P : Pin} {Wx : WX}
end
end NK

namespace NK
open PySem L2 LamX
def FnO (f : Addr) (ob : Obj) : HO := .ext fun h => h.get? f = some ob
structure LamD where
  params : Arguments
  body : Expr
  scope : Scope
def LamD.obj (X : Cx) (d : LamD) (pm : Value) (k : Addr) (ctv : Value) : Obj := PySem.W.kla_obj "<lambda>" (X.env.qual ++ "<lambda>") d.params d.body d.scope (cloFrom X.env.cells d.scope.names []) pm k ctv
section
variable {X : Cx} {pins : List (Addr × Obj)} {σ : L2.St} {H : Hp} {s : Shared}
open PySem PySem.Spec PyProof.Rows in
end
section
variable {T : Tb} {c : Cn} {st : Sto} {H H1 : Hp} {P k : Addr} {q : Str}
theorem RH.other (h : RH T c st H) {b : Addr} {o x : HO} (hb : H b = some o) (ko : isTbl o = false) (hf : c.F b = none) (hl : ∀ od y, o ≠ .frz od y) (ha : ∀ i a, st[i]? = some a → a ≠ .dead → c.ρ i ≠ b) : RH T c st (upd H b x) :=
  ⟨h.n, fun a u e => by rw [upd_ne (fun z => by rw [z, hf] at e; cases e)]; exact h.sub a u e, fun i a e d => by
    obtain ⟨y, h1, h2, h3⟩ := h.act i a e d
    exact ⟨y, by rw [upd_ne (ha i a e d)]; exact h1, h2, h3⟩, h.inj, fun a u e => by
    obtain ⟨e1, od, y, e2⟩ := h.lkd a u e
    refine ⟨?_, od, y, e2⟩
    rw [upd_ne (fun z => by rw [z, hb] at e1; cases e1; exact hl od y e2)]
    exact e1, fun p hp => (h.tab p hp).mono (fun _ _ z => z) (tbl_upd (.inr ⟨o, hb, ko⟩) ·), h.ntb⟩
def Cn.fix (c : Cn) (b : Addr) (x : HO) : Cn := { c with F := upd c.F b x }
theorem le_fix {b : Addr} {x : HO} (hf : c.F b = none) : Le c (c.fix b x) := ⟨Nat.le_refl _, fun _ _ => rfl, fun a u e => by
  show upd c.F b x a = _
  rw [upd_ne (fun z => by rw [z, hf] at e; cases e)]
  exact e, fun _ _ e => e⟩
theorem RH.fix (h : RH T c st H) {b : Addr} {x : HO} (hb : H b = some x) (ko : isTbl x = false) (hf : c.F b = none) (ha : ∀ i a, st[i]? = some a → a ≠ .dead → c.ρ i ≠ b) : RH T (c.fix b x) st H := by
  have l := le_fix (x := x) hf
  refine ⟨h.n, fun a u e => ?_, fun i a e d => ?_, h.inj, h.lkd, fun p hp => (h.tab p hp).mono l.F (fun _ z => z), fun a u e => ?_⟩
  · have e1 : upd c.F b x a = some u := e
    by_cases z : a = b
    · rw [z, upd_same] at e1
      rw [z, ← e1]
      exact hb
    · rw [upd_ne z] at e1
      exact h.sub a u e1
  · obtain ⟨y, h1, h2, h3⟩ := h.act i a e d
    refine ⟨y, h1, h2.mono l, ?_⟩
    show upd c.F b x (c.ρ i) = _
    rw [upd_ne (ha i a e d)]
    exact h3
  · have e1 : upd c.F b x a = some u := e
    by_cases z : a = b
    · rw [z, upd_same] at e1
      cases e1
      exact ko
    · rw [upd_ne z] at e1
      exact h.ntb a u e1
end
end NK

namespace NK
open PySem L2 LamX
structure LamOk (X : Cx) (T : Tb) (n : Nat) (d : LamD) (m : ME) : Prop where
  L : LamS X.env.scope d.scope
  bind : ∀ (q : Str) (cl : List (Str × Addr)) (pm cv ctv : Value), bindArgs (PySem.W.kla_fn "<lambda>" q d.params d.body d.scope cl pm cv ctv) ⟨[], []⟩ = pure []
  body : ∀ (A : Around) (outer : List PySem.Env) (s : Shared) (H : Hp) (E : XK) (f k : Addr), Room n (A.deeper (lamEnv X d.scope s.heap.objs.size f k)) → PEm (lamCx X A outer s H E d.scope f k) T none (fun cls dd _ H => E cls dd H) d.body m
section
variable {X : Cx} {T : Tb} {Wx : WX}
open PySem PySem.Spec PyProof.Rows in
end
end NK

namespace NK
open PySem L2 LamX
inductive AppsOk (X : Cx) (t : LamD → TS) (tail : List Stmt) : List Stmt → List LamD → Prop
  | nil : AppsOk X t tail tail []
  | cons {s : Stmt} {ss : List Stmt} {d : LamD} {ds : List LamD} : PS X s (t d) → AppsOk X t tail ss ds → AppsOk X t tail (s :: ss) (d :: ds)
def FnAt (X : Cx) (c : Cn) (f : Addr) (d : LamD) : Prop := ∃ k pm ctv, c.F f = some (FnO f (d.obj X pm k ctv)) ∧ c.F k = some (CodeO k (X.env.qual ++ "<lambda>"))
theorem FnAt.mono {X : Cx} {c c' : Cn} (l : Le c c') {f : Addr} {d : LamD} (h : FnAt X c f d) : FnAt X c' f d := let ⟨k, pm, ctv, e1, e2⟩ := h; ⟨k, pm, ctv, l.F _ _ e1, l.F _ _ e2⟩
theorem All2.snoc {α β : Type} {R : α → β → Prop} : ∀ {as : List α} {bs : List β} {a : α} {b : β}, All2 R as bs → R a b → All2 R (as ++ [a]) (bs ++ [b])
  | _, _, _, _, .nil, h => .cons h .nil
  | _, _, _, _, .cons g t, h => .cons g (All2.snoc t h)
theorem All2.at_ {α β : Type} {R : α → β → Prop} : ∀ {as : List α} {bs : List β} {i : Nat} {a : α}, All2 R as bs → as[i]? = some a → ∃ b, bs[i]? = some b ∧ R a b
  | _, _, _, _, .nil, h => by simp at h
  | _, _, 0, _, .cons g _, h => by simp at h; subst h; exact ⟨_, rfl, g⟩
  | _, _, i + 1, a, .cons _ t, h => by
    obtain ⟨b, h1, h2⟩ := All2.at_ (i := i) (a := a) t (by simpa using h)
    exact ⟨b, by simpa using h1, h2⟩
section
variable {X : Cx} {T : Tb} {il ic : Nat} {P : Addr}
end
section
variable {X : Cx} {T : Tb} {Wx : WX} {il ic : Nat}
end
end NK

namespace NK
open PySem L2 LamX
section
variable {lam a : ME} {b : Ex → ME} {isK : List Bool} {i ic : Nat} {env env1 : Env} {st st1 : Sto}
end
section
variable {X : Cx} {T : Tb} {Wx : WX} {il ic i k : Nat} {P C : Addr}
end
end NK

namespace NK
open PySem L2 LamX
section
variable {X : Cx} {T : Tb} {Wx : WX} {il ic i k : Nat} {P C : Addr}
end
section
variable {P : Program} {w : World} {K : PySem.W.Frag} {mg : Str → Option Value} {base : Heap} {T : Tb} {x qual : Str} {params : Arguments} {body : List Stmt} {scope : Scope} {dvs : List V} {kws : List (Str × V)} {f cd : Addr} {fd : FuncData} {N ps : List Str} {k : Nat} {mb : MS}
open PyProof.Rows (envOfC) in
end
end NK

namespace NK
open PySem L2

section
variable {X : Cx} {T : Tb} {P : Pin} {Wx : WX} {mb : MS} {pos : Pos}
end

section
variable {X : Cx} {T : Tb} {P : Pin} {Wx : WX} {o e : Expr} {mo : ME} {apos cpos : Pos}
end

end NK

namespace NK
open PySem L2
open PySem.Spec PyProof.Rows

section
variable {X : Cx} {T : Tb} {P : Pin} {Wx : WX} {kk k n : Nat} {f C : Addr} {mf : MF} {x : Str} {e : Expr} {es : List Expr} {mas : MA} {p pos : Pos} {sp : Sp}
end

structure Mk0 (K : PySem.W.Frag) (C : Addr) : Prop where
  makes : PySem.W.makesIn K C = true
  init : PySem.W.findIn K (.ref C) "__init__" = some (some (.builtin "object.__init__"))
  kp : PySem.W.keepIn K (.ref C) = true
section
variable {X : Cx} {T : Tb} {P : Pin} {Wx : WX} {k : Nat} {C : Addr} {x : Str} {p pos : Pos}
end

theorem PK.imp {X : Cx} {e : List Keyword} {t t' : TA} (h : PK X e t) (k : ∀ σ H Q, t' σ H Q → t σ H Q) : PK X e t' := ⟨fun pos pins s σ H Q I q => h.run pos pins s σ H Q I (k σ H Q q)⟩
section
variable {X : Cx} {T : Tb} {P : Pin} {Wx : WX} {kk k n np nk : Nat} {f C : Addr} {fd : FuncData} {ps ks : List Str} {mf : MF} {x : Str} {e : Expr} {es : List Expr} {kws : List Keyword} {m mas mks : MA} {me : ME} {p pos kpos : Pos} {sp : Sp} {nm : Option Str}
  {g : List Value → List Value → List Value} {gV : List V → List V → List V} {gU : List U → List U → List U}
end
end NK

namespace NK
open PySem L2
open PySem.Spec PyProof.Rows
open PySem.SeqAt AutoSeq1 MeetsSeq MeetsSeq2 MeetsSeq3 SeqRoads2

section
variable {prog : Program} {w : World} {A : Around} {R : Result → Shared → Prop}
end
section
variable {prog : Program} {w : World} {A : Around} {E : Value → Shared → Prop} {s : Shared}
end

mutual
def apart (l : IsL) : U → U → Bool
  | .int i, .int j => decide (i ≠ j)
  | .str i, .str j => decide (i ≠ j)
  | .bl i, .bl j => decide (i ≠ j)
  | .non, .non => false
  | .non, .int _ => true
  | .non, .str _ => true
  | .int _, .non => true
  | .str _, .non => true
  | .int _, .str _ => true
  | .str _, .int _ => true
  | .tup us, .tup ws => apartL l us ws
  | .ins k us, .ins k' ws => if k = k' then apartL l us ws else l.lookup (.o k, .o k) == some true && l.lookup (.o k', .o k) == some false
  | _, _ => false
def apartL (l : IsL) : List U → List U → Bool
  | [], [] => false
  | [], _ :: _ => true
  | _ :: _, [] => true
  | u :: us, w :: ws => apart l u w || apartL l us ws
end
theorem relV_fun {x y : V} {u : Value} (h : RelV x u) (h' : RelV y u) : x = y := by
  cases x with
  | non => cases (show u = Value.none from h); cases y <;> first | rfl | (obtain ⟨_, e⟩ := h'; cases e; done) | (cases h'; done)
  | bl b => cases (show u = Value.bool b from h); cases y <;> first | (obtain ⟨_, e⟩ := h'; cases e; done) | (cases h'; done) | (cases h'; rfl)
  | int i => obtain ⟨t, rfl⟩ := h; cases y <;> first | (obtain ⟨_, e⟩ := h'; cases e; done) | (obtain ⟨_, e⟩ := h'; cases e; rfl) | (cases h'; done)
  | str i => obtain ⟨t, rfl⟩ := h; cases y <;> first | (obtain ⟨_, e⟩ := h'; cases e; done) | (obtain ⟨_, e⟩ := h'; cases e; rfl) | (cases h'; done)
  | byt i => obtain ⟨t, rfl⟩ := h; cases y <;> first | (obtain ⟨_, e⟩ := h'; cases e; done) | (obtain ⟨_, e⟩ := h'; cases e; rfl) | (cases h'; done)
  | flt i => obtain ⟨t, rfl⟩ := h; cases y <;> first | (obtain ⟨_, e⟩ := h'; cases e; done) | (obtain ⟨_, e⟩ := h'; cases e; rfl) | (cases h'; done)
  | ref a => cases (show u = Value.ref a from h); cases y <;> first | (obtain ⟨_, e⟩ := h'; cases e; done) | (cases h'; done) | (cases h'; rfl)
  | ty n => cases (show u = Value.type n from h); cases y <;> first | (obtain ⟨_, e⟩ := h'; cases e; done) | (cases h'; done) | (cases h'; rfl)
theorem vals_fun : ∀ {xs ys : List V} {us : List Value}, Vals xs us → Vals ys us → xs = ys
  | _, _, _, .nil, .nil => rfl
  | _, _, _, .cons a b, .cons c d => by rw [relV_fun a c, vals_fun b d]
theorem zip_fun : ∀ {ns : List Str} {vs ws : List V}, vs.length ≤ ns.length → ws.length ≤ ns.length → ns.zip vs = ns.zip ws → vs = ws
  | _, [], [], _, _, _ => rfl
  | _ :: _, [], _ :: _, _, _, e => by simp at e
  | _ :: _, _ :: _, [], _, _, e => by simp at e
  | [], _ :: _, _, h, _, _ => by simp at h
  | [], [], _ :: _, _, h, _ => by simp at h
  | n :: ns, v :: vs, w :: ws, h, h', e => by
    simp only [List.zip_cons_cons, List.cons.injEq, Prod.mk.injEq, true_and] at e
    rw [e.1, zip_fun (by simpa using h) (by simpa using h') e.2]
section
variable {X : Cx} {T : Tb} {l : IsL} {c : Cn} {st : Sto} {H : Hp} {pins : List (Addr × Obj)} {σ : L2.St} {s : Shared}
mutual
theorem apart_ne (I : Inv X pins σ H s) (hK : X.K = T.K) (ok : IsOk T l) (hH : RH T c st H) : ∀ {u w : U} {x : V}, apart l u w = true → Rp T c u x → Rp T c w x → False
  | .int i, .int j, x, e, r, r' => by cases r.inv_int; cases r'.inv_int; simp [apart] at e
  | .str i, .str j, x, e, r, r' => by cases r.inv_str; cases r'.inv_str; simp [apart] at e
  | .bl i, .bl j, x, e, r, r' => by cases r.inv_bl; cases r'.inv_bl; simp [apart] at e
  | .non, .int _, x, e, r, r' => by cases r.inv_non; cases r'.inv_int
  | .non, .str _, x, e, r, r' => by cases r.inv_non; cases r'.inv_str
  | .int _, .non, x, e, r, r' => by cases r'.inv_non; cases r.inv_int
  | .str _, .non, x, e, r, r' => by cases r'.inv_non; cases r.inv_str
  | .int _, .str _, x, e, r, r' => by cases r'.inv_str; cases r.inv_int
  | .str _, .int _, x, e, r, r' => by cases r.inv_str; cases r'.inv_int
  | .tup us, .tup ws, x, e, r, r' => by
    obtain ⟨a, vs, rfl, h1, h2⟩ := r.inv_tup
    obtain ⟨b, zs, eb, h3, h4⟩ := r'.inv_tup
    cases eb
    obtain ⟨its, q1, t1, _⟩ := I.tuple (by rw [hK]; exact sqT_up hH h1)
    obtain ⟨its2, q2, t2, _⟩ := I.tuple (by rw [hK]; exact sqT_up hH h3)
    obtain ⟨o, ho, _, n, hd⟩ := t1
    obtain ⟨o', ho', _, n', hd'⟩ := t2
    rw [ho] at ho'
    cases ho'
    rw [hd] at hd'
    injection hd' with hd1 _
    have hd2 : its = its2 := by simpa using hd1
    subst hd2
    cases vals_fun q1 q2
    exact apartL_ne I hK ok hH e h2 h4
  | .ins k us, .ins k' ws, x, e, r, r' => by
    obtain ⟨a, dx, vs, rfl, h1, h2, h3⟩ := r.inv_ins
    obtain ⟨b, dy, zs, eb, h4, h5, h6⟩ := r'.inv_ins
    cases eb
    rw [h1] at h4
    simp only [Option.some.injEq, HO.ins.injEq] at h4
    obtain ⟨ec, _, ez⟩ := h4
    unfold apart at e
    split at e
    · rename_i hk
      subst hk
      cases zip_fun h2 h5 ez
      exact apartL_ne I hK ok hH e h3 h6
    · rename_i hk
      simp only [Bool.and_eq_true, beq_iff_eq] at e
      obtain ⟨_, q1⟩ := ok _ (mem_lookup e.1)
      obtain ⟨_, q2⟩ := ok _ (mem_lookup e.2)
      have q1' : PySem.W.kitOne T.K (.ref (T.cls k)) (.ref (T.cls k)) = some true := q1
      have q2' : PySem.W.kitOne T.K (.ref (T.cls k')) (.ref (T.cls k)) = some false := q2
      rw [← ec, q1'] at q2'
      cases q2'
theorem apartL_ne (I : Inv X pins σ H s) (hK : X.K = T.K) (ok : IsOk T l) (hH : RH T c st H) : ∀ {us ws : List U} {xs : List V}, apartL l us ws = true → RpL T c us xs → RpL T c ws xs → False
  | [], [], _, e, _, _ => by simp [apartL] at e
  | [], _ :: _, _, _, r, r' => by cases r.inv_nil; cases r'
  | _ :: _, [], _, _, r, r' => by cases r'.inv_nil; cases r
  | u :: us, w :: ws, _, e, r, r' => by
    obtain ⟨v, vs, rfl, h1, h2⟩ := r.inv_cons
    obtain ⟨v', vs', e', h3, h4⟩ := r'.inv_cons
    cases e'
    unfold apartL at e
    rcases Bool.or_eq_true_iff.mp e with e | e
    · exact apart_ne I hK ok hH e h1 h3
    · exact apartL_ne I hK ok hH e h2 h4
end
end

def EqN (X : Cx) (T : Tb) (n : Nat) (f : U → U → Sto → Out Bool) : Prop :=
  ∀ (A : Around) (pins : List (Addr × Obj)) (s : Shared) (σ : L2.St) (H : Hp) (c : Cn) (st st' : Sto) (u w : U) (x y : V) (p q : Value) (b : Bool), Sub X n A → Inv X pins σ H s → RelV x p → RelV y q → RH T c st H → Rp T c u x → Rp T c w y → f u w st = .ok b st' →
    wpAny (model X.prog X.w) A (eqBool p q) (fun r s' => r = b ∧ ∃ c' H', Le c c' ∧ RH T c' st' H' ∧ Inv X pins σ H' s') X.xe s
def RcN (X : Cx) (T : Tb) (n : Nat) (f : U → U → Sto → Out Bool) : Prop :=
  ∀ (A : Around) (pins : List (Addr × Obj)) (s : Shared) (σ : L2.St) (H : Hp) (c : Cn) (st st' : Sto) (u w : U) (x y : V) (p q : Value) (b : Bool), Sub X n A → Inv X pins σ H s → RelV x p → RelV y q → RH T c st H → Rp T c u x → Rp T c w y → f u w st = .ok b st' →
    wpAny (model X.prog X.w) A (richCompare .Eq p q) (fun r s' => r = .bool b ∧ ∃ c' H', Le c c' ∧ RH T c' st' H' ∧ Inv X pins σ H' s') X.xe s
section
variable {X : Cx} {T : Tb} {l : IsL} {n m : Nat} {f g : U → U → Sto → Out Bool}
theorem EqN.mono (h : EqN X T n f) (hn : n ≤ m) : EqN X T m f := fun A pins s σ H c st st' u w x y p q b sb => h A pins s σ H c st st' u w x y p q b (sb.mono hn)
theorem RcN.mono (h : RcN X T n f) (hn : n ≤ m) : RcN X T m f := fun A pins s σ H c st st' u w x y p q b sb => h A pins s σ H c st st' u w x y p q b (sb.mono hn)
def altB (k : U → Sto → Bool) (f g : U → U → Sto → Out Bool) : U → U → Sto → Out Bool := fun u w st => if k u st = true then f u w st else g u w st
theorem RcN.alt {k : U → Sto → Bool} (h : RcN X T n f) (h' : RcN X T n g) : RcN X T n (altB k f g) := fun A pins s σ H c st st' u w x y p q b sb I rx ry hH r1 r2 e => by
  unfold altB at e
  split at e
  · exact h A pins s σ H c st st' u w x y p q b sb I rx ry hH r1 r2 e
  · exact h' A pins s σ H c st st' u w x y p q b sb I rx ry hH r1 r2 e
end
end NK

namespace NK
open PySem L2
open PySem.Spec PyProof.Rows

section
variable {X : Cx} {T : Tb}
theorem CallR.or {g : Value} {r r' : List V → Hp → VK → Prop} (h : CallR X g r) (h' : CallR X g r') : CallR X g (fun xs H Q => r xs H Q ∨ r' xs H Q) := fun pins s σ H xs us Q I rx q => q.elim (h pins s σ H xs us Q I rx) (h' pins s σ H xs us Q I rx)
def altC (p : List U → Sto → Bool) (f g : List U → Sto → Out U) : List U → Sto → Out U := fun us st => if p us st = true then f us st else g us st
theorem sim_altC {p : List U → Sto → Bool} {r r' : List V → Hp → VK → Prop} {f g : List U → Sto → Out U} (h : CallSim T r f) (h' : CallSim T r' g) : CallSim T (fun xs H Q => r xs H Q ∨ r' xs H Q) (altC p f g) := fun Wx c σ st H us xs Q hH rx hR => by
  unfold altC at hR
  split at hR
  · exact .inl (h Wx c σ st H us xs Q hH rx hR)
  · exact .inr (h' Wx c σ st H us xs Q hH rx hR)
theorem OpR.or {g : Value → Value → Sem Value} {r r' : R2} (h : OpR X g r) (h' : OpR X g r') : OpR X g (fun x y H Q => r x y H Q ∨ r' x y H Q) := fun pins s σ H x y v u Q I rx ry q => q.elim (h pins s σ H x y v u Q I rx ry) (h' pins s σ H x y v u Q I rx ry)
def altO (p : U → U → Sto → Bool) (f g : U → U → Sto → Out U) : U → U → Sto → Out U := fun u w st => if p u w st = true then f u w st else g u w st
theorem sim_altO {p : U → U → Sto → Bool} {r r' : R2} {f g : U → U → Sto → Out U} (h : OpSim T r f) (h' : OpSim T r' g) : OpSim T (fun x y H Q => r x y H Q ∨ r' x y H Q) (altO p f g) := fun Wx c σ st H u w x y Q hH r1 r2 hR => by
  unfold altO at hR
  split at hR
  · exact .inl (h Wx c σ st H u w x y Q hH r1 r2 hR)
  · exact .inr (h' Wx c σ st H u w x y Q hH r1 r2 hR)
end

section
variable {X : Cx} {T : Tb}
end

section
variable {X : Cx} {T : Tb} {P : Pin} {Wx : WX} {e : Expr} {m : ME} {f x : Str} {pos p : Pos}
structure ConOk (T : Tb) (k : Nat) (f : Str) (u : U) : Prop where
  cl : Cls T.K (T.cls k)
  con : ∃ v u0, Con T.K (T.cls k) f v u0 ∧ ∀ c, Rp T c u v
  nf : f ∉ T.fld k
theorem RpL.reverse {T : Tb} {c : Cn} : ∀ {us : List U} {vs : List V}, RpL T c us vs → RpL T c us.reverse vs.reverse
  | _, _, .nil => .nil
  | _, _, .cons r t => by
    rw [List.reverse_cons, List.reverse_cons]
    exact (RpL.reverse t).append (.one r)
end

end NK

namespace NK
open PySem L2
open PySem.Spec PyProof.Rows
def OpF (X : Cx) (T : Tb) (g : Value → Value → Sem Value) (f : U → U → Sto → Out U) : Prop := ∃ r, OpR X g r ∧ OpSim T r f
def CallF (X : Cx) (T : Tb) (g : Value) (f : List U → Sto → Out U) : Prop := ∃ r, CallR X g r ∧ CallSim T r f
section
variable {X : Cx} {T : Tb} {P : Pin} {Wx : WX} {a b : Expr} {ma mb : ME} {pos : Pos}
theorem OpF.alt {g : Value → Value → Sem Value} {p : U → U → Sto → Bool} {f f' : U → U → Sto → Out U} (h : OpF X T g f) (h' : OpF X T g f') : OpF X T g (altO p f f') :=
  let ⟨_, o, s⟩ := h
  let ⟨_, o', s'⟩ := h'
  ⟨_, OpR.or o o', sim_altO s s'⟩
theorem CallF.alt {g : Value} {p : List U → Sto → Bool} {f f' : List U → Sto → Out U} (h : CallF X T g f) (h' : CallF X T g f') : CallF X T g (altC p f f') :=
  let ⟨_, o, s⟩ := h
  let ⟨_, o', s'⟩ := h'
  ⟨_, CallR.or o o', sim_altC s s'⟩
end
end NK

set_option maxHeartbeats 4000000
namespace NK
open PySem L2
section
variable {X : Cx} {T : Tb} {P : Pin} {Wx : WX} {e : Expr} {mo a b me : ME}
inductive GN (P : Pin) : List Nat → TGs → Prop
  | nil : GN P [] L2.gNil
  | cons {i : Nat} {is : List Nat} {t : TGs} : pinned P i = false → GN P is t → GN P (i :: is) (gCons (gName i) t)
theorem GN.run {is : List Nat} {t : TGs} (h : GN P is t) : ∀ {c : Cn} {env env' : Env} {σ : L2.St} {H : Hp} {us : List U} {vs : List V} {Q : L2.St → Hp → Prop}, RE T P c env σ → RpL T c us vs → setAll is us env = some env' → (∀ σ', RE T P c env' σ' → Q σ' H) → t vs σ H Q := by
  induction h with
  | nil =>
    intro c env env' σ H us vs Q hE r e k
    cases us with
    | nil =>
      cases e
      cases r
      exact ⟨rfl, k _ hE⟩
    | cons _ _ => cases e
  | @cons i is t hp b ih =>
    intro c env env' σ H us vs Q hE r e k
    cases us with
    | nil => cases e
    | cons u us =>
      obtain ⟨v, vs', rfl, r1, r2⟩ := r.inv_cons
      exact ⟨v, vs', rfl, ih (hE.set r1 i hp) r2 e k⟩
variable {o : Expr} {apos pos : Pos}
end
end NK

set_option maxHeartbeats 2000000
namespace NK
open PySem L2 He
def nsOf (g : Addr → Option Obj) (C : Addr) : List Addr := match g C with
  | some ⟨_, _, .cls cd, _⟩ => [cd.ns]
  | _ => []
def fnRefs (g : Addr → Option Obj) (f : Addr) : List Addr := match g f with
  | some ⟨_, _, .func fd, _⟩ => refV fd.code ++ refV fd.defaults ++ refV fd.kwdefaults ++ fd.closure.map (·.2)
  | _ => []
def kwA (K : PySem.W.Frag) (p : Str × Option Str) (x : Str) : Addr := match K.lookup (fAd K p) with
  | some ⟨_, _, .func fd, _⟩ => (match fd.kwdefaults with
    | .ref D => (match PySem.W.nsIn K D x with
      | some (some (.ref a)) => a
      | _ => 0)
    | _ => 0)
  | _ => 0
def asA (g : Addr → Option Obj) (cs : List Str) : List Addr := mainGlobals :: cStatics :: cs.map (ga (frG g [mainGlobals]))
def asB (g : Addr → Option Obj) (A : List Addr) : List Addr := A ++ A.flatMap (nsOf g)
def asC (g : Addr → Option Obj) (A F T : List Addr) : List Addr := A ++ F ++ F.flatMap (fnRefs g) ++ T
def asN (cs : List Str) (fs : List (Str × Option Str)) (ts : List Str) (kw : List ((Str × Option Str) × Str)) (dt : List (Str × Option Str)) (g : Addr → Option Obj) : List Addr :=
  (fun A => (fun B => B ++ kw.map (fun p => kwA (frG g B) p.1 p.2) ++ dt.flatMap (fun p => [dflAt p 0 (frG g B), dflAt p 1 (frG g B)])) (asC g A (fs.map (fAd (frG g A))) (ts.map (ga (frG g [mainGlobals]))))) (asB g (asA g cs))
def dfI (K : PySem.W.Frag) (v : Value) : Option (List Value) := match v with
  | .none => none
  | .ref D => (match K.lookup D with
    | some ⟨_, _, .seq its _, _⟩ => some its.toList
    | _ => some [.bool true])
  | _ => some [.bool true]
def xdf (d : DefD) : Option (List Value) := match d.dfl with
  | [] => none
  | _ => some [.none]
abbrev XiW : Type := Option (Str × Str × Arguments × FuncBody × Scope × Addr × List Str × Addr × Option (List Value))
def xiW (K : PySem.W.Frag) (p : Str × Option Str) : XiW := match K.lookup (fAd K p) with
  | some ⟨_, _, .func fd, _⟩ => some (fd.name, fd.qualname, fd.params, fd.body, fd.scope, fd.globals, fd.closure.map (fun z => z.1), fd.builtins, dfI K fd.defaults)
  | _ => none
def xiV (d : DefD) : XiW := some (d.name, d.qual, d.params, FuncBody.stmts d.body, d.scope, mainGlobals, [("__class__" : Str)], builtinsNs, xdf d)
def ccA (K : PySem.W.Frag) (p : Str × Option Str) : Addr := match K.lookup (fAd K p) with
  | some ⟨_, _, .func fd, _⟩ => (match fd.closure with
    | (_, c) :: _ => c
    | _ => 0)
  | _ => 0
def xiB (K : PySem.W.Frag) (d : DefD) (file : Str) : Bool := (match K.lookup (fAd K d.at_) with
  | some ⟨_, _, .func fd, _⟩ => PySem.W.codeIn K fd.code d.qual
  | _ => false) && ((match K.lookup (codeOf K d.at_) with
  | some ⟨_, _, .fields vs, _⟩ => (match (vs[2]? : Option Value) with
    | some (Value.str f _) => decide (f = file)
    | _ => false)
  | _ => false) && (match K.lookup (ccA K d.at_) with
  | some ⟨_, _, .cell (some (.ref C)), _⟩ => decide (C = ga K d.at_.1)
  | _ => false))
theorem xiB_ok {K : PySem.W.Frag} {d : DefD} {file : Str} (e : xiW K d.at_ = xiV d) (h : xiB K d file = true) :
    (∃ fd, (∃ (oc : Value) (od : Option Addr) (osl : Array (Option Value)) (dV kV doc pm : Value) (an : Option Addr) (ct : Value), dfI K dV = xdf d ∧ fd = PySem.W.ksFn d.name d.qual d.params d.body d.scope dV kV doc pm an (.ref (codeOf K d.at_)) ct (ccA K d.at_) ∧ K.lookup (fAd K d.at_) = some ⟨oc, od, .func fd, osl⟩ ∧ PySem.W.codeIn K (.ref (codeOf K d.at_)) d.qual = true)) ∧
    (∃ ccl cdd vs ccs tf, K.lookup (codeOf K d.at_) = some ⟨ccl, cdd, .fields vs, ccs⟩ ∧ vs[2]? = some (.str file tf)) ∧ (∃ cl cld csl, K.lookup (ccA K d.at_) = some ⟨cl, cld, .cell (some (.ref (ga K d.at_.1))), csl⟩) := by
  obtain ⟨h1, h2⟩ := ba h
  obtain ⟨h3, h4⟩ := ba h2
  refine ⟨?_, ?_, ?_⟩
  · unfold xiW at e
    cases q : K.lookup (fAd K d.at_) with
    | none =>
      rw [q] at h1
      cases h1
    | some o =>
      obtain ⟨oc, od, dt, osl⟩ := o
      have q0 := q
      rw [q] at h1 e
      cases dt with
      | func fd =>
        have h1' : PySem.W.codeIn K fd.code d.qual = true := h1
        obtain ⟨c, ec⟩ := codeIn_ref h1'
        have e1 : codeOf K d.at_ = c := codeOf_eq q ec
        have e3 : ccA K d.at_ = (match fd.closure with
          | (_, c) :: _ => c
          | _ => 0) := by
          unfold ccA
          rw [q]
        obtain ⟨n1, n2, n3, n4, n5, n6, n7, n8, n9, n10, n11, n12, n13, n14, n15⟩ := fd
        have e2 : (some (n1, n2, n3, n4, n5, n6, n7.map (fun z => z.1), n15, dfI K n8) : XiW) = some (d.name, d.qual, d.params, FuncBody.stmts d.body, d.scope, mainGlobals, [("__class__" : Str)], builtinsNs, xdf d) := e
        simp only [Option.some.injEq, Prod.mk.injEq] at e2
        obtain ⟨g1, g2, g3, g4, g5, g6, g7, g8, g0⟩ := e2
        cases n7 with
        | nil => cases g7
        | cons p r =>
          obtain ⟨z, cc⟩ := p
          cases r with
          | cons _ _ => cases g7
          | nil =>
            have g9 : z = ("__class__" : Str) := by
              injection g7
            have e4 : ccA K d.at_ = cc := e3
            have ec' : n13 = .ref c := ec
            subst g1 g2 g3 g4 g5 g6 g8 g9
            rw [e1, e4]
            refine ⟨_, oc, od, osl, n8, n9, n10, n11, n12, n14, g0, rfl, ?_, ?_⟩
            · rw [← ec']
            · rw [← ec]
              exact h1'
      | _ => cases h1
  · cases q : K.lookup (codeOf K d.at_) with
    | none =>
      rw [q] at h3
      cases h3
    | some o =>
      obtain ⟨oc, od, dt, osl⟩ := o
      rw [q] at h3
      cases dt with
      | fields vs =>
        have h3' : (match (vs[2]? : Option Value) with
          | some (Value.str f _) => decide (f = file)
          | _ => false) = true := h3
        split at h3'
        · rename_i f t q2
          rw [of_decide_eq_true h3'] at q2
          exact ⟨_, _, vs, _, t, rfl, q2⟩
        · cases h3'
      | _ => cases h3
  · cases q : K.lookup (ccA K d.at_) with
    | none =>
      rw [q] at h4
      cases h4
    | some o =>
      obtain ⟨oc, od, dt, osl⟩ := o
      rw [q] at h4
      cases dt with
      | cell v =>
        cases v with
        | none => cases h4
        | some v =>
          cases v with
          | ref C =>
            have h5 : C = ga K d.at_.1 := of_decide_eq_true h4
            rw [← h5]
            exact ⟨_, _, _, rfl⟩
          | _ => cases h4
      | _ => cases h4
def oexB (K : PySem.W.Frag) (C : Addr) : Bool := match K.lookup C with
  | some ⟨.type "type", _, .cls cd, sl⟩ => (match cd.mro, sl.toList with
    | .ref C' :: bm, [_, _, _, _, some (.builtin n), _] => C' == C && n == "ValueError.__new__" && !cd.hasDel && cd.hasDict && PySem.HandSPX.refsVE bm
    | _, _ => false)
  | _ => false
theorem oexB_ok {K : PySem.W.Frag} {C : Addr} (q : oexB K C = true) : ∃ nm q N bs bm sn sub ab col dd k0 k1 k2 k3 k5, K.lookup C = some (excClassObj nm q C N bs bm true sn sub ab col dd k0 k1 k2 k3 k5 "ValueError.__new__") ∧ PySem.HandSPX.refsVE bm = true := by
  unfold oexB at q
  split at q
  · rename_i dd cd sl ho
    split at q
    · rename_i C' bm k0 k1 k2 k3 n k5 hm hs
      simp only [Bool.and_eq_true, beq_iff_eq, Bool.not_eq_true'] at q
      obtain ⟨⟨⟨⟨rfl, rfl⟩, hdel⟩, hd⟩, ht⟩ := q
      obtain ⟨nm, bs, mro, ns, qn, hd2, sn, sub, ab, col, del⟩ := cd
      dsimp only at hm hdel hd
      subst hm hdel hd
      have hsl : sl = #[k0, k1, k2, k3, some (.builtin "ValueError.__new__"), k5] := by
        obtain ⟨l⟩ := sl
        simp only at hs
        rw [hs]
      subst hsl
      exact ⟨nm, qn, ns, bs, bm, sn, sub, ab, col, dd, k0, k1, k2, k3, k5, ho, ht⟩
    · cases q
  · cases q
abbrev AlN : Type := Bool × List FnW × List XiW
def obsN (ex : PySem.W.Frag → Bool) (fn xi : List DefD) (file : Str) (K : PySem.W.Frag) : AlN :=
  (ex K && (fn.all (fun d => d.ok K) && xi.all fun d => xiB K d file), fn.map (fun d => fnW K d.at_), xi.map fun d => xiW K d.at_)
def valN (fn xi : List DefD) : AlN := (true, fn.map DefD.val, xi.map xiV)
def SaysN (ex : PySem.W.Frag → Bool) (fn xi : List DefD) (file : Str) (K : PySem.W.Frag) : Prop := obsN ex fn xi file K = valN fn xi
abbrev AsT : Type := (Addr → Option Obj) → List Addr
def obsNG (as : AsT) (ex : PySem.W.Frag → Bool) (fn xi : List DefD) (file : Str) (g : Addr → Option Obj) : AlN := obsN ex fn xi file (frG g (as g))
def hookN (as : AsT) (ex : PySem.W.Frag → Bool) (fn xi : List DefD) (file : Str) : PySem.W.Hook where
  α := AlN
  obs := fun s => obsNG as ex fn xi file s.heap.get?
  val := fun _ => valN fn xi
  says := fun _ h => ∃ K : PySem.W.Frag, K.In h ∧ SaysN ex fn xi file K
  of := fun _ _ e => ⟨_, frG_in, e⟩
  keeps := fun _ _ _ ⟨K, hK, c⟩ k => ⟨K, PySem.W.Frag.In.keeps hK k, c⟩
theorem obsN_eq {as : AsT} {ex : PySem.W.Frag → Bool} {fn xi : List DefD} {file : Str} {g : Addr → Option Obj} {s : Shared} (h : ∀ a, g a = s.heap.get? a) : obsNG as ex fn xi file g = (hookN as ex fn xi file).obs s := by
  have e : g = s.heap.get? := funext h
  rw [e] <;> rfl
section
variable {ex : PySem.W.Frag → Bool} {fn xi : List DefD} {file : Str} {K : PySem.W.Frag}
theorem SaysN.ex_ (c : SaysN ex fn xi file K) : ex K = true :=
  (ba (show (ex K && (fn.all (fun d => d.ok K) && xi.all fun d => xiB K d file)) = true from congrArg (fun z : AlN => z.1) c)).1
theorem SaysN.def_ (c : SaysN ex fn xi file K) (i : Nat) {d : DefD} (h : fn[i]? = some d) : ∃ fd, FunD K d.name d.qual d.params d.body d.scope (d.dvs K) (d.kws K) (fAd K d.at_) fd := by
  have c2 := (ba (ba (show (ex K && (fn.all (fun d => d.ok K) && xi.all fun d => xiB K d file)) = true from congrArg (fun z : AlN => z.1) c)).2).1
  have e : fn.map (fun d => fnW K d.at_) = fn.map DefD.val := congrArg (fun z : AlN => z.2.1) c
  have e2 : (fn.map fun d => fnW K d.at_)[i]? = (fn.map DefD.val)[i]? := by rw [e]
  rw [List.getElem?_map, List.getElem?_map, h] at e2
  exact DefD.funD (Option.some.inj e2) (List.all_eq_true.mp c2 d (List.mem_of_getElem? h))
theorem SaysN.xi_ (c : SaysN ex fn xi file K) (i : Nat) {d : DefD} (h : xi[i]? = some d) : xiW K d.at_ = xiV d ∧ xiB K d file = true := by
  have c2 := (ba (ba (show (ex K && (fn.all (fun d => d.ok K) && xi.all fun d => xiB K d file)) = true from congrArg (fun z : AlN => z.1) c)).2).2
  have e : xi.map (fun d => xiW K d.at_) = xi.map xiV := congrArg (fun z : AlN => z.2.2) c
  have e2 : (xi.map fun d => xiW K d.at_)[i]? = (xi.map xiV)[i]? := by rw [e]
  rw [List.getElem?_map, List.getElem?_map, h] at e2
  exact ⟨Option.some.inj e2, List.all_eq_true.mp c2 d (List.mem_of_getElem? h)⟩
end
end NK
namespace L2
open PySem PySem.Spec PyProof.Rows
end L2

namespace NK
open PySem PySem.Spec PyProof.Rows L2
def showsOk (d : PyData) : Prop := d.showable = true ∧ d.hasDict = false ∧ isDisplay d = true ∧ d.depth ≤ 50 ∧ d.shown.length ≤ 16777216
instance (d : PyData) : Decidable (showsOk d) := by unfold showsOk; infer_instance
structure FnQ (P : Program) (w : World) (K : PySem.W.Frag) (mg : Str → Option Value) (base : Heap) (CX : CXT) (k : Nat) (f : Addr) (fd : FuncData) (ps : List Str) (sp : Sp) : Prop where
  len : ∀ vs H Q E, sp vs H Q E → vs.length = ps.length
  run : ∀ (A : Around) (up : List PySem.Env) (t : Shared) (H : Hp) (args : Args) (us : List Value) (vs : List V) (Q : VK) (E : XK), A.guards = some [] → Room k A → Env0 P w K mg base A up t H → BindsTo t fd args (ps.zip us) → Vals vs us → sp vs H Q E →
    codeAny (model P w) A (.call (.ref f) args) (CR CX up P w H t Q E) t
section
variable {P : Program} {w : World} {K : PySem.W.Frag} {mg : Str → Option Value} {base : Heap} {CX : CXT} {k : Nat} {f : Addr} {fd : FuncData} {ps : List Str} {sp sp' : Sp}
theorem FnQ.of (F : FnOk P w K mg base CX k f fd ps sp) : FnQ P w K mg base CX k f fd ps sp := ⟨F.len, fun A up t H args us vs Q E _ => F.run A up t H args us vs Q E⟩
theorem FnQ.imp (F : FnQ P w K mg base CX k f fd ps sp) (h : ∀ vs H Q E, sp' vs H Q E → sp vs H Q E) : FnQ P w K mg base CX k f fd ps sp' :=
  ⟨fun vs H Q E z => F.len vs H Q E (h vs H Q E z), fun A up t H args us vs Q E g hr e0 hb hv z => F.run A up t H args us vs Q E g hr e0 hb hv (h vs H Q E z)⟩
end
theorem flow_end {CX : CXT} {P : Program} {w : World} {K : PySem.W.Frag} {mg : Str → Option Value} {base : Heap} {N : List Str} {qual : Str} {scope : Scope} {f : Addr} {cd : Value} {A : Around} {up : List PySem.Env} {t t1 : Shared} {H : Hp} {Q : VK} {E : XK} {fl : Flow}
    (h : SP (cxOf CX P w K mg base N qual scope f cd A up t H E) [] { nx := fun _ G => Q .non G, rt := Q } fl t1) : CR CX up P w H t Q E (.ok (match fl with
      | .next => .ret .none
      | x => x)) t1 := by
  have fin : ∀ {τ : L2.St} {G : Hp} {v : V} {u : Value}, Inv (cxOf CX P w K mg base N qual scope f cd A up t H E) [] τ G t1 → RelV v u → Q v G → CE up P w H t Q u t1 := fun {τ G v u} J r q => ⟨v, G, J.os, J.bare, J.base, J.hok, r, q⟩
  cases fl with
  | next => exact let ⟨τ, G, J, q⟩ := h; fin (v := .non) J rfl q
  | ret u => exact let ⟨v, τ, G, J, r, q⟩ := h; fin J r q
  | brk => exact let ⟨_, _, _, q⟩ := h; q.elim
  | cont => exact let ⟨_, _, _, q⟩ := h; q.elim
open PyProof.Rows (envOfC) in
theorem fnq_of {CX : CXT} {P : Program} {w : World} {K : PySem.W.Frag} {mg : Str → Option Value} {base : Heap} {k : Nat} {f : Addr} {name qual : Str} {params : Arguments} {body : List Stmt} {scope : Scope} {dV kV doc pm cdv ct oc : Value} {an od : Option Addr}
    {osl : Array (Option Value)} {N ps : List Str} {sp : Sp} (fk : K.lookup f = some ⟨oc, od, .func (PySem.W.fnOf name qual params body scope dV kV doc pm an cdv ct), osl⟩) (cod : PySem.W.codeIn K cdv qual = true) (S : FnScope N ps scope) (len : ∀ vs H Q E, sp vs H Q E → vs.length = ps.length)
    (go : ∀ (A : Around) (up : List PySem.Env) (t : Shared) (H : Hp) (vs : List V) (Q : VK) (E : XK), A.guards = some [] → Room k (A.deeper (envOfC qual scope t.heap.objs.size f cdv)) → sp vs H Q E →
      ∃ b, PSs (cxOf CX P w K mg base N qual scope f cdv A up t H E) body b ∧ b { nx := fun _ G => Q .non G, rt := Q } (L2.start N vs) H) :
    FnQ P w K mg base CX (k + 1) f (PySem.W.fnOf name qual params body scope dV kV doc pm an cdv ct) ps sp := by
  refine ⟨len, fun A up t H args us vs Q E gd room e0 bt rv wish => ?_⟩
  have nvs := len _ _ _ _ wish
  have kin : K.In t.heap := e0.mod.kin.keeps fun b o z => (e0.bs b o z).1
  have nolim : t.heap.NoLimit := e0.mod.nolimit.keeps fun b o z => (e0.bs b o z).1
  have kinds : ∀ y ∈ ps.zip us, scope.names.lookup y.1 = some .local ∨ (scope.names.lookup y.1 = some .cell ∧ ((cellsFrom (t.heap.objs.size + 1) scope.names []).lookup y.1).isSome = true) := by
    rintro ⟨n, v⟩ hy
    refine (S.par n (List.of_mem_zip hy).1).imp id fun z => ⟨z, PySem.W.cellsFrom_some _ _ _ (.inl z)⟩
  refine codeAny_call_function room.depth (kin _ _ fk) rfl S.co S.gen rfl (PySem.W.codeRec_of kin cod) (bt _ _ _ _ (wpAny_newFunctionEnv_cells S.kind kinds fun env z t1 x => ?_))
  subst z
  obtain ⟨b, hb, hw⟩ := go A up t H vs Q E gd (room.deeper _) wish
  have J : Inv (cxOf CX P w K mg base N qual scope f cdv A up t H E) [] (L2.start N vs) H t1 := inv_start S room.hd e0 nvs rv x
  refine ⟨nolim.keeps x.toInCall.keep, codeAny_func (wpAny_mono (hb.run [] t1 (L2.start N vs) H _ J hw) (fun fl t2 z => ?_) fun _ _ z => z)⟩
  have e := flow_end z
  cases fl with
  | next => exact e
  | ret u => exact e
  | brk => exact let ⟨_, _, _, q⟩ := z; False.elim q
  | cont => exact let ⟨_, _, _, q⟩ := z; False.elim q
section
variable {P : Program} {w : World} {K : PySem.W.Frag} {mg : Str → Option Value} {base : Heap} {T : Tb} {x qual : Str} {params : Arguments} {body : List Stmt} {scope : Scope} {dvs : List V} {kws : List (Str × V)} {f cd : Addr} {fd : FuncData} {N ps : List Str} {k : Nat} {mb : MS}
theorem run_ends {env : Env} {st : Sto} {c : Cn} {W : XK} {Q : VK} (hR : ResG T (fun cls d _ H => W cls d H) c [] (Rp T) (match mb env st with
      | .ret u st' => Out.ok u st'
      | .next _ st' => .ok .non st'
      | .exc x _ st' => .exc x st'
      | _ => .bad) Q) : ResS T none (fun cls d _ H => W cls d H) c (mb env st) { nx := fun _ G => Q .non G, rt := Q } := by
  cases q : mb env st with
  | ret u st' => rw [q] at hR; exact fun c' v H' a b d => hR c' v H' a b d
  | next env st' => rw [q] at hR; exact fun c' σ' H' a b d => hR c' .non H' a b .non
  | exc x' env st' => rw [q] at hR; exact fun c' cls d σ' H' a b _ e => hR c' cls d H' a b e
  | brk env st' => rw [q] at hR; exact hR.elim
  | cont env st' => rw [q] at hR; exact hR.elim
  | bad => rw [q] at hR; exact hR.elim
open PyProof.Rows (envOfC) in
theorem fund_okmQ (F : FunD K x qual params body scope dvs kws f fd) (S : FnScope N ps scope)
    (hb : ∀ (cdv : Value) (A : Around) (outer : List PySem.Env) (s : Shared) (H : Hp) (E : XK), A.guards = some [] → Room k (A.deeper (envOfC qual scope s.heap.objs.size f cdv)) →
      PSsm (cxOf (L2.CX P w) P w K mg base N qual scope f cdv A outer s H E) T none (fun cls d _ H => E cls d H) body mb) : FnQ P w K mg base (L2.CX P w) (k + 1) f fd ps (spOf T ps.length (fScope (runF N.length mb))) := by
  obtain ⟨oc, od, dV, kV, doc, pm, an, cdv, ct, osl, rfl, lk, hcd, _, _⟩ := F.ex
  refine FnQ.imp (sp := spOf T ps.length (runF N.length mb)) (fnq_of lk hcd S (fun vs H Q E h => h.1) fun A outer s H vs Q E hq hr h => ⟨_, hb cdv A outer s H E hq hr, ?_⟩) spOf_scope
  obtain ⟨hl, c, us, st0, hH, r, hR⟩ := h
  exact ⟨c, _, st0, hH, start_RE r, run_ends hR⟩
open PyProof.Rows (envOfC) in
end
section
variable {X : Cx} {T : Tb} {P : Pin} {Wx : WX} {e : Expr} {es : List Expr} {ma : MA} {pos : Pos}
theorem pem_callQ {k n : Nat} {f : Addr} {fd : FuncData} {ps : List Str} {mf : MF} {x : Str} {p : Pos} (tk : Takes X Wx) (F : FnQ X.prog X.w X.K X.mg X.base (L2.CX X.prog X.w) k f fd ps (spOf T n mf)) (gd : X.A.guards = some []) (hr : Room k X.A) (hg : Gl X x) (hm : X.mg x = some (.ref f)) (hk : PySem.W.keepIn X.K (.ref f) = true) (hb : Binds X.K fd ps [])
    (hn : ps.length = n) (ha : PAm X T P Wx (e :: es) ma) (hdb : (x == ("__debug__" : Str)) = false := by decide) (he : starEach (e :: es) X.env = (false, eval e X.env) :: starEach es X.env := by rfl) (hpl : (backTo pos (starEach es X.env)).any (·.1) = false := by rfl) :
    PEm X T P Wx (.Call (.Name x p) (e :: es) [] pos) (eCall n mf [] ma) := by
  have go : PE X (.Call (.Name x p) (e :: es) [] pos) (fun σ H Q => taOf T P Wx ma σ H fun vs H1 => spOf T n mf vs H1 Q fun cls d G => Wx cls d σ G) := by
    refine ⟨fun pins t σ H Q I h => wpAny_Call_Name_kw (ld_glob I hg hm ?_ hdb)⟩
    refine PySem.W.callWith_K (h₀ := X.base) I.ok.mod.kin hk (thn (ha.run pos pins t σ H _ I h) fun us t1 ⟨vs, H1, J, r, q⟩ => ⟨J.kIn, ?_⟩) he hpl
    have nl : us.length = ps.length := by rw [← r.length]; exact F.len _ _ _ _ q
    have bt : BindsTo t1 fd ⟨us, []⟩ (ps.zip us) := by
      have z := hb t1 us J.kIn (by rw [List.append_nil]; exact nl)
      rw [List.append_nil] at z
      exact z
    refine wpAny_call (codeAny_mono (F.run X.A X.stack t1 H1 ⟨us, []⟩ us vs Q (fun cls d G => Wx cls d σ G) gd hr J.env0 bt r q) fun a t2 z => ?_)
    cases a with
    | error er => exact passAt tk σ pins H1 t1 er t2 J z
    | ok fl => cases fl <;> first | exact J.after z | exact False.elim z
  refine PE.imp go fun σ H Q ⟨c, env, st, hH, hE, hR⟩ => ?_
  refine (tg_bind hH hE hR).mono fun vs H1 ⟨us, c1, st1, l1, hH1, hE1, r1, hR1⟩ => ?_
  rw [List.append_nil] at hR1
  split at hR1
  · rename_i hl
    exact ⟨by rw [← r1.length]; exact hl, c1, _, st1, hH1, r1, hR1.wish fun cls d H h => h⟩
  · exact hR1.elim
end
end NK

namespace NK
open PySem PySem.Spec PyProof.Rows L2 LamX
def lawHp (K : PySem.W.Frag) (a : Addr) (o : Obj) (xs : List V) (ts : List Addr) : Hp := fun b => if b ∈ ts then some (.tbl #[]) else if b = a ∧ K.lookup a = none then some (.frz o (.lst xs)) else none
section
variable {K : PySem.W.Frag} {a b : Addr} {o : Obj} {xs : List V} {ts : List Addr}
theorem lawHp_tab (h : b ∈ ts) : lawHp K a o xs ts b = some (.tbl #[]) := if_pos h
theorem lawHp_cases (b : Addr) : b ∈ ts ∨ (b ∉ ts ∧ b = a ∧ K.lookup a = none ∧ lawHp K a o xs ts b = some (.frz o (.lst xs))) ∨ (b ∉ ts ∧ lawHp K a o xs ts b = none) := by
  by_cases h : b ∈ ts
  · exact .inl h
  · by_cases g : b = a ∧ K.lookup a = none
    · exact .inr (.inl ⟨h, g.1, g.2, (if_neg h).trans (if_pos g)⟩)
    · exact .inr (.inr ⟨h, (if_neg h).trans (if_neg g)⟩)
end
theorem law_callQ {P : Program} {w : World} {K : PySem.W.Frag} {mg mb : Str → Option Value} {CX : CXT} {k : Nat} {fa a : Addr} {cs : List (Addr × Addr)} {fd : FuncData} {x : Str} {sp : Sp} {t : Shared} {vs : List Value} {ns : List Int}
    (kin : K.In t.heap) (gns : t.heap.Ns mainGlobals mg) (bns : t.heap.Ns builtinsNs mb) (boot : ∀ y : Str, y ≠ "__name__" → mb y = bootBuiltins y) (nolim : t.heap.NoLimit) (gens : t.gens = #[])
    (tabs : ∀ p ∈ cs, t.heap.get? p.2 = some { cls := .none, data := .fields #[] }) (ntab : ∀ p ∈ cs, K.lookup p.2 = none) (code : ∀ p ∈ cs, PySem.W.CodeHd t.heap p.1 p.2)
    (bm : cs ≠ [] → ∃ (m : Addr) (ob : Obj), mg "__builtins__" = some (.ref m) ∧ m ≠ builtinsNs ∧ t.heap.get? m = some ob ∧ ob.cls = .type "module" ∧ ob.dict = some builtinsNs ∧ ob.data = .plain)
    (scr : t.heap.get? a = some { cls := .type "list", data := .seq vs.toArray }) (iare : IntsAre vs ns) (short : ns.length ≤ sizeLine) (gd : callerA.guards = some []) (room : Room k callerA)
    (F : ∀ base : Heap, K.In base → base.Ns mainGlobals mg → (∀ p ∈ cs, TabB base mg p.1 p.2) → FnQ P w K mg base CX k fa fd [x] sp) (bind : ∀ (s : Shared) (u : Value), BindsTo s fd ⟨[u], []⟩ [(x, u)])
    (wish : ∀ H : Hp, (∀ p ∈ cs, H p.2 = some (.tbl #[])) → SqL K H a (ns.map V.int) → sp [.ref a] H (fun v _ => v = .bl true) fun _ _ _ => False) (quiet : ∀ H e t', CX [] H t (fun _ _ _ => False) e t' → False) :
    codeAny (model P w) callerA (.call (.ref fa) ⟨[.ref a], []⟩) (fun r t' => r = .ok (.ret (.bool true)) ∧ OldK t.heap t'.heap ∧ t'.os = t.os ∧ AllBare t'.gens) t := by
  have rv : Vals (ns.map V.int) vs := vals_ints iare
  have nv : vs.length = ns.length := iare.length
  generalize eo : ({ cls := .type "list", data := .seq vs.toArray } : Obj) = o at scr
  have tb : ∀ b ∈ cs.map (·.2), t.heap.get? b = some { cls := .none, data := .fields #[] } ∧ K.lookup b = none ∧ ∃ p ∈ cs, p.2 = b := by
    rintro b hb
    obtain ⟨p, hp, rfl⟩ := List.mem_map.mp hb
    exact ⟨tabs p hp, ntab p hp, p, hp, rfl⟩
  have aNo : a ∉ cs.map (·.2) := fun z => by
    have e := (tb a z).1
    rw [scr, ← eo] at e
    cases e
  generalize eH : lawHp K a o (ns.map V.int) (cs.map (·.2)) = H
  have cas : ∀ b, b ∈ cs.map (·.2) ∨ (b ∉ cs.map (·.2) ∧ b = a ∧ K.lookup a = none ∧ H b = some (.frz o (.lst (ns.map V.int)))) ∨ (b ∉ cs.map (·.2) ∧ H b = none) := by
    rw [← eH]
    exact lawHp_cases
  have tab : ∀ p ∈ cs, H p.2 = some (.tbl #[]) := by
    rw [← eH]
    exact fun p hp => lawHp_tab (List.mem_map.mpr ⟨p, hp, rfl⟩)
  have sq : SqL K H a (ns.map V.int) := by
    rcases cas a with z | ⟨_, _, _, z⟩ | ⟨_, z⟩
    · exact absurd z aNo
    · exact .inl (.inr ⟨o, z⟩)
    · cases hk : K.lookup a with
      | none =>
        rw [← eH] at z
        rw [show lawHp K a o (ns.map V.int) (cs.map (·.2)) a = some (.frz o (.lst (ns.map V.int))) from (if_neg aNo).trans (if_pos ⟨rfl, hk⟩)] at z
        cases z
      | some o2 =>
        have e := kin a o2 hk
        rw [scr] at e
        have e2 := Option.some.inj e
        subst e2
        subst eo
        exact .inr ⟨_, vs.toArray, _, hk, rfl, rfl, rfl, by rw [List.size_toArray, nv]; exact short, rv⟩
  have held : HOk P w H t.heap := fun b u hu => by
    rcases cas b with z | ⟨_, rfl, _, z⟩ | ⟨_, z⟩
    · obtain ⟨z1, _, p, hp, rfl⟩ := tb b z
      rw [tab p hp] at hu
      cases hu
      exact z1
    · rw [z] at hu
      cases hu
      exact ⟨scr, by rw [List.length_map]; exact short, vs, _, rv, by rw [scr, ← eo]⟩
    · rw [z] at hu
      cases hu
  -- all else is not tracked
  have off : ∀ {b : Addr} {u : Obj}, t.heap.get? b = some u → (∀ its n, u.data ≠ .seq its n) → u.data ≠ .fields #[] → H b = none := fun {b u} e n1 n2 => by
    rcases cas b with z | ⟨_, rfl, _, _⟩ | ⟨_, z⟩
    · rw [(tb b z).1] at e
      cases e
      exact absurd rfl n2
    · rw [scr, ← eo] at e
      cases e
      exact absurd rfl (n1 _ _)
    · exact z
  have dict_off : ∀ {b : Addr} {u : Obj} {es : Array DictEntry} {n : Nat}, t.heap.get? b = some u → u.data = .dict es n → H b = none := fun {b u es n} e d => off e (fun its m z => by rw [d] at z; cases z) (fun z => by rw [d] at z; cases z)
  have ns2 : ∀ {b : Addr} {m : Str → Option Value}, t.heap.Ns b m → (hidT t.heap H).Ns b m := fun {b m} ⟨u, es, n, e, d, r⟩ => ⟨u, es, n, hidT_get e (dict_off e d), d, r⟩
  have kin2 : K.In (hidT t.heap H) := fun b u e => hidT_get (kin b u e) (by
    rcases cas b with z | ⟨_, rfl, z, _⟩ | ⟨_, z⟩
    · rw [(tb b z).2.1] at e
      cases e
    · rw [z] at e
      cases e
    · exact z)
  have tabs2 : ∀ p ∈ cs, TabB (hidT t.heap H) mg p.1 p.2 := fun p hp => by
    have there := tabs p hp
    have notTab : ∀ {m : Addr} {u : Obj}, t.heap.get? m = some u → u.data ≠ .fields #[] → m ≠ p.2 := fun {m u} e n z => by
      rw [z, there] at e
      cases e
      exact n rfl
    refine ⟨?_, ?_, ?_⟩
    · obtain ⟨u, us, file, tf, flags, tg, inF, text, tt, e1, q⟩ := code p hp
      have d := q.2.1
      have s2 := q.2.2.1
      refine ⟨u, us, file, tf, flags, tg, inF, text, tt, hidT_get e1 (off e1 (fun its n z => ?_) fun z => ?_), q⟩
      · rw [d] at z
        cases z
      · rw [d] at z
        cases z
        simp at s2
    · obtain ⟨m, ob, b1, b2, b3, b4, b5, b6⟩ := bm (List.ne_nil_of_mem hp)
      refine ⟨m, ob, b1, b2, fun z => ?_, notTab b3 (by rw [b6]; exact fun z => by cases z), hidT_get b3 (off b3 (fun its n z => by rw [b6] at z; cases z) fun z => by rw [b6] at z; cases z), b4, b5, b6⟩
      obtain ⟨u, es, n, e, d, _⟩ := gns
      rw [z, e] at b3
      cases b3
      rw [d] at b6
      cases b6
    · obtain ⟨u, es, n, e, d, _⟩ := gns
      exact notTab e (by rw [d]; exact fun z => by cases z)
  have md : L2.Mod K mg (hidT t.heap H) := ⟨kin2, ns2 gns, ⟨mb, ns2 bns, boot⟩, let ⟨m, h1, h2⟩ := nolim; ⟨m, ns2 h1, h2⟩⟩
  have e0 : Env0 P w K mg (hidT t.heap H) callerA [] t H := ⟨rfl, md, fun b u e => of_hidT e, Nat.le_of_eq (hidT_size _ _), trivial, (fun b hb => (List.not_mem_nil (show b ∈ ([] : List Addr) from hb)).elim), held, .of_eq gens⟩
  refine codeAny_mono ((F _ kin2 (ns2 gns) tabs2).run callerA [] t H ⟨[.ref a], []⟩ [.ref a] [.ref a] _ _ gd room e0 (bind t (.ref a)) (.cons rfl .nil) (wish H tab sq)) fun r t' z => ?_
  cases r with
  | error e => exact (quiet H e t' z).elim
  | ok fl =>
    cases fl with
    | next => exact False.elim z
    | brk => exact False.elim z
    | cont => exact False.elim z
    | ret u =>
      obtain ⟨v, H', os, bare, un, held', r', q⟩ := z
      cases (show v = .bl true from q)
      cases (show u = Value.bool true from r')
      have grown : ∀ p ∈ cs, ∃ more : Array Value, t'.heap.get? p.2 = some { cls := .none, data := .fields more } := fun p hp => by
        obtain ⟨more, z⟩ := un.tbls p.2 #[] (tab p hp)
        exact ⟨_, held' p.2 _ z⟩
      have keeps : ∀ b u, b ∉ cs.map (·.2) → t.heap.get? b = some u → t'.heap.get? b = some u := fun b u nb e => by
        rcases cas b with z | ⟨_, rfl, _, z⟩ | ⟨_, z⟩
        · exact absurd z nb
        · rw [scr] at e
          cases e
          exact (held' b _ (un.frzs b o _ z)).1
        · exact un.keep b u e z (fun h => nomatch (show b ∈ ([] : List Addr) from h)) (fun h => nomatch (show b ∈ ([] : List Addr) from h))
      refine ⟨rfl, ⟨fun b u e => ?_, fun b u e => ?_⟩, os, bare⟩
      · by_cases hb : b ∈ cs.map (·.2)
        · obtain ⟨z1, _, p, hp, rfl⟩ := tb b hb
          obtain ⟨more, hm⟩ := grown p hp
          rw [z1] at e
          cases e
          exact .inr (.inl ⟨((code p hp).tab z1).isCodeTable, rfl, #[], more, rfl, by rw [Array.empty_append]; exact hm⟩)
        · exact .inl (keeps b u hb e)
      · by_cases hb : b ∈ cs.map (·.2)
        · obtain ⟨_, _, p, hp, rfl⟩ := tb b hb
          exact let ⟨more, hm⟩ := grown p hp; ⟨_, hm⟩
        · exact ⟨u, keeps b u hb e⟩
end NK

namespace NK
open PySem PySem.Spec PyProof.Rows L2
def showsIn (d : PyData) : Prop := d.showable = true ∧ d.hasDict = false ∧ isDisplay d = true ∧ d.depth ≤ 50 ∧ d.shown.length ≤ 1000000
instance (d : PyData) : Decidable (showsIn d) := by unfold showsIn; infer_instance
def ShowV (K : PySem.W.Frag) (H : Hp) (v : V) : Prop :=
  v = .non ∨ (∃ b, v = .bl b) ∨ (∃ i : Int, v = .int i ∧ i.natAbs.log2 < 1920) ∨ (∃ z : Str, v = .str z ∧ z.length ≤ 1000000) ∨ ∃ d, Dp K H v d ∧ showsIn d
theorem int_len {i : Int} (h : i.natAbs.log2 < 1920) : (Str.ofString (toString i)).length ≤ 1000000 := by
  have e := int_text_length_le (k := 1920) (by decide) h
  rw [PySem.ofString_length]
  omega
def rStrV (K : PySem.W.Frag) : List V → Hp → VK → Prop := fun xs H Q => ∃ v, xs = [v] ∧ ShowV K H v ∧ ∀ z : Str, z.length ≤ 1000000 → Q (.str z) H
theorem call_strV {X : Cx} (hq : X.A.guards = some []) (hu : X.A.units + 64 < cLine) : CallR X (.type "str") (rStrV X.K) := by
  intro pins s σ H xs us Q I r h
  obtain ⟨v, rfl, h, q⟩ := h
  obtain ⟨u, rfl, ru⟩ := r.one
  rcases h with rfl | ⟨b, rfl⟩ | ⟨i, rfl, hz⟩ | ⟨z, rfl, hz⟩ | ⟨d, hd, h1, h2, h3, h4, h5⟩
  · cases (show u = Value.none from ru)
    exact PySem.P.str_of_none ⟨.str _, H, I.tok _, ⟨_, rfl⟩, q _ (by decide)⟩
  · cases (show u = Value.bool b from ru)
    exact PySem.P.str_of_bool ⟨.str _, H, I.tok _, ⟨_, rfl⟩, q _ (by cases b <;> decide)⟩
  · obtain ⟨t, rfl⟩ := ru
    exact PySem.P.str_of_int hz ⟨.str _, H, I.tok _, ⟨_, rfl⟩, q _ (int_len hz)⟩
  · obtain ⟨t, rfl⟩ := ru
    exact PySem.P.str_of_str ⟨.str z, H, I, ⟨t, rfl⟩, q _ hz⟩
  · obtain ⟨as, rd⟩ := Dp.reads I d v u hd ru
    obtain ⟨a, rfl⟩ := isRef_of_reads rd h3
    exact str_of_reads rd h1 (PyData.noDict_hsm h2) hq (by omega) (fun _ _ e => e) (fun h' u tk hk => ⟨.str _, H, I.kept hk, ⟨_, rfl⟩, q _ h5⟩) (by rw [sizeLine_eq]; omega)
def tFmtV (K : PySem.W.Frag) (te : TE) : TE := fun σ H Q => te σ H fun x H1 => ShowV K H1 x ∧ ∀ z : Str, z.length ≤ 1000000 → Q (.str z) H1
theorem pe_fmtV {X : Cx} {e : Expr} {te : TE} {pos : Pos} (hq : X.A.guards = some []) (hu : X.A.units + 64 < cLine) (he : PE X e te) : PE X (.FormattedValue e (-1) none pos) (tFmtV X.K te) := by
  refine ⟨fun pins s σ H Q I h => ?_⟩
  refine wpAny_FormattedValue_plain (thn (he.run pins s σ H _ I h) fun u s1 hv => ?_)
  obtain ⟨x, H1, I1, ru, h, q⟩ := hv
  rcases h with rfl | ⟨b, rfl⟩ | ⟨i, rfl, hz⟩ | ⟨z, rfl, hz⟩ | ⟨d, hd, h1, h2, h3, h4, h5⟩
  · cases (show u = Value.none from ru)
    exact wpAny_formatField_none ⟨.str _, H1, I1.tok _, ⟨_, rfl⟩, q _ (by decide)⟩
  · cases (show u = Value.bool b from ru)
    exact wpAny_formatField_bool ⟨.str _, H1, I1.tok _, ⟨_, rfl⟩, q _ (by cases b <;> decide)⟩
  · obtain ⟨t, rfl⟩ := ru
    exact wpAny_formatField_int hz ⟨.str _, H1, I1.tok _, ⟨_, rfl⟩, q _ (int_len hz)⟩
  · obtain ⟨t, rfl⟩ := ru
    exact wpAny_formatField_str ⟨.str z, H1, I1, ⟨t, rfl⟩, q _ hz⟩ ⟨.str z, H1, I1.tok _, ⟨_, rfl⟩, q _ hz⟩ (by rw [sizeLine_eq]; omega)
  · obtain ⟨as, rd⟩ := Dp.reads I1 d x u hd ru
    obtain ⟨a, rfl⟩ := isRef_of_reads rd h3
    exact formatField_of_reads rd h1 (PyData.noDict_hsm h2) hq (by omega) (fun _ _ e => e) (fun h' u tk hk => ⟨.str _, H1, I1.kept hk, ⟨_, rfl⟩, q _ h5⟩) (by rw [sizeLine_eq]; omega)
end NK

namespace NK
open PySem L2
def spIniH (g : List V → Hp → Prop) (C : Addr) (fs : List Str) : Sp := fun vs H Q E => g vs H ∧ spIni C fs vs H Q E
section
theorem init_okQ {g : List V → Hp → Prop} {P : Program} {w : World} {K : PySem.W.Frag} {mg : Str → Option Value} {base : Heap} {N ps fs : List Str} {k : Nat} {name qual : Str} {params : Arguments} {scope : Scope} {dV kV doc pm ct oc : Value} {an od : Option Addr} {osl : Array (Option Value)} {f cda cc C : Addr}
    {e : Expr} {es : List Expr} {p0 p1 p2 p3 p4 : Pos} {rest : List Stmt} {ar : Arg}
    (lk : K.lookup f = some ⟨oc, od, .func (PySem.W.ksFn name qual params (.Expr (.Call (.Attribute (.Call (.Name "super" p0) [] [] p1) "__init__" p2) (e :: es) [] p3) p4 :: rest) scope dV kV doc pm an (.ref cda) ct cc), osl⟩)
    (hcd : PySem.W.codeIn K (.ref cda) qual = true) (S : Sup P K mg N ps scope C cda cc) (har : (params.posonlyargs ++ params.args).head? = some ar) (hself : N[0]? = some ar.arg) (hnf : ps.length = fs.length + 1) (hfs : fs.length ≤ 900) (hne : fs ≠ [])
    (hargs : ∀ (A : Around) (outer : List PySem.Env) (s : Shared) (H : Hp) (E : XK), A.guards = some [] → Room (k + 1) A → ∃ t, PA (icx P w K mg base N qual scope f (.ref cda) cc A outer s H E) (e :: es) t ∧ ∀ vs : List V, vs.length = ps.length → ∀ (H : Hp), g vs H → ∀ (Q : List V → Hp → Prop), (∀ xs, xs.length ≤ 1000 → Q xs H) → t (L2.start N vs) H Q)
    (hrest : ∀ (A : Around) (outer : List PySem.Env) (s : Shared) (H : Hp) (E : XK), IniSts (icx P w K mg base N qual scope f (.ref cda) cc A outer s H E) C 1 rest fs)
    (he : ∀ L, starEach (e :: es) (PySem.W.ksEnv qual scope L f (.ref cda) cc) = (false, eval e (PySem.W.ksEnv qual scope L f (.ref cda) cc)) :: starEach es (PySem.W.ksEnv qual scope L f (.ref cda) cc) := by intro _; rfl)
    (hpl : ∀ L, (backTo p3 (starEach es (PySem.W.ksEnv qual scope L f (.ref cda) cc))).any (·.1) = false := by intro _; rfl)
    (hsw : ∀ L, swapsWith (.Call (.Attribute (.Call (.Name "super" p0) [] [] p1) "__init__" p2) (e :: es) [] p3) none p4.line (PySem.W.ksEnv qual scope L f (.ref cda) cc) = pure false := by intro _; rfl)
    {pl : Sem Bool} (hev : ∀ L, eval (.Call (.Attribute (.Call (.Name "super" p0) [] [] p1) "__init__" p2) (e :: es) [] p3) (PySem.W.ksEnv qual scope L f (.ref cda) cc) = (do
      let ov ← attributeBase (.Call (.Name "super" p0) [] [] p1) "__init__" (PySem.W.ksEnv qual scope L f (.ref cda) cc) (eval (.Call (.Name "super" p0) [] [] p1) (PySem.W.ksEnv qual scope L f (.ref cda) cc))
      standAt p2.atName
      let (f', first) ← holding [ov] (getMethod ov "__init__" pl)
      callWith p3 f' first (backTo p3 (starEach (e :: es) (PySem.W.ksEnv qual scope L f (.ref cda) cc))) []) := by intro _; rfl) :
    FnQ P w K mg base (L2.CX P w) (k + 1) f (PySem.W.ksFn name qual params (.Expr (.Call (.Attribute (.Call (.Name "super" p0) [] [] p1) "__init__" p2) (e :: es) [] p3) p4 :: rest) scope dV kV doc pm an (.ref cda) ct cc) ps (spIniH g C fs) := by
  refine ⟨fun vs H Q E h => h.2.1.trans hnf.symm, fun A outer s H args us vs Q E hgA hr e0 hb r hsp => ?_⟩
  obtain ⟨hgd, hlen, a, ws, H0, rfl, n0, rfl, hq⟩ := hsp
  have hl : (V.ref a :: ws).length = ps.length := hlen.trans hnf.symm
  have KX : K.In s.heap := e0.mod.kin.keeps fun b o e => (e0.bs b o e).1
  have lim : s.heap.NoLimit := e0.mod.nolimit.keeps fun b o e => (e0.bs b o e).1
  obtain ⟨ccl, cdd, cvs, ccs, file, tf, hcode, hvs, hfile⟩ := S.code
  obtain ⟨cl, cld, csl, hcell⟩ := S.cell
  obtain ⟨nm, q, Nc, bs, bm, sn, sub, ab, col, dd, k0, k1, k2, k3, k5, hC, hbm⟩ := id S.T.cls
  have hcl : PySem.W.clsIn K C = some { name := nm, bases := bs, mro := .ref C :: bm, ns := Nc, qualname := q, hasDict := true, slotNames := sn, subclasses := sub, abstract := ab, collection := col, hasDel := false } := by unfold PySem.W.clsIn; rw [hC] <;> rfl
  refine ks_codeAny_call_defAt (fd := PySem.W.ksFn name qual params (.Expr (.Call (.Attribute (.Call (.Name "super" p0) [] [] p1) "__init__" p2) (e :: es) [] p3) p4 :: rest) scope dV kV doc pm an (.ref cda) ct cc) hr.depth (KX _ _ lk) rfl lim (PySem.W.codeRec_of KX hcd) rfl hb S.nocell
    (fun y hy => S.par y.1 (List.of_mem_zip hy).1) (fun h1 hns hk => ?_) S.co S.gen S.kind
  have I : Inv (icx P w K mg base N qual scope f (.ref cda) cc A outer s (upd H0 a (exo a C none)) E) [] (L2.start N (.ref a :: ws)) (upd H0 a (exo a C none)) { s with heap := h1, toks := s.toks + (ps.zip us).length } := inv_init S hr.hd e0 hl r hns hk
  have self_at : ∃ m, h1.Ns s.heap.objs.size m ∧ m ar.arg = some (.ref a) := by
    cases r with
    | @cons _ u0 _ ur ra rw' =>
      obtain rfl : u0 = Value.ref a := ra
      refine ⟨_, hns, zip_rev_lookup (i := 0) (by rw [← S.pre]; exact S.nd.sublist (List.take_sublist _ _)) ?_ rfl⟩
      rw [← S.pre, List.getElem?_take_of_lt (by omega)]
      exact hself
  have hps : ar.arg ∈ ps := by
    have : ps[0]? = some ar.arg := by rw [← S.pre, List.getElem?_take_of_lt (by omega)]; exact hself
    exact List.mem_of_getElem? this
  obtain ⟨hp0, g0, d0, t0, os0⟩ := s
  have KX1 : K.In h1 := KX.keeps hk
  obtain ⟨tx, hx1⟩ := exo_at I.hok (upd_same (a := a))
  have IA : PySem.W.InstAt h1 a _ C none := ⟨hx1, rfl, rfl, trivial⟩
  obtain ⟨oD, hD1, hD2⟩ : ∃ oD, h1.get? C = some oD ∧ oD.data = .cls { name := nm, bases := bs, mro := .ref C :: bm, ns := Nc, qualname := q, hasDict := true, slotNames := sn, subclasses := sub, abstract := ab, collection := col, hasDel := false } := ⟨_, KX1 _ _ hC, rfl⟩
  obtain ⟨ms, hms, hmself⟩ := self_at
  obtain ⟨mb, hb1, hb2⟩ := I.mod.blt
  have hint : interactive (PySem.W.ksEnv qual scope hp0.objs.size f (.ref cda) cc) = false := by
    unfold interactive
    show (scope.kind == _ && _) = false
    rw [S.kind]
    rfl
  refine ks_wpAt_execs_cons (ks_wpAt_Expr_any (ks_wpAt_MethodCall (pl := pl) ?_ (hev _)) hint (hsw _))
  refine ks_wpAt_super_base (env := PySem.W.ksEnv qual scope hp0.objs.size f (.ref cda) cc) S.ksup S.kcls (by decide) rfl (KX1 _ _ lk) rfl har rfl (KX1 _ _ hcode) rfl hvs hfile S.top ?_
  refine PySem.W.ks_loadName_global S.kind S.ksup (PySem.Calls.loadGlobal_builtin (env := PySem.W.ksEnv qual scope hp0.objs.size f (.ref cda) cc) (I.mod.glob.keeps I.bk) S.msup (hb1.keeps I.bk) ((hb2 _ (by decide +kernel)).trans PyProof.Rows.Boot.«super») ⟨rfl, ?_⟩)
  refine wpAny_loadName_free S.kind S.kcls rfl ⟨_, KX1 _ _ hcell, rfl⟩ ?_
  refine wpAny_loadName_local S.kind (S.par _ hps) hms hmself ?_
  refine ks_wpAny_isType_cls hD1 hD2 ⟨rfl, ?_⟩
  refine ks_wpAny_call_super hD1 hD2 IA.at_ IA.cls (fun c e => by cases e) (PySem.W.looks_mroIn KX1 S.self) (fun h2 e2 k2 => ?_)
  have KX2 : K.In h2 := KX1.keeps k2
  have I2 := I.kept (t' := t0 + (ps.zip us).length) k2
  have IA2 : PySem.W.InstAt h2 a _ C none := ⟨k2 _ _ hx1, rfl, rfl, trivial⟩
  have hm := S.sup
  unfold PySem.W.ks_superIn at hm
  rw [hcl] at hm
  refine PySem.W.kxs_getMethod PySem.W.kxs_ValueError e2 (PySem.W.looks_opaque KX2 S.opq) (l₀ := .ref C :: bm) (fun A Q E s k q => wpAny_bind ((PySem.W.looks_clsIn KX2 hcl) A _ E s k (wpAny_pure q))) rfl KX2 hm (IA2.type.andThen (PySem.W.looks_subIn KX2 S.isV)) (PySem.W.ks_ne KX2 IA2 hcl) (by decide) ?_
  have I3 := I2.kept (t' := t0 + (ps.zip us).length + 1) (h' := h2.push (PySem.W.kxs_mw "ValueError.__init__" a)) fun b o z => Heap.get?_push_of_some _ z
  have hu : (h2.push (PySem.W.kxs_mw "ValueError.__init__" a)).get? h2.objs.size = some (PySem.W.kxs_mw "ValueError.__init__" a) := Heap.get?_push_at rfl rfl
  have I4 := I3.pins_of (pins' := [(h2.objs.size, PySem.W.kxs_mw "ValueError.__init__" a)]) (fun p hp => by
    rcases List.mem_singleton.mp hp with rfl
    refine ⟨hu, I2.hok.fresh (Nat.le_refl _), (Nat.ne_of_lt I2.lt).symm, I2.nofs (Nat.le_refl _), fun v z => by cases z⟩)
  obtain ⟨ta, hta, htot⟩ := hargs A outer ⟨hp0, g0, d0, t0, os0⟩ (upd H0 a (exo a C none)) E hgA hr
  show wpAny _ _ (callWith p3 (.ref h2.objs.size) [] (backTo p3 (starEach (e :: es) (PySem.W.ksEnv qual scope hp0.objs.size f (.ref cda) cc))) []) _ _ _
  have hrun := hta.run p3 _ _ _ _ (fun vs H1 => vs.length ≤ 1000 ∧ H1 = upd H0 a (exo a C none)) I4 (htot _ hl _ hgd _ fun vs z => ⟨z, rfl⟩)
  have heE : starEach (e :: es) (icx P w K mg base N qual scope f (.ref cda) cc A outer ⟨hp0, g0, d0, t0, os0⟩ (upd H0 a (exo a C none)) E).env = _ := he hp0.objs.size
  rw [he]
  rw [heE] at hrun
  refine PySem.W.kxs_callWith (i := "ValueError.__init__") (x := a) (by show (false || (backTo p3 (starEach es _)).any (·.1)) = false; rw [hpl]; rfl) (PySem.Calls.evalArgs_plain (wpAny_mono hrun (fun vs s2 hv => ?_) fun _ _ x => x))
  obtain ⟨xs, H2, I5, rv, hz, rfl⟩ := hv
  have pin := (I5.pin (h2.objs.size, PySem.W.kxs_mw "ValueError.__init__" a) (List.mem_append_right _ (List.mem_singleton.mpr rfl))).1
  refine ⟨pin, ?_⟩
  obtain ⟨t5, hx5⟩ := exo_at I5.hok (upd_same (a := a))
  obtain ⟨h5, g5, d5, tk5, os5⟩ := s2
  refine call_mw (I5.kIn _ _ hC) pin hx5 (by show List.length _ ≤ sizeLine; rw [List.nil_append, ← Paired.length rv, sizeLine_eq]; omega) fun h6 t6 k6 hx6 => ?_
  have J := I5.write (t' := tk5) (x := a) (e := a) (o := exo a C none) (by rw [upd_same]; exact True.intro) (.inl rfl) k6 ⟨_, hx6⟩ (exo_ok hx6)
  have eu : upd (upd H0 a (exo a C none)) a (exo a C none) = upd H0 a (exo a C none) := by
    funext b
    by_cases hb : b = a
    · rw [hb, upd_same, upd_same]
    · rw [upd_ne hb, upd_ne hb]
  rw [eu] at J
  have J' := J.pins_of (pins' := []) fun p hp => absurd hp (by simp)
  have J0 : Inv (icx P w K mg base N qual scope f (.ref cda) cc A outer ⟨hp0, g0, d0, t0, os0⟩ (upd H0 a (exo a C none)) E) [] (L2.start N (.ref a :: ws)) (upd H0 a (exo a C none)) ⟨h6, g5, d5, tk5, os5⟩ :=
    ⟨J.ok, J.os, J.bare, J.base, J.loc, J.cell, J.free, J.freeC, fun p hp => absurd (show p ∈ ([] : List (Addr × Obj)) from hp) (by simp), J.hok, J.len⟩
  have hread : tIni K C 1 fs { nx := fun _ H' => Q .non H', rt := Q } (L2.start N (.ref a :: ws)) (upd H0 a (exo a C none)) := by
    refine ⟨a, H0, [], ws, ?_, S.T, n0, .inl ⟨rfl, rfl⟩, by simpa using hfs, by simpa using hlen, fun j v e => ?_, fun H' k => ?_⟩
    · unfold L2.start
      rfl
    · have hj : 1 + j < (V.ref a :: ws).length := by
        have := (List.getElem?_eq_some_iff.mp e).1
        simp
        omega
      unfold L2.start
      rw [List.getElem?_append_left (by simpa using hj), List.getElem?_map, Nat.add_comm, List.getElem?_cons_succ, e]
      rfl
    · rcases k with ⟨z, rfl⟩ | ⟨d, n1, n2, rfl⟩
      · exfalso
        have wl : ws.length = fs.length := by simpa using hlen
        cases fs with
        | nil => exact hne rfl
        | cons y ys =>
          cases ws with
          | nil => simp at wl
          | cons z2 zs => simp at z
      · simpa using hq d n1 n2
  refine wpAt_of_wpAny (wpAny_mono ((ini_sts (hrest A outer ⟨hp0, g0, d0, t0, os0⟩ (upd H0 a (exo a C none)) E)).run [] _ _ _ _ J0 hread) (fun fl s' hs => ?_) fun e s' hs => hs)
  have fin : ∀ {σ' : L2.St} {H' : Hp} {v : V} {u : Value}, Inv (icx P w K mg base N qual scope f (.ref cda) cc A outer ⟨hp0, g0, d0, t0, os0⟩ (upd H0 a (exo a C none)) E) [] σ' H' s' → RelV v u → Q v H' → CE outer P w (upd H0 a (exo a C none)) ⟨hp0, g0, d0, t0, os0⟩ Q u s' :=
    fun {σ' H' v u} J rv q => ⟨v, H', J.os, J.bare, J.base, J.hok, rv, q⟩
  cases fl with
  | ret u =>
    obtain ⟨v, σ', H', J, rv, q⟩ := hs
    exact fin J rv q
  | next =>
    obtain ⟨σ', H', J, q⟩ := hs
    exact fin (v := V.non) (u := Value.none) J rfl q
  | brk =>
    obtain ⟨_, _, _, q⟩ := hs
    exact False.elim q
  | cont =>
    obtain ⟨_, _, _, q⟩ := hs
    exact False.elim q
end
def tMkX (C : Addr) (sp : Sp) (dvs : List V) (ta : TA) : TE := fun σ H Q => ta σ H fun vs H1 => vs.length ≤ 1000 ∧ ∀ a, H1 a = none → sp (.ref a :: (vs ++ dvs)) (upd H1 a (exo a C none)) (fun v H2 => v = .non ∧ Q (.ref a) H2) (fun _ _ _ => False)
section
variable {X : Cx} {T : Tb} {P : Pin} {Wx : WX} {e : Expr} {es : List Expr} {ta : TA} {ma : MA} {pos p : Pos}
theorem pe_mkx {x : Str} {C fI : Addr} {k : Nat} {fd : FuncData} {ps : List Str} {sp : Sp} {ds : List Value} {dvs : List V} (gd : X.A.guards = some []) (O : OexC X.K C) (iC : PySem.W.findIn X.K (.ref C) "__init__" = some (some (.ref fI))) (tI : PySem.W.typeIn X.K (.ref fI) = some (.type "function"))
    (F1 : FnQ X.prog X.w X.K X.mg X.base (L2.CX X.prog X.w) k fI fd ps sp) (hr : Room (k + 1) X.A) (hb : Binds X.K fd ps ds) (hd : Vals dvs ds) (hx : Passes (L2.CX X.prog X.w) X (fun _ _ _ => False)) (hg : Gl X x) (hm : X.mg x = some (.ref C)) (ha : PA X (e :: es) ta)
    (hdb : (x == ("__debug__" : Str)) = false := by decide) (he : starEach (e :: es) X.env = (false, eval e X.env) :: starEach es X.env := by rfl) (hpl : (backTo pos (starEach es X.env)).any (·.1) = false := by rfl) :
    PE X (.Call (.Name x p) (e :: es) [] pos) (tMkX C sp dvs ta) := by
  refine ⟨fun pins t σ H Q I h => wpAny_Call_Name_kw (ld_glob I hg hm ?_ hdb)⟩
  obtain ⟨nm, qn, N, bs, bm, sn, sub, ab, col, dd, k0, k1, k2, k3, k5, hC, hbm⟩ := O.cls
  refine PySem.W.callWith_K (h₀ := X.base) I.ok.mod.kin O.kC (thn (ha.run pos pins t σ H _ I h) fun us t1 ⟨vs, H1, J, r, hz, wish⟩ => ⟨J.kIn, ?_⟩) he hpl
  show wpAny _ _ (call (.ref C) us) _ _ _
  obtain ⟨hp, g, dr, tk, os⟩ := t1
  have new : hp.objs.size ≤ hp.objs.size + 1 := Nat.le_succ _
  have hq := wish (hp.objs.size + 1) (J.hok.fresh new)
  have old : ∀ b o, hp.get? b = some o → ((hp.push (PySem.W.kdv_tup us)).push (PySem.HandSPX.excO C hp.objs.size)).get? b = some o := fun b o z => Heap.get?_push_of_some _ (Heap.get?_push_of_some _ z)
  have there : ((hp.push (PySem.W.kdv_tup us)).push (PySem.HandSPX.excO C hp.objs.size)).get? (hp.objs.size + 1) = some (PySem.HandSPX.excO C hp.objs.size) := by heap_get
  have J2 : Inv X pins σ (upd H1 (hp.objs.size + 1) (exo (hp.objs.size + 1) C none)) ⟨(hp.push (PySem.W.kdv_tup us)).push (PySem.HandSPX.excO C hp.objs.size), g, dr, tk, os⟩ := J.laid (t' := tk) old new (exo_ok there)
  have r2 : Vals (V.ref (hp.objs.size + 1) :: (vs ++ dvs)) (Value.ref (hp.objs.size + 1) :: (us ++ ds)) := .cons rfl (r.append hd)
  have nl : (Value.ref (hp.objs.size + 1) :: us ++ ds).length = ps.length := by
    have z := r2.length
    rw [F1.len _ _ _ _ hq] at z
    exact z.symm
  have nu : us.length ≤ sizeLine := by
    have := r.length
    rw [sizeLine_eq]
    omega
  have gu : (X.A.under (.builtin "type.__call__" ⟨.ref C :: us, []⟩)).guards = some [] := gd
  refine wpAny_call (PySem.HandSPX.call_own F.excBase_ValueError (fun Y => PySem.HandSPX.refsVE_contains Y bm hbm) (J.kIn _ _ hC) (PySem.W.looks_findIn J.kIn iC) (fun self => PySem.W.bind_fn J.kIn self tI) nu
    (codeAny_mono (F1.run _ X.stack _ _ ⟨Value.ref (hp.objs.size + 1) :: us, []⟩ (Value.ref (hp.objs.size + 1) :: (us ++ ds)) _ _ (fun _ _ _ => False) gu (hr.make C us []) (J2.env0.make C us []) (hb _ (Value.ref (hp.objs.size + 1) :: us) J2.kIn nl) r2 hq) fun a t2 z => ?_))
  cases a with
  | error er => exact hx pins σ _ _ er t2 J2 z
  | ok fl =>
    cases fl with
    | ret u =>
      obtain ⟨v, H', J3, rv, ev, q⟩ := J2.after z
      subst ev
      exact ⟨rv, ⟨V.ref (hp.objs.size + 1), H', J3, rfl, q⟩⟩
    | _ => exact False.elim z
def shU (u : U) (st : Sto) : Bool := match u with
  | .non => true
  | .bl _ => true
  | .int i => decide (i.natAbs.log2 < 1920)
  | .str z => decide (z.length ≤ 1000000)
  | u => match toD st 12 u with
    | some d => decide (showsIn d)
    | none => false
theorem shU_at {c : Cn} {st : Sto} {H : Hp} (hH : RH T c st H) {u : U} {v : V} (r : Rp T c u v) (h : shU u st = true) : ShowV T.K H v := by
  have gen : (match toD st 12 u with
    | some d => decide (showsIn d)
    | none => false) = true → ShowV T.K H v := fun h => by
    split at h
    · rename_i d e
      exact .inr (.inr (.inr (.inr ⟨d, toD_at hH _ _ _ _ r e, of_decide_eq_true h⟩)))
    · cases h
  cases u with
  | non => cases r.inv_non; exact .inl rfl
  | bl b => cases r.inv_bl; exact .inr (.inl ⟨b, rfl⟩)
  | int i => cases r.inv_int; exact .inr (.inr (.inl ⟨i, rfl, of_decide_eq_true h⟩))
  | str z => cases r.inv_str; exact .inr (.inr (.inr (.inl ⟨z, rfl, of_decide_eq_true h⟩)))
  | _ => exact gen h
def okSh (G : List Nat) (us : List U) (st : Sto) : Bool := G.all fun j => match us[j]? with
  | some u => shU u st
  | none => false
def gSh (K : PySem.W.Frag) (G : List Nat) : List V → Hp → Prop := fun vs H => ∀ j ∈ G, ∃ v, vs[j + 1]? = some v ∧ ShowV K H v
theorem okSh_at {c : Cn} {st : Sto} {H : Hp} (hH : RH T c st H) {G : List Nat} {us : List U} {vs : List V} (r : RpL T c us vs) (h : okSh G us st = true) (w : V) : gSh T.K G (w :: vs) H := fun j hj => by
  have e := List.all_eq_true.mp h j hj
  split at e
  · rename_i u q
    obtain ⟨v, h1, h2⟩ := r.get q
    exact ⟨v, h1, shU_at hH h2 e⟩
  · cases e
def eMkX (k n : Nat) (G : List Nat) (dus : List U) (ma : MA) : ME := fun env st => (ma env st).bind fun us st1 => if (us ++ dus).length = n ∧ okSh G (us ++ dus) st1 = true then .ok (.exn k (us ++ dus)) st1 else .bad
theorem pem_mkx {k kk n : Nat} {x : Str} {fI : Addr} {fd : FuncData} {ps : List Str} {G : List Nat} {ds : List Value} {dvs : List V} {dus : List U} (hK : X.K = T.K) (gd : X.A.guards = some []) (tk : Takes X Wx) (O : OexC X.K (T.cls k)) (iC : PySem.W.findIn X.K (.ref (T.cls k)) "__init__" = some (some (.ref fI)))
    (tI : PySem.W.typeIn X.K (.ref fI) = some (.type "function")) (F1 : FnQ X.prog X.w X.K X.mg X.base (L2.CX X.prog X.w) kk fI fd ps (spIniH (gSh X.K G) (T.cls k) (T.fld k))) (hr : Room (kk + 1) X.A) (hb : Binds X.K fd ps ds) (hd : Vals dvs ds) (hu : ∀ c, RpL T c dus dvs) (hg : Gl X x) (hm : X.mg x = some (.ref (T.cls k)))
    (hn : (T.fld k).length = n) (hsz : n ≤ 900) (ha : PAm X T P Wx (e :: es) ma)
    (hdb : (x == ("__debug__" : Str)) = false := by decide) (he : starEach (e :: es) X.env = (false, eval e X.env) :: starEach es X.env := by rfl) (hpl : (backTo pos (starEach es X.env)).any (·.1) = false := by rfl) :
    PEm X T P Wx (.Call (.Name x p) (e :: es) [] pos) (eMkX k n G dus ma) :=
  PE.imp (pe_mkx gd O iC tI F1 hr hb hd (passes_call tk fun _ _ _ _ h => h.elim) hg hm ha hdb he hpl) fun σ H Q ⟨c, env, st, hH, hE, hR⟩ => by
    refine (tg_bind hH hE hR).mono fun vs H1 ⟨us, c1, st1, l1, hH1, hE1, r1, hR1⟩ => ?_
    split at hR1
    · rename_i hl
      obtain ⟨hl, hs⟩ := hl
      have r2 : RpL T c1 (us ++ dus) (vs ++ dvs) := r1.append (hu c1)
      have hvl : (vs ++ dvs).length = n := by rw [← r2.length]; exact hl
      refine ⟨by rw [List.length_append] at hvl; omega, fun a na => ⟨?_, by rw [List.length_cons, hvl, hn], a, vs ++ dvs, H1, rfl, na, rfl, fun d nd ne => ⟨rfl, ?_⟩⟩⟩
      · rw [hK]
        have la := le_still hH1 na (exo a (T.cls k) none)
        exact okSh_at (hH1.still na _) (r2.mono la) hs _
      · have na2 : upd H1 d (exd d ((T.fld k).zip (vs ++ dvs)).reverse) a = none := by rw [upd_ne (Ne.symm ne)]; exact na
        have l2 := le_still hH1 nd (exd d ((T.fld k).zip (vs ++ dvs)).reverse)
        have hH2 := hH1.still nd (exd d ((T.fld k).zip (vs ++ dvs)).reverse)
        have l3 := le_still hH2 na2 (exo a (T.cls k) (some d))
        refine hR1 _ _ _ (l2.trans l3) (hH2.still na2 _) (.exn (.inr ⟨d, upd_same, ?_, by rw [hvl, hn]⟩) (r2.mono (l2.trans l3)))
        show upd (upd c1.F d _) a _ d = _
        rw [upd_ne ne, upd_same]
    · exact hR1.elim
theorem pe_mk0 {C : Addr} {bmB : List Value} {B newId initId : String} {x : Str} (F : ExcBaseFacts B newId initId bmB) (q : PySem.W.excIn X.K C bmB newId = true) (gC : X.mg x = some (.ref C)) (kC : PySem.W.keepIn X.K (.ref C) = true) (hg : Gl X x)
    (hdb : (x == ("__debug__" : Str)) = false := by decide) : PE X (.Call (.Name x p) [] [] pos) (fun σ H Q => ∀ a, H a = none → Q (.ref a) (upd H a (exo a C none))) := by
  refine ⟨fun pins t σ H Q I h => wpAny_Call_Name_kw (ld_glob I hg gC ?_ hdb)⟩
  refine PySem.W.callWith_K0 I.kIn kC ?_
  obtain ⟨bm, N, nm, qn, bs, hdct, sn, sub, ab, col, dd, k0, k1, k2, k3, k5, mN, hC, hN, hni, tl⟩ := exc_obj I.kIn q
  refine wpAny_call_exc_subT F tl hC hN hni (fun h' a hm => ?_) (by show 0 ≤ sizeLine; omega)
  obtain ⟨t1, z, _, _⟩ := hm.there
  have na := I.hok.gone hm.new
  exact ⟨.ref a, _, I.laidN hm.keeps hm.new na (exo_ok z), rfl, h a na⟩
theorem pe_mk1 {C : Addr} {bmB : List Value} {B newId initId : String} {x : Str} (F : ExcBaseFacts B newId initId bmB) (q : PySem.W.excIn X.K C bmB newId = true) (gC : X.mg x = some (.ref C)) (kC : PySem.W.keepIn X.K (.ref C) = true) (hg : Gl X x) (ha : PA X [e] ta)
    (hdb : (x == ("__debug__" : Str)) = false := by decide) (he : starEach [e] X.env = (false, eval e X.env) :: starEach [] X.env := by rfl) (hpl : (backTo pos (starEach [] X.env)).any (·.1) = false := by rfl) :
    PE X (.Call (.Name x p) [e] [] pos) (fun σ H Q => ta σ H fun vs H1 => vs.length ≤ 1000 ∧ ∀ a, H1 a = none → Q (.ref a) (upd H1 a (exo a C none))) := by
  refine ⟨fun pins t σ H Q I h => wpAny_Call_Name_kw (ld_glob I hg gC ?_ hdb)⟩
  refine PySem.W.callWith_K (h₀ := X.base) I.ok.mod.kin kC (thn (ha.run pos pins t σ H _ I h) fun us t1 ⟨vs, H1, J, r, hz, wish⟩ => ⟨J.kIn, ?_⟩) he hpl
  obtain ⟨bm, N, nm, qn, bs, hdct, sn, sub, ab, col, dd, k0, k1, k2, k3, k5, mN, hC, hN, hni, tl⟩ := exc_obj J.kIn q
  show wpAny _ _ (call (.ref C) us) _ _ _
  refine wpAny_call_exc_subT F tl hC hN hni (fun h' a hm => ?_) (by have := r.length; rw [sizeLine_eq]; omega)
  obtain ⟨t1, z, _, _⟩ := hm.there
  have na := J.hok.gone hm.new
  exact ⟨.ref a, _, J.laidN hm.keeps hm.new na (exo_ok z), rfl, wish a na⟩
def eMkX0 (k : Nat) : ME := fun _ st => .ok (.exn k []) st
theorem pem_mkx0 {k : Nat} {bmB : List Value} {B newId initId : String} {x : Str} (F : ExcBaseFacts B newId initId bmB) (q : PySem.W.excIn X.K (T.cls k) bmB newId = true) (gC : X.mg x = some (.ref (T.cls k))) (kC : PySem.W.keepIn X.K (.ref (T.cls k)) = true) (hg : Gl X x)
    (hdb : (x == ("__debug__" : Str)) = false := by decide) : PEm X T P Wx (.Call (.Name x p) [] [] pos) (eMkX0 k) :=
  PE.imp (pe_mk0 F q gC kC hg hdb) fun σ H Q ⟨c, env, st, hH, hE, hR⟩ a na => hR _ _ _ (le_still hH na _) (hH.still na _) (.exn (.inl ⟨rfl, upd_same⟩) .nil)
def eMkX1 (k : Nat) (m : ME) : ME := fun env st => (m env st).bind fun _ st1 => .ok (.exn k []) st1
theorem pem_mkx1 {k : Nat} {m : ME} {bmB : List Value} {B newId initId : String} {x : Str} (F : ExcBaseFacts B newId initId bmB) (q : PySem.W.excIn X.K (T.cls k) bmB newId = true) (gC : X.mg x = some (.ref (T.cls k))) (kC : PySem.W.keepIn X.K (.ref (T.cls k)) = true) (hg : Gl X x) (hm : PEm X T P Wx e m)
    (hdb : (x == ("__debug__" : Str)) = false := by decide) (he : starEach [e] X.env = (false, eval e X.env) :: starEach [] X.env := by rfl) (hpl : (backTo pos (starEach [] X.env)).any (·.1) = false := by rfl) : PEm X T P Wx (.Call (.Name x p) [e] [] pos) (eMkX1 k m) :=
  PE.imp (pe_mk1 F q gC kC hg (pa_cons hm pa_nil he) hdb he hpl) fun σ H Q ⟨c, env, st, hH, hE, hR⟩ => by
    refine (tg_bind hH hE hR).mono fun v H1 ⟨u, c1, st1, l1, hH1, hE1, r1, hR1⟩ => ⟨by simp, fun a na => ?_⟩
    exact hR1 _ _ _ (le_still hH1 na _) (hH1.still na _) (.exn (.inl ⟨rfl, upd_same⟩) .nil)
def tXfv (C : Addr) (f : Str) (te : TE) : TE := fun σ H Q => te σ H fun x H1 => ∃ (a d : Addr) (fs : List (Str × V)) (v : V), x = .ref a ∧ H1 a = some (exo a C (some d)) ∧ H1 d = some (exd d fs) ∧ fs.lookup f = some v ∧ Q v H1
theorem pe_xfv {C : Addr} {te : TE} {n : Str} (XF : XfC X.K C) (hno : PySem.W.findIn X.K (.ref C) n = some none) (he : PE X e te) (hb : attributeBase e n X.env (eval e X.env) = eval e X.env := by rfl) : PE X (.Attribute e n pos) (tXfv C n te) := by
  refine ⟨fun pins t σ H Q I h => attr_of hb (thn (he.run pins t σ H _ I h) fun u t1 z => ?_)⟩
  obtain ⟨x, H1, J, rx, a, d, fs, v, ex, ea, ed, l, q⟩ := z
  subst ex
  cases (show u = Value.ref a from rx)
  obtain ⟨tt, ho⟩ := exo_at J.hok ea
  obtain ⟨mA, hns, rel⟩ := exd_at J.hok ed
  obtain ⟨od, hod, hl⟩ := lookIn_ns hns
  obtain ⟨w, hw, rw⟩ := RelO.some_of (v := v) (o := mA n) (by rw [← l]; exact rel n)
  have IA : PySem.W.InstAt t1.heap a _ C (some od) := ⟨ho, rfl, rfl, hod⟩
  exact HandSPX.exc_get J.kIn IA XF.ga XF.gg XF.exC (PySem.W.findObj_own XF.hdC hno rfl (by rw [hl, hw])) (handed_of rw) ⟨v, H1, J.tok _, rw, q⟩
def eFldX (k j : Nat) (m : ME) : ME := fun env st => (m env st).bind fun u st1 => match u with
  | .exn k' us => if k' = k then (match us[j]? with
    | some w => .ok w st1
    | none => .bad) else .bad
  | _ => .bad
theorem pem_fldX {f : Str} {k j : Nat} {m : ME} (XF : XfC X.K (T.cls k)) (nm : (T.fld k)[j]? = some f) (nd : (T.fld k).Nodup) (hno : PySem.W.findIn X.K (.ref (T.cls k)) f = some none) (he : PEm X T P Wx e m) (hb : attributeBase e f X.env (eval e X.env) = eval e X.env := by rfl) :
    PEm X T P Wx (.Attribute e f pos) (eFldX k j m) := PE.imp (pe_xfv XF hno he hb) fun σ H Q ⟨c, env, st, hH, hE, hR⟩ => by
  refine (tg_bind hH hE hR).mono fun x H1 ⟨u, c1, st1, l1, hH1, hE1, r1, hR1⟩ => ?_
  cases u with
  | exn k' us =>
    dsimp only at hR1
    split at hR1
    · rename_i hk
      subst hk
      split at hR1
      · rename_i w q
        obtain ⟨a, vs, rfl, hx, r⟩ := r1.inv_exn
        obtain ⟨v, hv, rv⟩ := r.get q
        rcases hx with ⟨rfl, _⟩ | ⟨d, h1, h2, h3⟩
        · cases hv
        · exact ⟨a, d, _, v, rfl, hH1.sub _ _ h1, hH1.sub _ _ h2, zrl nd nm hv, hR1.ret hH1 rv⟩
      · exact hR1.elim
    · exact hR1.elim
  | _ => exact hR1.elim
def rIsX (K : PySem.W.Frag) (cx : V) (cv : Value) : List V → Hp → VK → Prop := fun xs H Q => ∃ (a D : Addr) (b : Bool), xs = [.ref a, cx] ∧ (H a = some (exo a D none) ∨ ∃ d fs, H a = some (exo a D (some d)) ∧ H d = some (exd d fs)) ∧ ExcC K D ∧ PySem.W.kitOne K (.ref D) cv = some b ∧ Q (.bl b) H
theorem call_isX {cx : V} {cv : Value} (hc : ∀ u, RelV cx u → u = cv) : CallR X (.builtin "isinstance") (rIsX X.K cx cv) := by
  intro pins t σ H xs us Q I r h
  obtain ⟨a, D, b, rfl, hx, O, ek, q⟩ := h
  cases r with
  | cons r1 r =>
    cases r with
    | cons r2 r =>
      cases r
      cases r1
      have e2 := hc _ r2
      subst e2
      rcases hx with ea | ⟨d, fs, ea, ed⟩
      · obtain ⟨tt, ho⟩ := exo_at I.hok ea
        have J : PySem.W.InstAt t.heap a _ D none := ⟨ho, rfl, rfl, trivial⟩
        exact PySem.W.kia_one (PySem.W.handS_kitx_exc O.hg O.hk O.hs O.hd O.ha O.hn O.ht O.hm) I.kIn J ek (fun z => nomatch z) fun tk => ⟨.bl b, H, I.tok tk, rfl, q⟩
      · obtain ⟨tt, ho⟩ := exo_at I.hok ea
        obtain ⟨mA, hns, rel⟩ := exd_at I.hok ed
        obtain ⟨od, hod, _⟩ := lookIn_ns hns
        have J : PySem.W.InstAt t.heap a _ D (some od) := ⟨ho, rfl, rfl, hod⟩
        exact PySem.W.kia_one (PySem.W.nk_kitx_exc O.hg O.hk O.hs O.hd O.ha O.hn O.ht O.hm) I.kIn J ek (fun z => nomatch z) fun tk => ⟨.bl b, H, I.tok tk, rfl, q⟩
def eIsX (f : Nat → Option Bool) (m : ME) : ME := fun env st => (m env st).bind fun u st1 => match u with
  | .exn k _ => match f k with
    | some b => .ok (.bl b) st1
    | none => .bad
  | _ => .bad
theorem pem_isX {f : Nat → Option Bool} {m : ME} {e2 : Expr} {cx : V} {cv : Value} (hK : X.K = T.K) (hex : ∀ k b, f k = some b → ExcC X.K (T.cls k) ∧ PySem.W.kitOne X.K (.ref (T.cls k)) cv = some b) (hc : ∀ u, RelV cx u → u = cv) (he : PEm X T P Wx e m) (he2 : PE X e2 (tC cx)) (hg : Gl X "isinstance") (hm : X.mg "isinstance" = none)
    (hs : starEach [e, e2] X.env = (false, eval e X.env) :: starEach [e2] X.env := by rfl) (hs2 : starEach [e2] X.env = (false, eval e2 X.env) :: starEach [] X.env := by rfl) (hpl : (backTo pos (starEach [e2] X.env)).any (·.1) = false := by rfl) :
    PEm X T P Wx (.Call (.Name "isinstance" p) [e, e2] [] pos) (eIsX f m) :=
  PE.imp (pe_callB (call_isX hc) hg hm PyProof.Rows.Boot.«isinstance» (pa_cons he (pa_cons he2 pa_nil hs2) hs) (by decide) (by decide) hs hpl) fun σ H Q ⟨c, env, st, hH, hE, hR⟩ => by
    refine (tg_bind hH hE hR).mono fun x H1 ⟨u, c1, st1, l1, hH1, hE1, r1, hR1⟩ => ?_
    cases u with
    | exn k us =>
      dsimp only at hR1
      split at hR1
      · rename_i b q
        obtain ⟨a, vs, rfl, hx, r⟩ := r1.inv_exn
        obtain ⟨O, ek⟩ := hex _ _ q
        refine ⟨a, T.cls k, b, rfl, ?_, O, ek, hR1.ret hH1 (.bl b)⟩
        rcases hx with ⟨_, h1⟩ | ⟨d, h1, h2, h3⟩
        · exact .inl (hH1.sub _ _ h1)
        · exact .inr ⟨d, _, hH1.sub _ _ h1, hH1.sub _ _ h2⟩
      · exact hR1.elim
    | _ => exact hR1.elim
end
end NK

namespace NK
open PySem L2 He
structure XI (P : Program) (K : PySem.W.Frag) (C : Addr) (d : DefD) (f cda cc : Addr) (fd : FuncData) (fs : List Str) : Prop where
  fn : ∃ (oc : Value) (od : Option Addr) (osl : Array (Option Value)) (dV kV doc pm : Value) (an : Option Addr) (ct : Value), dfI K dV = xdf d ∧ fd = PySem.W.ksFn d.name d.qual d.params d.body d.scope dV kV doc pm an (.ref cda) ct cc ∧ K.lookup f = some ⟨oc, od, .func fd, osl⟩ ∧ PySem.W.codeIn K (.ref cda) d.qual = true
  code : ∃ ccl cdd vs ccs tf, K.lookup cda = some ⟨ccl, cdd, .fields vs, ccs⟩ ∧ (vs[2]? : Option Value) = some (Value.str (P.main.file : Str) tf)
  cell : ∃ cl cld csl, K.lookup cc = some ⟨cl, cld, .cell (some (.ref C)), csl⟩
  ei : PySem.W.findIn K (.ref C) "__init__" = some (some (.ref f))
  et : PySem.W.typeIn K (.ref f) = some (.type "function")
  oe : OexC K C
  xf : XfC K C
  su : PySem.W.ks_superIn K C C "__init__" = some (some (.builtin "ValueError.__init__"))
  iv : PySem.W.subIn K (.ref C) (.type "ValueError") = some true
  se : PySem.W.mroIn K C (.ref C) = some true
  no : ∀ x ∈ fs, PySem.W.findIn K (.ref C) x = some none
theorem XI.sup {P : Program} {K : PySem.W.Frag} {mg : Str → Option Value} {C f cda cc : Addr} {d : DefD} {fd : FuncData} {fs N ps : List Str} (X : XI P K C d f cda cc fd fs) (opq : PySem.W.nsIn K cStatics "thirdparty.any" = some none) (ms : mg "super" = none)
    (kind : d.scope.kind = .function) (co : d.scope.isCoroutine = false) (gen : d.scope.isGenerator = false) (nd : N.Nodup) (pre : N.take ps.length = ps) (par : ∀ x ∈ ps, d.scope.names.lookup x = some .local) (noc : ∀ y ∈ d.scope.names, y.2 ≠ .cell)
    (free : ∀ y, d.scope.names.lookup y = some .free → y = ("__class__" : Str)) (ks : d.scope.names.lookup ("super" : Str) = some .globalImplicit) (kc : d.scope.names.lookup ("__class__" : Str) = some .free) (top : (P.main.scope.names.lookup ("super" : Str)).isSome = false) : Sup P K mg N ps d.scope C cda cc := by
  obtain ⟨a1, a2, a3, a4, a5, a6, a7⟩ := X.code
  exact ⟨kind, co, gen, nd, pre, par, noc, free, ks, kc, ⟨a1, a2, a3, a4, _, a5, a6, a7, beq_iff_eq.mpr rfl⟩, X.cell, X.oe, X.su, X.iv, X.se, opq, ms, top⟩
def xcB (K : PySem.W.Frag) (C f : Addr) (fs : List Str) : Bool :=
  decide (PySem.W.findIn K (.ref C) "__init__" = some (some (.ref f))) && (decide (PySem.W.typeIn K (.ref f) = some (.type "function")) && (oexB K C && (decide (PySem.W.findIn K (.ref C) "__setattr__" = some (some (.builtin "object.__setattr__"))) &&
  (decide (PySem.W.keepIn K (.ref C) = true) && (decide (PySem.W.ks_superIn K C C "__init__" = some (some (.builtin "ValueError.__init__"))) && fs.all fun x => decide (PySem.W.findIn K (.ref C) x = some none))))))
def xaB (K : PySem.W.Frag) (C : Addr) : Bool :=
  decide (PySem.W.findIn K (.ref C) "__getattribute__" = some (some (.builtin "BaseException.__getattribute__"))) && (decide (PySem.W.findIn K (.ref C) "__getattr__" = some none) && (PySem.W.hasDictIn K C &&
  (decide (PySem.W.findIn K (.ref C) "__class__" = some (some (.builtin "object.__class__"))) && decide (PySem.W.typeIn K (.ref C) = some (.type "type")))))
def veL : List Value := [.type "ValueError", .type "Exception", .type "BaseException", .type "object"]
def mroB (K : PySem.W.Frag) (C : Addr) (up : List Addr) : Bool := match PySem.W.clsIn K C with
  | some cd => cd.mro == (C :: up).map Value.ref ++ veL
  | none => false
theorem mroB_ok {K : PySem.W.Frag} {C : Addr} {up : List Addr} (h : mroB K C up = true) : PySem.W.isClsIn K C = true ∧ ∀ v, PySem.W.subIn K (.ref C) v = some (((C :: up).map Value.ref ++ veL).contains v) := by
  unfold mroB at h
  split at h
  · rename_i cd e
    have e2 := beq_iff_eq.mp h
    refine ⟨by unfold PySem.W.isClsIn; rw [e]; rfl, fun v => ?_⟩
    show PySem.W.mroIn K C v = _
    unfold PySem.W.mroIn
    rw [e, Option.bind_some, e2]
    rfl
  · cases h
theorem kitR {K : PySem.W.Frag} {C : Addr} {t : Value} {b : Bool} (hne : (t == .ref C) = true → b = true) (hc : PySem.W.isClsIn K C = true) (ht : PySem.W.typeIn K (.ref C) = some (.type "type")) (hs : PySem.W.subIn K t (.ref C) = some b) : PySem.W.kitOne K t (.ref C) = some b := by
  unfold PySem.W.kitOne
  split
  · rename_i h
    rw [hne h]
  · have hc' : (PySem.W.clsIn K C).isSome = true := hc
    have e2 : ((PySem.W.clsIn K C).isSome && PySem.W.typeIn K (.ref C) == some (.type "type")) = true := by
      rw [hc', ht]
      rfl
    show (if ((PySem.W.clsIn K C).isSome && PySem.W.typeIn K (.ref C) == some (.type "type")) = true then PySem.W.subIn K t (.ref C) else none) = some b
    rw [if_pos e2]
    exact hs
theorem kitV {K : PySem.W.Frag} {t : Value} {n : String} {b : Bool} (hne : (t == .type n) = false) (hm : PySem.W.kitMeta n = true) (hs : PySem.W.subIn K t (.type n) = some b) : PySem.W.kitOne K t (.type n) = some b := by
  unfold PySem.W.kitOne
  rw [hne]
  show (if PySem.W.kitMeta n = true then PySem.W.subIn K t (.type n) else none) = some b
  rw [if_pos hm]
  exact hs
structure XA (K : PySem.W.Frag) (C : Addr) : Prop where
  ga : PySem.W.findIn K (.ref C) "__getattribute__" = some (some (.builtin "BaseException.__getattribute__"))
  gg : PySem.W.findIn K (.ref C) "__getattr__" = some none
  hd : PySem.W.hasDictIn K C = true
  ha : PySem.W.findIn K (.ref C) "__class__" = some (some (.builtin "object.__class__"))
  ty : PySem.W.typeIn K (.ref C) = some (.type "type")
theorem xaB_ok {K : PySem.W.Frag} {C : Addr} (h : xaB K C = true) : XA K C := by
  obtain ⟨h1, h⟩ := ba h
  obtain ⟨h2, h⟩ := ba h
  obtain ⟨h3, h⟩ := ba h
  obtain ⟨h4, h5⟩ := ba h
  exact ⟨of_decide_eq_true h1, of_decide_eq_true h2, h3, of_decide_eq_true h4, of_decide_eq_true h5⟩
theorem XA.exc {K : PySem.W.Frag} {C : Addr} {up : List Addr} (A : XA K C) (m : mroB K C up = true) (hn : PySem.W.specialIn K (.builtin "object.__class__") "__get__" = some (some (.builtin "getset_descriptor.__get__"))) (ht : PySem.W.takesIn K (.builtin "object.__class__") = some true) : ExcC K C := by
  have q := (mroB_ok m).2
  have c1 : ∀ v ∈ veL, ((C :: up).map Value.ref ++ veL).contains v = true := fun v hv => by
    rw [List.contains_iff_mem]
    exact List.mem_append_right _ hv
  exact ⟨A.ga, A.gg, (q _).trans (congrArg some (c1 _ (by simp [veL]))), A.hd, A.ha, hn, ht, (q _).trans (congrArg some (c1 _ (by simp [veL])))⟩
theorem xcB_ok {P : Program} {K : PySem.W.Frag} {d : DefD} {fs : List Str} {up : List Addr} {fd : FuncData} (A : XA K (ga K d.at_.1)) (m : mroB K (ga K d.at_.1) up = true) (h : xcB K (ga K d.at_.1) (fAd K d.at_) fs = true)
    (fn : ∃ (oc : Value) (od : Option Addr) (osl : Array (Option Value)) (dV kV doc pm : Value) (an : Option Addr) (ct : Value), dfI K dV = xdf d ∧ fd = PySem.W.ksFn d.name d.qual d.params d.body d.scope dV kV doc pm an (.ref (codeOf K d.at_)) ct (ccA K d.at_) ∧ K.lookup (fAd K d.at_) = some ⟨oc, od, .func fd, osl⟩ ∧ PySem.W.codeIn K (.ref (codeOf K d.at_)) d.qual = true)
    (code : ∃ ccl cdd vs ccs tf, K.lookup (codeOf K d.at_) = some ⟨ccl, cdd, .fields vs, ccs⟩ ∧ (vs[2]? : Option Value) = some (Value.str (P.main.file : Str) tf)) (cell : ∃ cl cld csl, K.lookup (ccA K d.at_) = some ⟨cl, cld, .cell (some (.ref (ga K d.at_.1))), csl⟩) :
    XI P K (ga K d.at_.1) d (fAd K d.at_) (codeOf K d.at_) (ccA K d.at_) fd fs := by
  obtain ⟨h1, h⟩ := ba h
  obtain ⟨h2, h⟩ := ba h
  obtain ⟨h3, h⟩ := ba h
  obtain ⟨h4, h⟩ := ba h
  obtain ⟨h5, h⟩ := ba h
  obtain ⟨h6, h7⟩ := ba h
  have q := (mroB_ok m).2
  have c1 : ∀ v ∈ veL, ((ga K d.at_.1 :: up).map Value.ref ++ veL).contains v = true := fun v hv => by
    rw [List.contains_iff_mem]
    exact List.mem_append_right _ hv
  have b1 : PySem.W.subIn K (.ref (ga K d.at_.1)) (.type "BaseException") = some true := (q _).trans (congrArg some (c1 _ (by simp [veL])))
  refine ⟨fn, code, cell, of_decide_eq_true h1, of_decide_eq_true h2, ⟨oexB_ok h3, of_decide_eq_true h4, b1, A.ty, of_decide_eq_true h5⟩, ⟨A.ga, A.gg, b1, A.hd⟩, of_decide_eq_true h6, (q _).trans (congrArg some (c1 _ (by simp [veL]))), (q _).trans (congrArg some ?_), fun x hx => ?_⟩
  · rw [List.contains_iff_mem]
    exact List.mem_append_left _ (List.mem_map.mpr ⟨_, List.mem_cons_self, rfl⟩)
  · exact of_decide_eq_true (List.all_eq_true.mp h7 x hx)
theorem dfI_no {K : PySem.W.Frag} {dV : Value} (h : dfI K dV = none) : dV = .none := by
  unfold dfI at h
  split at h
  · rfl
  · split at h <;> cases h
  · cases h
theorem lookup_memX {l : List (Str × NameKind)} {y : Str} {v : NameKind} (h : l.lookup y = some v) : (y, v) ∈ l := by
  induction l with
  | nil => cases h
  | cons p l ih =>
    obtain ⟨x, u⟩ := p
    rw [List.lookup] at h
    split at h
    · rename_i e
      cases h
      rw [beq_iff_eq.mp e]
      exact List.mem_cons_self
    · exact List.mem_cons_of_mem _ (ih h)
theorem fs1 {a b : Str} {m n : Nat} (ha : a.length ≤ m) (hb : b.length ≤ n) : (a ++ b).length ≤ m + n := by
  rw [strLen_append]
  omega
theorem fs2 {a b : Str} {m n : Nat} (ha : a.length ≤ m) (hb : b.length ≤ n) (h : m + n ≤ 16777216) : (a ++ b).length ≤ sizeLine := by
  rw [strLen_append, sizeLine_eq]
  omega
theorem kit_all {K : PySem.W.Frag} {cs : List Addr} {c0 : Addr} (h0 : cs[0]? = some c0) (nd : cs.Nodup) (m : ∀ i C, cs[i]? = some C → mroB K C (if i = 0 then [] else [c0]) = true) (A : ∀ C ∈ cs, XA K C) {i j : Nat} {C D : Addr} (hi : cs[i]? = some C) (hj : cs[j]? = some D) :
    PySem.W.kitOne K (.ref C) (.ref D) = some (i == j || j == 0) := by
  have same : C = D → i = j := fun e => by
    subst e
    obtain ⟨l1, e1⟩ := List.getElem?_eq_some_iff.mp hi
    obtain ⟨l2, e2⟩ := List.getElem?_eq_some_iff.mp hj
    exact (List.getElem_inj nd).mp (e1.trans e2.symm)
  have zero : D = c0 ↔ j = 0 := by
    constructor
    · intro e
      subst e
      obtain ⟨l1, e1⟩ := List.getElem?_eq_some_iff.mp h0
      obtain ⟨l2, e2⟩ := List.getElem?_eq_some_iff.mp hj
      exact (List.getElem_inj nd).mp (e2.trans e1.symm)
    · intro e
      subst e
      rw [h0] at hj
      exact (Option.some.inj hj).symm
  refine kitR (fun h => ?_) (mroB_ok (m j D hj)).1 (A D (List.mem_of_getElem? hj)).ty (((mroB_ok (m i C hi)).2 (.ref D)).trans (congrArg some ?_))
  · have e := same (Value.ref.inj (beq_iff_eq.mp h))
    rw [e]
    simp
  · rw [Bool.eq_iff_iff, List.contains_iff_mem]
    have ve : ¬ Value.ref D ∈ veL := fun h => by simp [veL] at h
    constructor
    · intro h
      rcases List.mem_append.mp h with h | h
      · obtain ⟨z, hz, e⟩ := List.mem_map.mp h
        have e2 : z = D := Value.ref.inj e
        subst e2
        rcases List.mem_cons.mp hz with e | hz
        · rw [same e.symm]
          simp
        · by_cases h0' : i = 0
          · rw [if_pos h0'] at hz
            cases hz
          · rw [if_neg h0'] at hz
            rw [zero.mp (List.mem_singleton.mp hz)]
            simp
      · exact absurd h ve
    · intro h
      rw [Bool.or_eq_true, beq_iff_eq, beq_iff_eq] at h
      refine List.mem_append_left _ (List.mem_map.mpr ⟨D, ?_, rfl⟩)
      rcases h with e | e
      · subst e
        rw [hi] at hj
        cases hj
        exact List.mem_cons_self
      · have e1 := zero.mpr e
        by_cases h0' : i = 0
        · rw [h0', h0] at hi
          cases hi
          rw [e1]
          exact List.mem_cons_self
        · rw [if_neg h0', e1]
          exact List.mem_cons_of_mem _ (List.mem_singleton.mpr rfl)
def fdOf (K : PySem.W.Frag) (p : Str × Option Str) (z : FuncData) : FuncData := match K.lookup (fAd K p) with
  | some ⟨_, _, .func fd, _⟩ => fd
  | _ => z
theorem fdOf_eq {K : PySem.W.Frag} {p : Str × Option Str} {z fd : FuncData} {oc : Value} {od : Option Addr} {osl : Array (Option Value)} (h : K.lookup (fAd K p) = some ⟨oc, od, .func fd, osl⟩) : fdOf K p z = fd := by
  unfold fdOf
  rw [h]
theorem dfI_one {K : PySem.W.Frag} {dV : Value} (h : dfI K dV = some [.none]) : ∃ (D : Addr) (o : Obj) (its : Array Value) (n : Nat), dV = .ref D ∧ K.lookup D = some o ∧ o.data = .seq its n ∧ its = #[Value.none] := by
  unfold dfI at h
  split at h
  · cases h
  · rename_i D
    split at h
    · rename_i o1 o2 its n o3 q
      refine ⟨D, _, its, n, rfl, q, rfl, ?_⟩
      obtain ⟨l⟩ := its
      have e := Option.some.inj h
      dsimp only at e
      rw [e]
    · cases h
  · cases h
end NK
namespace NK
open PySem PySem.Spec PyProof.Rows L2
theorem walk_ofNQ {l : PySem.W.OpenLaw} {n k : Nat} {q : Program} {loose : List Str} {XP : (Str → Option Value) → Heap → Prop} {YP : World → Heap → Prop} {d : DefRec} {CX : World → CXT} {x : Str}
    (hn : l.most = some n) (hn2 : n ≤ sizeLine) (hdf : d.params.defaults = []) (room : Room k callerA) (gd : callerA.guards = some [])
    (F : ∀ (w : World) (mg : Str → Option Value) (fa : Addr) (h : Heap), YP w h → h.Ns mainGlobals mg → mg d.name = some (.ref fa) →
      ∃ (K : PySem.W.Frag) (fd : FuncData) (sp : Sp), K.In h ∧ (∀ (s : Shared) (u : Value), BindsTo s fd ⟨[u], []⟩ [(x, u)]) ∧
        (∀ (H : Hp) (a : Addr) (ns : List Int), ns.length ≤ n → SqL K H a (ns.map V.int) → sp [.ref a] H (fun v _ => v = .bl true) fun _ _ _ => False) ∧
        ∀ base : Heap, K.In base → base.Ns mainGlobals mg → FnQ l.prog w K mg base (CX w) k fa fd [x] sp)
    (quiet : ∀ (w : World) (H : Hp) (s : Shared) (e : Value) (s' : Shared), CX w [] H s (fun _ _ _ => False) e s' → False) :
    PySem.W.WalkO q loose XP YP l.row.toRowW d [] (fun f vs => PySem.call f vs) := by
  refine Att.attach_call hn hdf fun w s0 s1 mg mb fa o pm cd doc a vs ns G Y ho hd hcd hmg hobj hints hlen hg => ?_
  obtain ⟨K, fd, sp, kin, bind, wish, go⟩ := F w mg fa _ Y G.T.g hmg
  exact law_callQ (cs := []) kin G.T.g G.T.b G.T.builtins G.T.nolimit hg (fun p hp => nomatch hp) (fun p hp => nomatch hp) (fun p hp => nomatch hp) (fun z => absurd rfl z) hobj hints (Nat.le_trans hlen hn2) gd room (fun base h1 h2 _ => go base h1 h2) bind (fun H _ hS => wish H a ns hlen hS) fun H e t' => quiet w H s1 e t'
end NK
namespace NK
open PySem L2 He
theorem map_at {α β : Type} {X : Option α} {f : α → β} {v : β} (h : X.map f = some v) : ∃ s, X = some s ∧ f s = v := by
  cases X with
  | none => cases h
  | some s => exact ⟨s, rfl, Option.some.inj h⟩
theorem map_as {α β : Type} {X : Option α} {f : α → β} {v : β} {s : α} (e : X = some s) (h : X.map f = some v) : f s = v := by
  rw [e] at h
  exact Option.some.inj h
theorem run_parts {α σ : Type} {X : Option σ} {lk : σ → Bool} {sn : σ → α} {good : α} {KK : σ → PySem.W.Frag} {fn xi : List DefD} {file : Str} {ea eb ec ed ex : PySem.W.Frag → Bool} (hx : ∀ K, ex K = (ea K && (eb K && (ec K && ed K))))
    (h1 : X.map (fun s => (lk s, sn s, ea (KK s))) = some (true, good, true)) (h2 : X.map (fun s => (fn.all (fun d => d.ok (KK s)), fn.map (fun d => fnW (KK s) d.at_), eb (KK s))) = some (true, fn.map DefD.val, true))
    (h3 : X.map (fun s => (xi.all (fun d => xiB (KK s) d file), xi.map fun d => xiW (KK s) d.at_)) = some (true, xi.map xiV)) (h4 : X.map (fun s => ec (KK s)) = some true) (h5 : X.map (fun s => ed (KK s)) = some true) :
    X.map (fun s => (lk s, sn s, obsN ex fn xi file (KK s))) = some (true, good, valN fn xi) := by
  obtain ⟨s, e, a1⟩ := map_at h1
  have a2 := map_as e h2
  have a3 := map_as e h3
  have a4 := map_as e h4
  have a5 := map_as e h5
  rw [e]
  have b1 : lk s = true := congrArg (fun z : Bool × α × Bool => z.1) a1
  have b2 : sn s = good := congrArg (fun z : Bool × α × Bool => z.2.1) a1
  have b3 : ea (KK s) = true := congrArg (fun z : Bool × α × Bool => z.2.2) a1
  have c1 : fn.all (fun d => d.ok (KK s)) = true := congrArg (fun z : Bool × List FnW × Bool => z.1) a2
  have c2 : fn.map (fun d => fnW (KK s) d.at_) = fn.map DefD.val := congrArg (fun z : Bool × List FnW × Bool => z.2.1) a2
  have c3 : eb (KK s) = true := congrArg (fun z : Bool × List FnW × Bool => z.2.2) a2
  have d1 : xi.all (fun d => xiB (KK s) d file) = true := congrArg (fun z : Bool × List XiW => z.1) a3
  have d2 : xi.map (fun d => xiW (KK s) d.at_) = xi.map xiV := congrArg (fun z : Bool × List XiW => z.2) a3
  show some (lk s, sn s, (ex (KK s) && (fn.all (fun d => d.ok (KK s)) && xi.all fun d => xiB (KK s) d file), fn.map (fun d => fnW (KK s) d.at_), xi.map fun d => xiW (KK s) d.at_)) = some (true, good, (true, fn.map DefD.val, xi.map xiV))
  rw [b1, b2, hx, b3, c3, a4, a5, c1, c2, d1, d2]
  rfl
end NK

set_option maxHeartbeats 4000000
namespace G
open PySem L2 NK
def top (i : Nat) : Stmt := PySem.Challenge.pw_namesakes_k00_errors_side_by_side.main.body.getD i (.Pass ⟨0, 0, 0, 0⟩)
abbrev PW : Program := PySem.Challenge.pw_namesakes_k00_errors_side_by_side
abbrev s_u_law_hand : Stmt := (top 57)
abbrev s_u_law_mix : Stmt := (top 56)
abbrev s_u_law_draw : Stmt := (top 58)
abbrev s_u_law_pick : Stmt := (top 59)
abbrev s_u_law_thing : Stmt := (top 60)
abbrev s_u_law_made : Stmt := (top 62)
abbrev s_u_law_fields : Stmt := (top 63)
abbrev s_u_law_kinds : Stmt := (top 61)
abbrev s_law : Stmt := (top 64)
abbrev sx_BadRecord : Stmt := (inClass (top 2) 0)
abbrev sx_NoPerson : Stmt := (inClass (top 3) 0)
abbrev sx_BadWay : Stmt := (inClass (top 4) 0)
abbrev sx_NoRow : Stmt := (inClass (top 5) 0)
abbrev sx_BadWidth : Stmt := (inClass (top 6) 0)
abbrev sx_BadText : Stmt := (inClass (top 7) 0)
abbrev sx_BadPairs : Stmt := (inClass (top 8) 0)
abbrev sx_BadCondition : Stmt := (inClass (top 9) 0)
abbrev sx_BadClause : Stmt := (inClass (top 10) 0)
abbrev sx_BadCustom : Stmt := (inClass (top 11) 0)
abbrev sx_BadKind : Stmt := (inClass (top 12) 0)
abbrev sx_TooWide : Stmt := (inClass (top 13) 0)
abbrev sx_BadChoice : Stmt := (inClass (top 14) 0)
abbrev sx_NoCouple : Stmt := (inClass (top 15) 0)
abbrev sx_NoPlace : Stmt := (inClass (top 16) 0)
abbrev sx_NoRoot : Stmt := (inClass (top 17) 0)
abbrev sx_BadOrder : Stmt := (inClass (top 18) 0)
abbrev sx_BadPattern : Stmt := (inClass (top 19) 0)
abbrev sx_BadNames : Stmt := (inClass (top 20) 0)
abbrev sx_BadPlaces : Stmt := (inClass (top 21) 0)
abbrev sx_BadClass : Stmt := (inClass (top 22) 0)
abbrev sx_BadMatch : Stmt := (inClass (top 23) 0)
abbrev sx_BadCount : Stmt := (inClass (top 24) 0)
abbrev sx_BadIndex : Stmt := (inClass (top 25) 0)
abbrev sx_BadJoining : Stmt := (inClass (top 26) 0)
abbrev sx_NoRenaming : Stmt := (inClass (top 27) 0)
abbrev sx_BadScope : Stmt := (inClass (top 28) 0)
abbrev sx_BadState : Stmt := (inClass (top 29) 0)
abbrev sx_BadTable : Stmt := (inClass (top 30) 0)
abbrev sx_BadPlay : Stmt := (inClass (top 31) 0)
abbrev sx_NeverComes : Stmt := (inClass (top 32) 0)
abbrev sx_NotUnwed : Stmt := (inClass (top 33) 0)
abbrev sx_BadAsked : Stmt := (inClass (top 34) 0)
abbrev sx_TooLong : Stmt := (inClass (top 35) 0)
abbrev sx_NoWays : Stmt := (inClass (top 36) 0)
abbrev sx_NoState : Stmt := (inClass (top 37) 0)
abbrev sx_BadWord : Stmt := (inClass (top 38) 0)
abbrev sx_BadLength : Stmt := (inClass (top 39) 0)
abbrev sx_BadOrigin : Stmt := (inClass (top 40) 0)
abbrev sx_NotLet : Stmt := (inClass (top 41) 0)
abbrev sx_BadNumber : Stmt := (inClass (top 42) 0)
abbrev sx_BadLine : Stmt := (inClass (top 43) 0)
abbrev sx_BadGeneration : Stmt := (inClass (top 44) 0)
abbrev sx_BadPair : Stmt := (inClass (top 46) 0)
abbrev sx_BadLand : Stmt := (inClass (top 47) 0)
abbrev sx_BadSecond : Stmt := (inClass (top 48) 0)
abbrev sx_BadPage : Stmt := (inClass (top 49) 0)
abbrev sx_BadSeen : Stmt := (inClass (top 50) 0)
abbrev sx_BadFilling : Stmt := (inClass (top 51) 0)
abbrev sx_BadNotice : Stmt := (inClass (top 52) 0)
abbrev sx_BadChange : Stmt := (inClass (top 53) 0)
abbrev sx_BadPrices : Stmt := (inClass (top 54) 0)
def cn : List PySem.Str := ("CustomError" : PySem.Str) :: ("BadRecord" : PySem.Str) :: ("NoPerson" : PySem.Str) :: ("BadWay" : PySem.Str) :: ("NoRow" : PySem.Str) :: ("BadWidth" : PySem.Str) :: ("BadText" : PySem.Str) :: ("BadPairs" : PySem.Str) :: ("BadCondition" : PySem.Str) :: ("BadClause" : PySem.Str) :: ("BadCustom" : PySem.Str) :: ("BadKind" : PySem.Str) :: ("TooWide" : PySem.Str) :: ("BadChoice" : PySem.Str) :: ("NoCouple" : PySem.Str) :: ("NoPlace" : PySem.Str) :: ("NoRoot" : PySem.Str) :: ("BadOrder" : PySem.Str) :: ("BadPattern" : PySem.Str) :: ("BadNames" : PySem.Str) :: ("BadPlaces" : PySem.Str) :: ("BadClass" : PySem.Str) :: ("BadMatch" : PySem.Str) :: ("BadCount" : PySem.Str) :: ("BadIndex" : PySem.Str) :: ("BadJoining" : PySem.Str) :: ("NoRenaming" : PySem.Str) :: ("BadScope" : PySem.Str) :: ("BadState" : PySem.Str) :: ("BadTable" : PySem.Str) :: ("BadPlay" : PySem.Str) :: ("NeverComes" : PySem.Str) :: ("NotUnwed" : PySem.Str) :: ("BadAsked" : PySem.Str) :: ("TooLong" : PySem.Str) :: ("NoWays" : PySem.Str) :: ("NoState" : PySem.Str) :: ("BadWord" : PySem.Str) :: ("BadLength" : PySem.Str) :: ("BadOrigin" : PySem.Str) :: ("NotLet" : PySem.Str) :: ("BadNumber" : PySem.Str) :: ("BadLine" : PySem.Str) :: ("BadGeneration" : PySem.Str) :: ("UnlikePlans" : PySem.Str) :: ("BadPair" : PySem.Str) :: ("BadLand" : PySem.Str) :: ("BadSecond" : PySem.Str) :: ("BadPage" : PySem.Str) :: ("BadSeen" : PySem.Str) :: ("BadFilling" : PySem.Str) :: ("BadNotice" : PySem.Str) :: ("BadChange" : PySem.Str) :: ("BadPrices" : PySem.Str) :: []
def df_BadRecord : He.DefD := ⟨("BadRecord", some "__init__"), "__init__", "BadRecord.__init__", defArgs sx_BadRecord, defBody sx_BadRecord, defScope sx_BadRecord, [], []⟩
def df_NoPerson : He.DefD := ⟨("NoPerson", some "__init__"), "__init__", "NoPerson.__init__", defArgs sx_NoPerson, defBody sx_NoPerson, defScope sx_NoPerson, [], []⟩
def df_BadWay : He.DefD := ⟨("BadWay", some "__init__"), "__init__", "BadWay.__init__", defArgs sx_BadWay, defBody sx_BadWay, defScope sx_BadWay, [], []⟩
def df_NoRow : He.DefD := ⟨("NoRow", some "__init__"), "__init__", "NoRow.__init__", defArgs sx_NoRow, defBody sx_NoRow, defScope sx_NoRow, [], []⟩
def df_BadWidth : He.DefD := ⟨("BadWidth", some "__init__"), "__init__", "BadWidth.__init__", defArgs sx_BadWidth, defBody sx_BadWidth, defScope sx_BadWidth, [], []⟩
def df_BadText : He.DefD := ⟨("BadText", some "__init__"), "__init__", "BadText.__init__", defArgs sx_BadText, defBody sx_BadText, defScope sx_BadText, [], []⟩
def df_BadPairs : He.DefD := ⟨("BadPairs", some "__init__"), "__init__", "BadPairs.__init__", defArgs sx_BadPairs, defBody sx_BadPairs, defScope sx_BadPairs, [], []⟩
def df_BadCondition : He.DefD := ⟨("BadCondition", some "__init__"), "__init__", "BadCondition.__init__", defArgs sx_BadCondition, defBody sx_BadCondition, defScope sx_BadCondition, [], []⟩
def df_BadClause : He.DefD := ⟨("BadClause", some "__init__"), "__init__", "BadClause.__init__", defArgs sx_BadClause, defBody sx_BadClause, defScope sx_BadClause, [], []⟩
def df_BadCustom : He.DefD := ⟨("BadCustom", some "__init__"), "__init__", "BadCustom.__init__", defArgs sx_BadCustom, defBody sx_BadCustom, defScope sx_BadCustom, [], []⟩
def df_BadKind : He.DefD := ⟨("BadKind", some "__init__"), "__init__", "BadKind.__init__", defArgs sx_BadKind, defBody sx_BadKind, defScope sx_BadKind, [], []⟩
def df_TooWide : He.DefD := ⟨("TooWide", some "__init__"), "__init__", "TooWide.__init__", defArgs sx_TooWide, defBody sx_TooWide, defScope sx_TooWide, [], []⟩
def df_BadChoice : He.DefD := ⟨("BadChoice", some "__init__"), "__init__", "BadChoice.__init__", defArgs sx_BadChoice, defBody sx_BadChoice, defScope sx_BadChoice, [], []⟩
def df_NoCouple : He.DefD := ⟨("NoCouple", some "__init__"), "__init__", "NoCouple.__init__", defArgs sx_NoCouple, defBody sx_NoCouple, defScope sx_NoCouple, [], []⟩
def df_NoPlace : He.DefD := ⟨("NoPlace", some "__init__"), "__init__", "NoPlace.__init__", defArgs sx_NoPlace, defBody sx_NoPlace, defScope sx_NoPlace, [], []⟩
def df_NoRoot : He.DefD := ⟨("NoRoot", some "__init__"), "__init__", "NoRoot.__init__", defArgs sx_NoRoot, defBody sx_NoRoot, defScope sx_NoRoot, [], []⟩
def df_BadOrder : He.DefD := ⟨("BadOrder", some "__init__"), "__init__", "BadOrder.__init__", defArgs sx_BadOrder, defBody sx_BadOrder, defScope sx_BadOrder, [], []⟩
def df_BadPattern : He.DefD := ⟨("BadPattern", some "__init__"), "__init__", "BadPattern.__init__", defArgs sx_BadPattern, defBody sx_BadPattern, defScope sx_BadPattern, [], []⟩
def df_BadNames : He.DefD := ⟨("BadNames", some "__init__"), "__init__", "BadNames.__init__", defArgs sx_BadNames, defBody sx_BadNames, defScope sx_BadNames, [], []⟩
def df_BadPlaces : He.DefD := ⟨("BadPlaces", some "__init__"), "__init__", "BadPlaces.__init__", defArgs sx_BadPlaces, defBody sx_BadPlaces, defScope sx_BadPlaces, [], []⟩
def df_BadClass : He.DefD := ⟨("BadClass", some "__init__"), "__init__", "BadClass.__init__", defArgs sx_BadClass, defBody sx_BadClass, defScope sx_BadClass, [], []⟩
def df_BadMatch : He.DefD := ⟨("BadMatch", some "__init__"), "__init__", "BadMatch.__init__", defArgs sx_BadMatch, defBody sx_BadMatch, defScope sx_BadMatch, [], []⟩
def df_BadCount : He.DefD := ⟨("BadCount", some "__init__"), "__init__", "BadCount.__init__", defArgs sx_BadCount, defBody sx_BadCount, defScope sx_BadCount, [], []⟩
def df_BadIndex : He.DefD := ⟨("BadIndex", some "__init__"), "__init__", "BadIndex.__init__", defArgs sx_BadIndex, defBody sx_BadIndex, defScope sx_BadIndex, [], []⟩
def df_BadJoining : He.DefD := ⟨("BadJoining", some "__init__"), "__init__", "BadJoining.__init__", defArgs sx_BadJoining, defBody sx_BadJoining, defScope sx_BadJoining, [], []⟩
def df_NoRenaming : He.DefD := ⟨("NoRenaming", some "__init__"), "__init__", "NoRenaming.__init__", defArgs sx_NoRenaming, defBody sx_NoRenaming, defScope sx_NoRenaming, [], []⟩
def df_BadScope : He.DefD := ⟨("BadScope", some "__init__"), "__init__", "BadScope.__init__", defArgs sx_BadScope, defBody sx_BadScope, defScope sx_BadScope, [], []⟩
def df_BadState : He.DefD := ⟨("BadState", some "__init__"), "__init__", "BadState.__init__", defArgs sx_BadState, defBody sx_BadState, defScope sx_BadState, [], []⟩
def df_BadTable : He.DefD := ⟨("BadTable", some "__init__"), "__init__", "BadTable.__init__", defArgs sx_BadTable, defBody sx_BadTable, defScope sx_BadTable, [], []⟩
def df_BadPlay : He.DefD := ⟨("BadPlay", some "__init__"), "__init__", "BadPlay.__init__", defArgs sx_BadPlay, defBody sx_BadPlay, defScope sx_BadPlay, [], []⟩
def df_NeverComes : He.DefD := ⟨("NeverComes", some "__init__"), "__init__", "NeverComes.__init__", defArgs sx_NeverComes, defBody sx_NeverComes, defScope sx_NeverComes, [], []⟩
def df_NotUnwed : He.DefD := ⟨("NotUnwed", some "__init__"), "__init__", "NotUnwed.__init__", defArgs sx_NotUnwed, defBody sx_NotUnwed, defScope sx_NotUnwed, [], []⟩
def df_BadAsked : He.DefD := ⟨("BadAsked", some "__init__"), "__init__", "BadAsked.__init__", defArgs sx_BadAsked, defBody sx_BadAsked, defScope sx_BadAsked, [], []⟩
def df_TooLong : He.DefD := ⟨("TooLong", some "__init__"), "__init__", "TooLong.__init__", defArgs sx_TooLong, defBody sx_TooLong, defScope sx_TooLong, [], []⟩
def df_NoWays : He.DefD := ⟨("NoWays", some "__init__"), "__init__", "NoWays.__init__", defArgs sx_NoWays, defBody sx_NoWays, defScope sx_NoWays, [], []⟩
def df_NoState : He.DefD := ⟨("NoState", some "__init__"), "__init__", "NoState.__init__", defArgs sx_NoState, defBody sx_NoState, defScope sx_NoState, [], []⟩
def df_BadWord : He.DefD := ⟨("BadWord", some "__init__"), "__init__", "BadWord.__init__", defArgs sx_BadWord, defBody sx_BadWord, defScope sx_BadWord, [], []⟩
def df_BadLength : He.DefD := ⟨("BadLength", some "__init__"), "__init__", "BadLength.__init__", defArgs sx_BadLength, defBody sx_BadLength, defScope sx_BadLength, [], []⟩
def df_BadOrigin : He.DefD := ⟨("BadOrigin", some "__init__"), "__init__", "BadOrigin.__init__", defArgs sx_BadOrigin, defBody sx_BadOrigin, defScope sx_BadOrigin, [], []⟩
def df_NotLet : He.DefD := ⟨("NotLet", some "__init__"), "__init__", "NotLet.__init__", defArgs sx_NotLet, defBody sx_NotLet, defScope sx_NotLet, [.non], []⟩
def df_BadNumber : He.DefD := ⟨("BadNumber", some "__init__"), "__init__", "BadNumber.__init__", defArgs sx_BadNumber, defBody sx_BadNumber, defScope sx_BadNumber, [], []⟩
def df_BadLine : He.DefD := ⟨("BadLine", some "__init__"), "__init__", "BadLine.__init__", defArgs sx_BadLine, defBody sx_BadLine, defScope sx_BadLine, [], []⟩
def df_BadGeneration : He.DefD := ⟨("BadGeneration", some "__init__"), "__init__", "BadGeneration.__init__", defArgs sx_BadGeneration, defBody sx_BadGeneration, defScope sx_BadGeneration, [], []⟩
def df_BadPair : He.DefD := ⟨("BadPair", some "__init__"), "__init__", "BadPair.__init__", defArgs sx_BadPair, defBody sx_BadPair, defScope sx_BadPair, [], []⟩
def df_BadLand : He.DefD := ⟨("BadLand", some "__init__"), "__init__", "BadLand.__init__", defArgs sx_BadLand, defBody sx_BadLand, defScope sx_BadLand, [], []⟩
def df_BadSecond : He.DefD := ⟨("BadSecond", some "__init__"), "__init__", "BadSecond.__init__", defArgs sx_BadSecond, defBody sx_BadSecond, defScope sx_BadSecond, [], []⟩
def df_BadPage : He.DefD := ⟨("BadPage", some "__init__"), "__init__", "BadPage.__init__", defArgs sx_BadPage, defBody sx_BadPage, defScope sx_BadPage, [], []⟩
def df_BadSeen : He.DefD := ⟨("BadSeen", some "__init__"), "__init__", "BadSeen.__init__", defArgs sx_BadSeen, defBody sx_BadSeen, defScope sx_BadSeen, [], []⟩
def df_BadFilling : He.DefD := ⟨("BadFilling", some "__init__"), "__init__", "BadFilling.__init__", defArgs sx_BadFilling, defBody sx_BadFilling, defScope sx_BadFilling, [], []⟩
def df_BadNotice : He.DefD := ⟨("BadNotice", some "__init__"), "__init__", "BadNotice.__init__", defArgs sx_BadNotice, defBody sx_BadNotice, defScope sx_BadNotice, [], []⟩
def df_BadChange : He.DefD := ⟨("BadChange", some "__init__"), "__init__", "BadChange.__init__", defArgs sx_BadChange, defBody sx_BadChange, defScope sx_BadChange, [], []⟩
def df_BadPrices : He.DefD := ⟨("BadPrices", some "__init__"), "__init__", "BadPrices.__init__", defArgs sx_BadPrices, defBody sx_BadPrices, defScope sx_BadPrices, [], []⟩
def xiL : List (He.DefD × Nat × List PySem.Str) := (df_BadRecord, 1, (["index", "what"] : List Str)) :: (df_NoPerson, 2, (["label"] : List Str)) :: (df_BadWay, 3, (["way"] : List Str)) :: (df_NoRow, 4, (["number"] : List Str)) :: (df_BadWidth, 5, (["width"] : List Str)) :: (df_BadText, 6, (["row", "what"] : List Str)) :: (df_BadPairs, 7, (["what"] : List Str)) :: (df_BadCondition, 8, (["what"] : List Str)) :: (df_BadClause, 9, (["index", "what"] : List Str)) :: (df_BadCustom, 10, (["part", "index", "what"] : List Str)) :: (df_BadKind, 11, (["kind"] : List Str)) :: (df_TooWide, 12, (["what"] : List Str)) :: (df_BadChoice, 13, (["label", "name", "bar"] : List Str)) :: (df_NoCouple, 14, (["father", "mother"] : List Str)) :: (df_NoPlace, 15, (["what"] : List Str)) :: (df_NoRoot, 16, (["root"] : List Str)) :: (df_BadOrder, 17, (["position", "what"] : List Str)) :: (df_BadPattern, 18, (["index", "what"] : List Str)) :: (df_BadNames, 19, (["index", "what"] : List Str)) :: (df_BadPlaces, 20, (["index", "what"] : List Str)) :: (df_BadClass, 21, (["number"] : List Str)) :: (df_BadMatch, 22, (["what"] : List Str)) :: (df_BadCount, 23, (["number"] : List Str)) :: (df_BadIndex, 24, (["index"] : List Str)) :: (df_BadJoining, 25, (["index", "what"] : List Str)) :: (df_NoRenaming, 26, (["place"] : List Str)) :: (df_BadScope, 27, (["what"] : List Str)) :: (df_BadState, 28, (["what"] : List Str)) :: (df_BadTable, 29, (["index", "what"] : List Str)) :: (df_BadPlay, 30, (["index"] : List Str)) :: (df_NeverComes, 31, (["state"] : List Str)) :: (df_NotUnwed, 32, (["label"] : List Str)) :: (df_BadAsked, 33, (["what"] : List Str)) :: (df_TooLong, 34, (["times"] : List Str)) :: (df_NoWays, 35, (["what"] : List Str)) :: (df_NoState, 36, (["state"] : List Str)) :: (df_BadWord, 37, (["word"] : List Str)) :: (df_BadLength, 38, (["length"] : List Str)) :: (df_BadOrigin, 39, (["origin"] : List Str)) :: (df_NotLet, 40, (["one", "other"] : List Str)) :: (df_BadNumber, 41, (["number"] : List Str)) :: (df_BadLine, 42, (["index", "what"] : List Str)) :: (df_BadGeneration, 43, (["n"] : List Str)) :: (df_BadPair, 45, (["index", "what"] : List Str)) :: (df_BadLand, 46, (["what"] : List Str)) :: (df_BadSecond, 47, (["index", "what"] : List Str)) :: (df_BadPage, 48, (["index", "what"] : List Str)) :: (df_BadSeen, 49, (["index", "what"] : List Str)) :: (df_BadFilling, 50, (["what"] : List Str)) :: (df_BadNotice, 51, (["what"] : List Str)) :: (df_BadChange, 52, (["index", "what"] : List Str)) :: (df_BadPrices, 53, (["index"] : List Str)) :: []
end G

namespace G
open PySem L2 NK
def ex_a (K : PySem.W.Frag) : Bool := decide (PySem.W.nsIn K mainGlobals "ValueError" = some none) && (decide (PySem.W.nsIn K mainGlobals "abs" = some none) && (decide (PySem.W.nsIn K mainGlobals "enumerate" = some none) && (decide (PySem.W.nsIn K mainGlobals "int" = some none) && (decide (PySem.W.nsIn K mainGlobals "isinstance" = some none) && (decide (PySem.W.nsIn K mainGlobals "len" = some none) && (decide (PySem.W.nsIn K mainGlobals "range" = some none) && (decide (PySem.W.nsIn K mainGlobals "str" = some none) && (decide (PySem.W.nsIn K mainGlobals "super" = some none) && (decide (PySem.W.nsIn K cStatics "thirdparty.any" = some none) && (decide (PySem.W.nsIn K mainGlobals "_law_hand" = some (some (.ref (He.fAd K ("_law_hand", none))))) && (decide (PySem.W.keepIn K (.ref (He.fAd K ("_law_hand", none))) = true) && (decide (PySem.W.nsIn K mainGlobals "_law_mix" = some (some (.ref (He.fAd K ("_law_mix", none))))) && (decide (PySem.W.keepIn K (.ref (He.fAd K ("_law_mix", none))) = true) && (decide (PySem.W.nsIn K mainGlobals "_law_draw" = some (some (.ref (He.fAd K ("_law_draw", none))))) && (decide (PySem.W.keepIn K (.ref (He.fAd K ("_law_draw", none))) = true) && (decide (PySem.W.nsIn K mainGlobals "_law_pick" = some (some (.ref (He.fAd K ("_law_pick", none))))) && (decide (PySem.W.keepIn K (.ref (He.fAd K ("_law_pick", none))) = true) && (decide (PySem.W.nsIn K mainGlobals "_law_thing" = some (some (.ref (He.fAd K ("_law_thing", none))))) && (decide (PySem.W.keepIn K (.ref (He.fAd K ("_law_thing", none))) = true) && (decide (PySem.W.nsIn K mainGlobals "_law_made" = some (some (.ref (He.fAd K ("_law_made", none))))) && (decide (PySem.W.keepIn K (.ref (He.fAd K ("_law_made", none))) = true) && (decide (PySem.W.nsIn K mainGlobals "_law_fields" = some (some (.ref (He.fAd K ("_law_fields", none))))) && (decide (PySem.W.keepIn K (.ref (He.fAd K ("_law_fields", none))) = true) && (decide (PySem.W.nsIn K mainGlobals "_law_kinds" = some (some (.ref (He.fAd K ("_law_kinds", none))))) && (decide (PySem.W.keepIn K (.ref (He.fAd K ("_law_kinds", none))) = true) && (decide (PySem.W.nsIn K mainGlobals "law" = some (some (.ref (He.fAd K ("law", none))))) && (decide (PySem.W.keepIn K (.ref (He.fAd K ("law", none))) = true) && (decide (PySem.W.specialIn K (.builtin "object.__class__") "__get__" = some (some (.builtin "getset_descriptor.__get__"))) && (decide (PySem.W.takesIn K (.builtin "object.__class__") = some true))))))))))))))))))))))))))))))
def ex_b (K : PySem.W.Frag) : Bool := cn.all (fun nm => decide (PySem.W.nsIn K mainGlobals nm = some (some (.ref (He.ga K nm))))) && (cn.all (fun nm => mroB K (He.ga K nm) (if nm = "CustomError" then [] else [He.ga K "CustomError"])) && (decide ((cn.map (He.ga K)).Nodup) && (([0, 44] : List Nat).all (fun k => PySem.W.excIn K (He.ga K (cn.getD k "")) veL "ValueError.__new__" && PySem.W.keepIn K (.ref (He.ga K (cn.getD k "")))))))
def ex_c (K : PySem.W.Frag) : Bool := cn.all (fun nm => xaB K (He.ga K nm))
def ex_d (K : PySem.W.Frag) : Bool := xiL.all (fun p => xcB K (He.ga K p.1.at_.1) (He.fAd K p.1.at_) p.2.2)
def exs (K : PySem.W.Frag) : Bool := ex_a K && (ex_b K && (ex_c K && (ex_d K)))
def df_u_law_hand : He.DefD := ⟨("_law_hand", none), "_law_hand", "_law_hand", defArgs s_u_law_hand, defBody s_u_law_hand, defScope s_u_law_hand, [], []⟩
def df_u_law_mix : He.DefD := ⟨("_law_mix", none), "_law_mix", "_law_mix", defArgs s_u_law_mix, defBody s_u_law_mix, defScope s_u_law_mix, [], []⟩
def df_u_law_draw : He.DefD := ⟨("_law_draw", none), "_law_draw", "_law_draw", defArgs s_u_law_draw, defBody s_u_law_draw, defScope s_u_law_draw, [], []⟩
def df_u_law_pick : He.DefD := ⟨("_law_pick", none), "_law_pick", "_law_pick", defArgs s_u_law_pick, defBody s_u_law_pick, defScope s_u_law_pick, [], []⟩
def df_u_law_thing : He.DefD := ⟨("_law_thing", none), "_law_thing", "_law_thing", defArgs s_u_law_thing, defBody s_u_law_thing, defScope s_u_law_thing, [], []⟩
def df_u_law_made : He.DefD := ⟨("_law_made", none), "_law_made", "_law_made", defArgs s_u_law_made, defBody s_u_law_made, defScope s_u_law_made, [], []⟩
def df_u_law_fields : He.DefD := ⟨("_law_fields", none), "_law_fields", "_law_fields", defArgs s_u_law_fields, defBody s_u_law_fields, defScope s_u_law_fields, [], []⟩
def df_u_law_kinds : He.DefD := ⟨("_law_kinds", none), "_law_kinds", "_law_kinds", defArgs s_u_law_kinds, defBody s_u_law_kinds, defScope s_u_law_kinds, [], []⟩
def df_law : He.DefD := ⟨("law", none), "law", "law", defArgs s_law, defBody s_law, defScope s_law, [], []⟩
def fns : List He.DefD := df_u_law_hand :: df_u_law_mix :: df_u_law_draw :: df_u_law_pick :: df_u_law_thing :: df_u_law_made :: df_u_law_fields :: df_u_law_kinds :: df_law :: []
def xis : List He.DefD := xiL.map fun p => p.1
def aC : List PySem.Str := "CustomError" :: "BadRecord" :: "NoPerson" :: "BadWay" :: "NoRow" :: "BadWidth" :: "BadText" :: "BadPairs" :: "BadCondition" :: "BadClause" :: "BadCustom" :: "BadKind" :: "TooWide" :: "BadChoice" :: "NoCouple" :: "NoPlace" :: "NoRoot" :: "BadOrder" :: "BadPattern" :: "BadNames" :: "BadPlaces" :: "BadClass" :: "BadMatch" :: "BadCount" :: "BadIndex" :: "BadJoining" :: "NoRenaming" :: "BadScope" :: "BadState" :: "BadTable" :: "BadPlay" :: "NeverComes" :: "NotUnwed" :: "BadAsked" :: "TooLong" :: "NoWays" :: "NoState" :: "BadWord" :: "BadLength" :: "BadOrigin" :: "NotLet" :: "BadNumber" :: "BadLine" :: "BadGeneration" :: "UnlikePlans" :: "BadPair" :: "BadLand" :: "BadSecond" :: "BadPage" :: "BadSeen" :: "BadFilling" :: "BadNotice" :: "BadChange" :: "BadPrices" :: []
def aF : List (PySem.Str × Option PySem.Str) := ("_law_hand", none) :: ("_law_mix", none) :: ("_law_draw", none) :: ("_law_pick", none) :: ("_law_thing", none) :: ("_law_made", none) :: ("_law_fields", none) :: ("_law_kinds", none) :: ("law", none) :: ("BadRecord", some "__init__") :: ("NoPerson", some "__init__") :: ("BadWay", some "__init__") :: ("NoRow", some "__init__") :: ("BadWidth", some "__init__") :: ("BadText", some "__init__") :: ("BadPairs", some "__init__") :: ("BadCondition", some "__init__") :: ("BadClause", some "__init__") :: ("BadCustom", some "__init__") :: ("BadKind", some "__init__") :: ("TooWide", some "__init__") :: ("BadChoice", some "__init__") :: ("NoCouple", some "__init__") :: ("NoPlace", some "__init__") :: ("NoRoot", some "__init__") :: ("BadOrder", some "__init__") :: ("BadPattern", some "__init__") :: ("BadNames", some "__init__") :: ("BadPlaces", some "__init__") :: ("BadClass", some "__init__") :: ("BadMatch", some "__init__") :: ("BadCount", some "__init__") :: ("BadIndex", some "__init__") :: ("BadJoining", some "__init__") :: ("NoRenaming", some "__init__") :: ("BadScope", some "__init__") :: ("BadState", some "__init__") :: ("BadTable", some "__init__") :: ("BadPlay", some "__init__") :: ("NeverComes", some "__init__") :: ("NotUnwed", some "__init__") :: ("BadAsked", some "__init__") :: ("TooLong", some "__init__") :: ("NoWays", some "__init__") :: ("NoState", some "__init__") :: ("BadWord", some "__init__") :: ("BadLength", some "__init__") :: ("BadOrigin", some "__init__") :: ("NotLet", some "__init__") :: ("BadNumber", some "__init__") :: ("BadLine", some "__init__") :: ("BadGeneration", some "__init__") :: ("BadPair", some "__init__") :: ("BadLand", some "__init__") :: ("BadSecond", some "__init__") :: ("BadPage", some "__init__") :: ("BadSeen", some "__init__") :: ("BadFilling", some "__init__") :: ("BadNotice", some "__init__") :: ("BadChange", some "__init__") :: ("BadPrices", some "__init__") :: []
def aT : List PySem.Str := []
def aK : List ((PySem.Str × Option PySem.Str) × PySem.Str) := []
def aD : List (PySem.Str × Option PySem.Str) := []
def adr : AsT := asN aC aF aT aK aD
def loose : List PySem.Str := "__name__" :: "CustomError" :: "BadRecord" :: "NoPerson" :: "BadWay" :: "NoRow" :: "BadWidth" :: "BadText" :: "BadPairs" :: "BadCondition" :: "BadClause" :: "BadCustom" :: "BadKind" :: "TooWide" :: "BadChoice" :: "NoCouple" :: "NoPlace" :: "NoRoot" :: "BadOrder" :: "BadPattern" :: "BadNames" :: "BadPlaces" :: "BadClass" :: "BadMatch" :: "BadCount" :: "BadIndex" :: "BadJoining" :: "NoRenaming" :: "BadScope" :: "BadState" :: "BadTable" :: "BadPlay" :: "NeverComes" :: "NotUnwed" :: "BadAsked" :: "TooLong" :: "NoWays" :: "NoState" :: "BadWord" :: "BadLength" :: "BadOrigin" :: "NotLet" :: "BadNumber" :: "BadLine" :: "BadGeneration" :: "UnlikePlans" :: "BadPair" :: "BadLand" :: "BadSecond" :: "BadPage" :: "BadSeen" :: "BadFilling" :: "BadNotice" :: "BadChange" :: "BadPrices" :: "__name__" :: "_law_mix" :: "_law_hand" :: "_law_draw" :: "_law_pick" :: "_law_thing" :: "_law_kinds" :: "_law_made" :: "_law_fields" :: []
abbrev RL : PySem.W.OpenRow := PySem.W.OpenLaw.row PySem.Challenge.rw_namesakes_k00_errors_side_by_side
abbrev hk : PySem.W.Hook := hookN adr exs fns xis PW.main.file
def obs (s : PySem.W.SharedT) : AlN := obsNG adr exs fns xis PW.main.file (HandSHeadRun.getT s)
theorem obs_eq (s : PySem.W.SharedT) : obs s = hk.obs s.abs := obsN_eq (HandSHeadRun.getT_eq s)
noncomputable abbrev XX (w : PySem.World) (os : PySem.OsState) : Option PySem.W.SharedT := HandSHeadRun.endF (HandSHeadRun.stepQ (HandSHeadRun.denQ HandSHeadRun.tabQ) RL.prog w) 20000 RL.prog w os
def KK (s : PySem.W.SharedT) : PySem.W.Frag := He.frG (HandSHeadRun.getT s) (adr (HandSHeadRun.getT s))
section
open PySem PySem.W PySem.Calls PyProof.Rows
theorem run_a (w : PySem.World) (os : PySem.OsState) : (XX w os).map (fun s => (HandSHeadRun.looksF RL.prog (boot_heap w.params) s.abs, HandSHeadRun.seenQ (PySem.W.view RL.prog [64]) loose (importedModules RL.prog.main.body) (fun s => PySem.W.xlAt (PySem.W.view RL.prog [64]) [] s && PySem.W.recOk RL.toRowW.records s) s.abs, ex_a (KK s))) = some (true, PySem.W.openGood (PySem.W.view RL.prog [64]) loose, true) := by
  kernel_rfl
end
theorem run_b (w : PySem.World) (os : PySem.OsState) : (XX w os).map (fun s => (fns.all (fun d => d.ok (KK s)), fns.map (fun d => He.fnW (KK s) d.at_), ex_b (KK s))) = some (true, fns.map He.DefD.val, true) := by
  kernel_rfl
theorem run_c (w : PySem.World) (os : PySem.OsState) : (XX w os).map (fun s => (xis.all (fun d => xiB (KK s) d PW.main.file), xis.map fun d => xiW (KK s) d.at_)) = some (true, xis.map xiV) := by
  kernel_rfl
theorem run_d (w : PySem.World) (os : PySem.OsState) : (XX w os).map (fun s => ex_c (KK s)) = some true := by
  kernel_rfl
theorem run_e (w : PySem.World) (os : PySem.OsState) : (XX w os).map (fun s => ex_d (KK s)) = some true := by
  kernel_rfl
theorem run (w : PySem.World) : HandSHeadRun.RunEq RL (PySem.W.view RL.prog [64]) hk obs 20000 loose w := fun os => run_parts (fun _ => rfl) (run_a w os) (run_b w os) (run_c w os) (run_d w os) (run_e w os)
end G

namespace G
open PySem L2 NK
-- class CustomError 0
-- class BadRecord 1
-- fields BadRecord index what
-- class NoPerson 2
-- fields NoPerson label
-- class BadWay 3
-- fields BadWay way
-- class NoRow 4
-- fields NoRow number
-- class BadWidth 5
-- fields BadWidth width
-- class BadText 6
-- fields BadText row what
-- class BadPairs 7
-- fields BadPairs what
-- class BadCondition 8
-- fields BadCondition what
-- class BadClause 9
-- fields BadClause index what
-- class BadCustom 10
-- fields BadCustom part index what
-- class BadKind 11
-- fields BadKind kind
-- class TooWide 12
-- fields TooWide what
-- class BadChoice 13
-- fields BadChoice label name bar
-- class NoCouple 14
-- fields NoCouple father mother
-- class NoPlace 15
-- fields NoPlace what
-- class NoRoot 16
-- fields NoRoot root
-- class BadOrder 17
-- fields BadOrder position what
-- class BadPattern 18
-- fields BadPattern index what
-- class BadNames 19
-- fields BadNames index what
-- class BadPlaces 20
-- fields BadPlaces index what
-- class BadClass 21
-- fields BadClass number
-- class BadMatch 22
-- fields BadMatch what
-- class BadCount 23
-- fields BadCount number
-- class BadIndex 24
-- fields BadIndex index
-- class BadJoining 25
-- fields BadJoining index what
-- class NoRenaming 26
-- fields NoRenaming place
-- class BadScope 27
-- fields BadScope what
-- class BadState 28
-- fields BadState what
-- class BadTable 29
-- fields BadTable index what
-- class BadPlay 30
-- fields BadPlay index
-- class NeverComes 31
-- fields NeverComes state
-- class NotUnwed 32
-- fields NotUnwed label
-- class BadAsked 33
-- fields BadAsked what
-- class TooLong 34
-- fields TooLong times
-- class NoWays 35
-- fields NoWays what
-- class NoState 36
-- fields NoState state
-- class BadWord 37
-- fields BadWord word
-- class BadLength 38
-- fields BadLength length
-- class BadOrigin 39
-- fields BadOrigin origin
-- class NotLet 40
-- fields NotLet one other
-- class BadNumber 41
-- fields BadNumber number
-- class BadLine 42
-- fields BadLine index what
-- class BadGeneration 43
-- fields BadGeneration n
-- class UnlikePlans 44
-- class BadPair 45
-- fields BadPair index what
-- class BadLand 46
-- fields BadLand what
-- class BadSecond 47
-- fields BadSecond index what
-- class BadPage 48
-- fields BadPage index what
-- class BadSeen 49
-- fields BadSeen index what
-- class BadFilling 50
-- fields BadFilling what
-- class BadNotice 51
-- fields BadNotice what
-- class BadChange 52
-- fields BadChange index what
-- class BadPrices 53
-- fields BadPrices index
def fldN : Nat → List Str
  | 1 => ["index", "what"]
  | 2 => ["label"]
  | 3 => ["way"]
  | 4 => ["number"]
  | 5 => ["width"]
  | 6 => ["row", "what"]
  | 7 => ["what"]
  | 8 => ["what"]
  | 9 => ["index", "what"]
  | 10 => ["part", "index", "what"]
  | 11 => ["kind"]
  | 12 => ["what"]
  | 13 => ["label", "name", "bar"]
  | 14 => ["father", "mother"]
  | 15 => ["what"]
  | 16 => ["root"]
  | 17 => ["position", "what"]
  | 18 => ["index", "what"]
  | 19 => ["index", "what"]
  | 20 => ["index", "what"]
  | 21 => ["number"]
  | 22 => ["what"]
  | 23 => ["number"]
  | 24 => ["index"]
  | 25 => ["index", "what"]
  | 26 => ["place"]
  | 27 => ["what"]
  | 28 => ["what"]
  | 29 => ["index", "what"]
  | 30 => ["index"]
  | 31 => ["state"]
  | 32 => ["label"]
  | 33 => ["what"]
  | 34 => ["times"]
  | 35 => ["what"]
  | 36 => ["state"]
  | 37 => ["word"]
  | 38 => ["length"]
  | 39 => ["origin"]
  | 40 => ["one", "other"]
  | 41 => ["number"]
  | 42 => ["index", "what"]
  | 43 => ["n"]
  | 45 => ["index", "what"]
  | 46 => ["what"]
  | 47 => ["index", "what"]
  | 48 => ["index", "what"]
  | 49 => ["index", "what"]
  | 50 => ["what"]
  | 51 => ["what"]
  | 52 => ["index", "what"]
  | 53 => ["index"]
  | _ => []
def isT (c : Nat) : Nat → Option Bool := fun k => if k < 54 then some (k == c || c == 0) else none
def isV : Nat → Option Bool := fun k => if k < 54 then some true else none
noncomputable def l_u_law_hand_1 : MS := (sAsg (eOp fMod (eCB fInt (aCons (eOp fAdd (eOp fMul (eVar 1) (eC (.int 31))) (eOp fMul (eCB fInt (aCons (eVar 3) aNil)) (eOp fAdd (eVar 2) (eC (.int 7))))) aNil)) (eC (.int 2147483629))) (gN 1))
noncomputable def b_u_law_hand : MS := (sSeq (sAsg (eC (.int 0)) (gN 1))
    (sSeq (sFor (iEnumA (aCons (eVar 0) aNil)) (gT [2, 3]) l_u_law_hand_1)
    (sRet (eLst (aCons (eScope (eComp (iSeq (eVar 0)) (gN 3) NK.tYes (eCB fAbs (aCons (eCB fInt (aCons (eVar 3) aNil)) aNil)) [3])) (aCons (eC (.int 0)) (aCons (eC (.int 0)) (aCons (eVar 1) aNil))))))))
noncomputable def m_u_law_hand : MF := ( (runF 4 b_u_law_hand))
noncomputable def b_u_law_mix : MS := (sSeq (sAsg (eOp fMod (eCB fInt (aCons (eOp fAdd (eOp fAdd (eOp fMul (eVar 0) (eC (.int 48271))) (eOp fMul (eVar 1) (eC (.int 16807)))) (eC (.int 11))) aNil)) (eC (.int 2147483647))) (gN 2))
    (sSeq (sAsg (eOp fMod (eCB fInt (aCons (eOp fAdd (eOp fAdd (eOp fMul (eVar 2) (eVar 2)) (eOp fMul (eOp fDiv (eVar 2) (eC (.int 127))) (eC (.int 40692)))) (eOp fMul (eVar 1) (eC (.int 69621)))) aNil)) (eC (.int 2147483399))) (gN 3))
    (sRet (eOp fDiv (eOp fMod (eCB fInt (aCons (eOp fAdd (eOp fDiv (eOp fMul (eVar 3) (eVar 3)) (eC (.int 1009))) (eVar 2)) aNil)) (eC (.int 2147483563))) (eC (.int 16))))))
noncomputable def m_u_law_mix : MF := fScope (runF 4 b_u_law_mix)
noncomputable def b_u_law_draw : MS := (sSeq (sIf (tAnd (NK.tB (eOp fEq (eOp fIx (eVar 0) (eC (.int 2))) (eC (.int 0)))) (NK.tB (eOp fLt (eOp fIx (eVar 0) (eC (.int 1))) (eCB fLen (aCons (eOp fIx (eVar 0) (eC (.int 0))) aNil))))) (sSeq (sAsg (eOp fIx (eOp fIx (eVar 0) (eC (.int 0))) (eOp fIx (eVar 0) (eC (.int 1)))) (gN 2))
    (sSeq (sSetIx (eVar 0) (eC (.int 1)) (eOp fAdd (eOp fIx (eVar 0) (eC (.int 1))) (eC (.int 1))))
    (sSeq (sIf (NK.tB (eOp fLt (eVar 2) (eOp fPow (eC (.int 10)) (eC (.int 18))))) (sRet (eOp fMod (eCB fInt (aCons (eCall 2 m_u_law_mix [] (aCons (eOp fMod (eCB fInt (aCons (eVar 2) aNil)) (eC (.int 2147483647))) (aCons (eOp fIx (eVar 0) (eC (.int 1))) aNil))) aNil)) (eVar 1))) sNext)
    (sSetIx (eVar 0) (eC (.int 2)) (eVar 2))))) sNext)
    (sSeq (sIf (NK.tB (eOp fGt (eOp fIx (eVar 0) (eC (.int 2))) (eC (.int 0)))) (sSeq (sAsg (eOp fIx (eVar 0) (eC (.int 2))) (gN 3))
    (sSeq (sSetIx (eVar 0) (eC (.int 2)) (eOp fDiv (eVar 3) (eVar 1)))
    (sRet (eOp fMod (eCB fInt (aCons (eVar 3) aNil)) (eVar 1))))) sNext)
    (sSeq (sSetIx (eVar 0) (eC (.int 3)) (eOp fMod (eCB fInt (aCons (eOp fAdd (eOp fIx (eVar 0) (eC (.int 3))) (eC (.int 1))) aNil)) (eC (.int 2147483629))))
    (sRet (eOp fMod (eCB fInt (aCons (eCall 2 m_u_law_mix [] (aCons (eOp fIx (eVar 0) (eC (.int 3))) (aCons (eOp fIx (eVar 0) (eC (.int 1))) aNil))) aNil)) (eVar 1))))))
noncomputable def m_u_law_draw : MF := fScope (runF 4 b_u_law_draw)
noncomputable def b_u_law_pick : MS := (sRet (eOp fIx (eVar 1) (eCall 2 m_u_law_draw [] (aCons (eVar 0) (aCons (eCB fLen (aCons (eVar 1) aNil)) aNil)))))
noncomputable def m_u_law_pick : MF := ( (runF 2 b_u_law_pick))
noncomputable def b_u_law_thing : MS := (sSeq (sAsg (eCall 2 m_u_law_draw [] (aCons (eVar 0) (aCons (eC (.int 4)) aNil))) (gN 1))
    (sSeq (sIf (NK.tB (eOp fEq (eVar 1) (eC (.int 0)))) (sRet (eOp fSub (eCall 2 m_u_law_draw [] (aCons (eVar 0) (aCons (eOp fPow (eC (.int 10)) (eC (.int 31))) aNil))) (eOp fPow (eC (.int 10)) (eC (.int 30))))) sNext)
    (sSeq (sIf (NK.tB (eOp fEq (eVar 1) (eC (.int 1)))) (sRet (eCall 2 m_u_law_pick [] (aCons (eVar 0) (aCons (eScope (eLst (aCons (eC (.str "")) (aCons (eC (.str "row")) (aCons (eC (.str "a b")) (aCons (eC (.str "width")) (aCons (eC (.str "s")) aNil))))))) aNil)))) sNext)
    (sRet (eCall 2 m_u_law_pick [] (aCons (eVar 0) (aCons (eScope (eLst (aCons (eC .non) (aCons (eC (.bl true)) (aCons (eTup aNil) (aCons (eTup (aCons (eC (.int 1)) (aCons (eC (.str "a")) aNil))) (aCons (eC (.int 0)) (aCons (eUn fNeg (eC (.int 1))) (aCons (eTup (aCons (eC (.str "a")) (aCons (eTup (aCons (eC (.int 2)) (aCons (eC (.int 3)) aNil))) aNil))) aNil))))))))) aNil)))))))
noncomputable def m_u_law_thing : MF := fScope (runF 2 b_u_law_thing)
noncomputable def b_u_law_made : MS := (sRet (eScope (eLst (aCons (eMkX 1 2 [0] [] (aCons (eOp fIx (eVar 0) (eC (.int 0))) (aCons (eOp fIx (eVar 0) (eC (.int 1))) aNil))) (aCons (eMkX 2 1 [] [] (aCons (eOp fIx (eVar 0) (eC (.int 0))) aNil)) (aCons (eMkX 3 1 [] [] (aCons (eOp fIx (eVar 0) (eC (.int 0))) aNil)) (aCons (eMkX 4 1 [] [] (aCons (eOp fIx (eVar 0) (eC (.int 0))) aNil)) (aCons (eMkX 5 1 [] [] (aCons (eOp fIx (eVar 0) (eC (.int 0))) aNil)) (aCons (eMkX 6 2 [0] [] (aCons (eOp fIx (eVar 0) (eC (.int 0))) (aCons (eOp fIx (eVar 0) (eC (.int 1))) aNil))) (aCons (eMkX 7 1 [] [] (aCons (eOp fIx (eVar 0) (eC (.int 0))) aNil)) (aCons (eMkX 8 1 [] [] (aCons (eOp fIx (eVar 0) (eC (.int 0))) aNil)) (aCons (eMkX 9 2 [] [] (aCons (eOp fIx (eVar 0) (eC (.int 0))) (aCons (eOp fIx (eVar 0) (eC (.int 1))) aNil))) (aCons (eMkX 10 3 [] [] (aCons (eOp fIx (eVar 0) (eC (.int 0))) (aCons (eOp fIx (eVar 0) (eC (.int 1))) (aCons (eOp fIx (eVar 0) (eC (.int 2))) aNil)))) (aCons (eMkX 11 1 [] [] (aCons (eOp fIx (eVar 0) (eC (.int 0))) aNil)) (aCons (eMkX 12 1 [] [] (aCons (eOp fIx (eVar 0) (eC (.int 0))) aNil)) (aCons (eMkX 13 3 [0] [] (aCons (eOp fIx (eVar 0) (eC (.int 0))) (aCons (eOp fIx (eVar 0) (eC (.int 1))) (aCons (eOp fIx (eVar 0) (eC (.int 2))) aNil)))) (aCons (eMkX 14 2 [] [] (aCons (eOp fIx (eVar 0) (eC (.int 0))) (aCons (eOp fIx (eVar 0) (eC (.int 1))) aNil))) (aCons (eMkX 15 1 [] [] (aCons (eOp fIx (eVar 0) (eC (.int 0))) aNil)) (aCons (eMkX 16 1 [] [] (aCons (eOp fIx (eVar 0) (eC (.int 0))) aNil)) (aCons (eMkX 17 2 [1] [] (aCons (eOp fIx (eVar 0) (eC (.int 0))) (aCons (eOp fIx (eVar 0) (eC (.int 1))) aNil))) (aCons (eMkX 18 2 [] [] (aCons (eOp fIx (eVar 0) (eC (.int 0))) (aCons (eOp fIx (eVar 0) (eC (.int 1))) aNil))) (aCons (eMkX 19 2 [] [] (aCons (eOp fIx (eVar 0) (eC (.int 0))) (aCons (eOp fIx (eVar 0) (eC (.int 1))) aNil))) (aCons (eMkX 20 2 [] [] (aCons (eOp fIx (eVar 0) (eC (.int 0))) (aCons (eOp fIx (eVar 0) (eC (.int 1))) aNil))) (aCons (eMkX 21 1 [] [] (aCons (eOp fIx (eVar 0) (eC (.int 0))) aNil)) (aCons (eMkX 22 1 [] [] (aCons (eOp fIx (eVar 0) (eC (.int 0))) aNil)) (aCons (eMkX 23 1 [] [] (aCons (eOp fIx (eVar 0) (eC (.int 0))) aNil)) (aCons (eMkX 24 1 [] [] (aCons (eOp fIx (eVar 0) (eC (.int 0))) aNil)) (aCons (eMkX 25 2 [] [] (aCons (eOp fIx (eVar 0) (eC (.int 0))) (aCons (eOp fIx (eVar 0) (eC (.int 1))) aNil))) (aCons (eMkX 26 1 [] [] (aCons (eOp fIx (eVar 0) (eC (.int 0))) aNil)) (aCons (eMkX 27 1 [] [] (aCons (eOp fIx (eVar 0) (eC (.int 0))) aNil)) (aCons (eMkX 28 1 [] [] (aCons (eOp fIx (eVar 0) (eC (.int 0))) aNil)) (aCons (eMkX 29 2 [] [] (aCons (eOp fIx (eVar 0) (eC (.int 0))) (aCons (eOp fIx (eVar 0) (eC (.int 1))) aNil))) (aCons (eMkX 30 1 [] [] (aCons (eOp fIx (eVar 0) (eC (.int 0))) aNil)) (aCons (eMkX 31 1 [] [] (aCons (eOp fIx (eVar 0) (eC (.int 0))) aNil)) (aCons (eMkX 32 1 [] [] (aCons (eOp fIx (eVar 0) (eC (.int 0))) aNil)) (aCons (eMkX 33 1 [] [] (aCons (eOp fIx (eVar 0) (eC (.int 0))) aNil)) (aCons (eMkX 34 1 [] [] (aCons (eOp fIx (eVar 0) (eC (.int 0))) aNil)) (aCons (eMkX 35 1 [] [] (aCons (eOp fIx (eVar 0) (eC (.int 0))) aNil)) (aCons (eMkX 36 1 [] [] (aCons (eOp fIx (eVar 0) (eC (.int 0))) aNil)) (aCons (eMkX 37 1 [] [] (aCons (eOp fIx (eVar 0) (eC (.int 0))) aNil)) (aCons (eMkX 38 1 [] [] (aCons (eOp fIx (eVar 0) (eC (.int 0))) aNil)) (aCons (eMkX 39 1 [] [] (aCons (eOp fIx (eVar 0) (eC (.int 0))) aNil)) (aCons (eMkX 40 2 [] [] (aCons (eOp fIx (eVar 0) (eC (.int 0))) (aCons (eOp fIx (eVar 0) (eC (.int 1))) aNil))) (aCons (eMkX 41 1 [] [] (aCons (eOp fIx (eVar 0) (eC (.int 0))) aNil)) (aCons (eMkX 42 2 [] [] (aCons (eOp fIx (eVar 0) (eC (.int 0))) (aCons (eOp fIx (eVar 0) (eC (.int 1))) aNil))) (aCons (eMkX 43 1 [] [] (aCons (eOp fIx (eVar 0) (eC (.int 0))) aNil)) (aCons (eMkX0 44) (aCons (eMkX 45 2 [0] [] (aCons (eOp fIx (eVar 0) (eC (.int 0))) (aCons (eOp fIx (eVar 0) (eC (.int 1))) aNil))) (aCons (eMkX 46 1 [] [] (aCons (eOp fIx (eVar 0) (eC (.int 0))) aNil)) (aCons (eMkX 47 2 [0] [] (aCons (eOp fIx (eVar 0) (eC (.int 0))) (aCons (eOp fIx (eVar 0) (eC (.int 1))) aNil))) (aCons (eMkX 48 2 [] [] (aCons (eOp fIx (eVar 0) (eC (.int 0))) (aCons (eOp fIx (eVar 0) (eC (.int 1))) aNil))) (aCons (eMkX 49 2 [] [] (aCons (eOp fIx (eVar 0) (eC (.int 0))) (aCons (eOp fIx (eVar 0) (eC (.int 1))) aNil))) (aCons (eMkX 50 1 [] [] (aCons (eOp fIx (eVar 0) (eC (.int 0))) aNil)) (aCons (eMkX 51 1 [] [] (aCons (eOp fIx (eVar 0) (eC (.int 0))) aNil)) (aCons (eMkX 52 2 [0] [] (aCons (eOp fIx (eVar 0) (eC (.int 0))) (aCons (eOp fIx (eVar 0) (eC (.int 1))) aNil))) (aCons (eMkX 53 1 [0] [] (aCons (eOp fIx (eVar 0) (eC (.int 0))) aNil)) aNil))))))))))))))))))))))))))))))))))))))))))))))))))))))))
noncomputable def m_u_law_made : MF := fScope (runF 1 b_u_law_made)
noncomputable def b_u_law_fields : MS := (sRet (eScope (eLst (aCons (eScope (eLst (aCons (eFldX 1 0 (eOp fIx (eVar 0) (eC (.int 0)))) (aCons (eFldX 1 1 (eOp fIx (eVar 0) (eC (.int 0)))) aNil)))) (aCons (eScope (eLst (aCons (eFldX 2 0 (eOp fIx (eVar 0) (eC (.int 1)))) aNil))) (aCons (eScope (eLst (aCons (eFldX 3 0 (eOp fIx (eVar 0) (eC (.int 2)))) aNil))) (aCons (eScope (eLst (aCons (eFldX 4 0 (eOp fIx (eVar 0) (eC (.int 3)))) aNil))) (aCons (eScope (eLst (aCons (eFldX 5 0 (eOp fIx (eVar 0) (eC (.int 4)))) aNil))) (aCons (eScope (eLst (aCons (eFldX 6 0 (eOp fIx (eVar 0) (eC (.int 5)))) (aCons (eFldX 6 1 (eOp fIx (eVar 0) (eC (.int 5)))) aNil)))) (aCons (eScope (eLst (aCons (eFldX 7 0 (eOp fIx (eVar 0) (eC (.int 6)))) aNil))) (aCons (eScope (eLst (aCons (eFldX 8 0 (eOp fIx (eVar 0) (eC (.int 7)))) aNil))) (aCons (eScope (eLst (aCons (eFldX 9 0 (eOp fIx (eVar 0) (eC (.int 8)))) (aCons (eFldX 9 1 (eOp fIx (eVar 0) (eC (.int 8)))) aNil)))) (aCons (eScope (eLst (aCons (eFldX 10 0 (eOp fIx (eVar 0) (eC (.int 9)))) (aCons (eFldX 10 1 (eOp fIx (eVar 0) (eC (.int 9)))) (aCons (eFldX 10 2 (eOp fIx (eVar 0) (eC (.int 9)))) aNil))))) (aCons (eScope (eLst (aCons (eFldX 11 0 (eOp fIx (eVar 0) (eC (.int 10)))) aNil))) (aCons (eScope (eLst (aCons (eFldX 12 0 (eOp fIx (eVar 0) (eC (.int 11)))) aNil))) (aCons (eScope (eLst (aCons (eFldX 13 0 (eOp fIx (eVar 0) (eC (.int 12)))) (aCons (eFldX 13 1 (eOp fIx (eVar 0) (eC (.int 12)))) (aCons (eFldX 13 2 (eOp fIx (eVar 0) (eC (.int 12)))) aNil))))) (aCons (eScope (eLst (aCons (eFldX 14 0 (eOp fIx (eVar 0) (eC (.int 13)))) (aCons (eFldX 14 1 (eOp fIx (eVar 0) (eC (.int 13)))) aNil)))) (aCons (eScope (eLst (aCons (eFldX 15 0 (eOp fIx (eVar 0) (eC (.int 14)))) aNil))) (aCons (eScope (eLst (aCons (eFldX 16 0 (eOp fIx (eVar 0) (eC (.int 15)))) aNil))) (aCons (eScope (eLst (aCons (eFldX 17 0 (eOp fIx (eVar 0) (eC (.int 16)))) (aCons (eFldX 17 1 (eOp fIx (eVar 0) (eC (.int 16)))) aNil)))) (aCons (eScope (eLst (aCons (eFldX 18 0 (eOp fIx (eVar 0) (eC (.int 17)))) (aCons (eFldX 18 1 (eOp fIx (eVar 0) (eC (.int 17)))) aNil)))) (aCons (eScope (eLst (aCons (eFldX 19 0 (eOp fIx (eVar 0) (eC (.int 18)))) (aCons (eFldX 19 1 (eOp fIx (eVar 0) (eC (.int 18)))) aNil)))) (aCons (eScope (eLst (aCons (eFldX 20 0 (eOp fIx (eVar 0) (eC (.int 19)))) (aCons (eFldX 20 1 (eOp fIx (eVar 0) (eC (.int 19)))) aNil)))) (aCons (eScope (eLst (aCons (eFldX 21 0 (eOp fIx (eVar 0) (eC (.int 20)))) aNil))) (aCons (eScope (eLst (aCons (eFldX 22 0 (eOp fIx (eVar 0) (eC (.int 21)))) aNil))) (aCons (eScope (eLst (aCons (eFldX 23 0 (eOp fIx (eVar 0) (eC (.int 22)))) aNil))) (aCons (eScope (eLst (aCons (eFldX 24 0 (eOp fIx (eVar 0) (eC (.int 23)))) aNil))) (aCons (eScope (eLst (aCons (eFldX 25 0 (eOp fIx (eVar 0) (eC (.int 24)))) (aCons (eFldX 25 1 (eOp fIx (eVar 0) (eC (.int 24)))) aNil)))) (aCons (eScope (eLst (aCons (eFldX 26 0 (eOp fIx (eVar 0) (eC (.int 25)))) aNil))) (aCons (eScope (eLst (aCons (eFldX 27 0 (eOp fIx (eVar 0) (eC (.int 26)))) aNil))) (aCons (eScope (eLst (aCons (eFldX 28 0 (eOp fIx (eVar 0) (eC (.int 27)))) aNil))) (aCons (eScope (eLst (aCons (eFldX 29 0 (eOp fIx (eVar 0) (eC (.int 28)))) (aCons (eFldX 29 1 (eOp fIx (eVar 0) (eC (.int 28)))) aNil)))) (aCons (eScope (eLst (aCons (eFldX 30 0 (eOp fIx (eVar 0) (eC (.int 29)))) aNil))) (aCons (eScope (eLst (aCons (eFldX 31 0 (eOp fIx (eVar 0) (eC (.int 30)))) aNil))) (aCons (eScope (eLst (aCons (eFldX 32 0 (eOp fIx (eVar 0) (eC (.int 31)))) aNil))) (aCons (eScope (eLst (aCons (eFldX 33 0 (eOp fIx (eVar 0) (eC (.int 32)))) aNil))) (aCons (eScope (eLst (aCons (eFldX 34 0 (eOp fIx (eVar 0) (eC (.int 33)))) aNil))) (aCons (eScope (eLst (aCons (eFldX 35 0 (eOp fIx (eVar 0) (eC (.int 34)))) aNil))) (aCons (eScope (eLst (aCons (eFldX 36 0 (eOp fIx (eVar 0) (eC (.int 35)))) aNil))) (aCons (eScope (eLst (aCons (eFldX 37 0 (eOp fIx (eVar 0) (eC (.int 36)))) aNil))) (aCons (eScope (eLst (aCons (eFldX 38 0 (eOp fIx (eVar 0) (eC (.int 37)))) aNil))) (aCons (eScope (eLst (aCons (eFldX 39 0 (eOp fIx (eVar 0) (eC (.int 38)))) aNil))) (aCons (eScope (eLst (aCons (eFldX 40 0 (eOp fIx (eVar 0) (eC (.int 39)))) (aCons (eFldX 40 1 (eOp fIx (eVar 0) (eC (.int 39)))) aNil)))) (aCons (eScope (eLst (aCons (eFldX 41 0 (eOp fIx (eVar 0) (eC (.int 40)))) aNil))) (aCons (eScope (eLst (aCons (eFldX 42 0 (eOp fIx (eVar 0) (eC (.int 41)))) (aCons (eFldX 42 1 (eOp fIx (eVar 0) (eC (.int 41)))) aNil)))) (aCons (eScope (eLst (aCons (eFldX 43 0 (eOp fIx (eVar 0) (eC (.int 42)))) aNil))) (aCons (eScope (eLst aNil)) (aCons (eScope (eLst (aCons (eFldX 45 0 (eOp fIx (eVar 0) (eC (.int 44)))) (aCons (eFldX 45 1 (eOp fIx (eVar 0) (eC (.int 44)))) aNil)))) (aCons (eScope (eLst (aCons (eFldX 46 0 (eOp fIx (eVar 0) (eC (.int 45)))) aNil))) (aCons (eScope (eLst (aCons (eFldX 47 0 (eOp fIx (eVar 0) (eC (.int 46)))) (aCons (eFldX 47 1 (eOp fIx (eVar 0) (eC (.int 46)))) aNil)))) (aCons (eScope (eLst (aCons (eFldX 48 0 (eOp fIx (eVar 0) (eC (.int 47)))) (aCons (eFldX 48 1 (eOp fIx (eVar 0) (eC (.int 47)))) aNil)))) (aCons (eScope (eLst (aCons (eFldX 49 0 (eOp fIx (eVar 0) (eC (.int 48)))) (aCons (eFldX 49 1 (eOp fIx (eVar 0) (eC (.int 48)))) aNil)))) (aCons (eScope (eLst (aCons (eFldX 50 0 (eOp fIx (eVar 0) (eC (.int 49)))) aNil))) (aCons (eScope (eLst (aCons (eFldX 51 0 (eOp fIx (eVar 0) (eC (.int 50)))) aNil))) (aCons (eScope (eLst (aCons (eFldX 52 0 (eOp fIx (eVar 0) (eC (.int 51)))) (aCons (eFldX 52 1 (eOp fIx (eVar 0) (eC (.int 51)))) aNil)))) (aCons (eScope (eLst (aCons (eFldX 53 0 (eOp fIx (eVar 0) (eC (.int 52)))) aNil))) aNil))))))))))))))))))))))))))))))))))))))))))))))))))))))))
noncomputable def m_u_law_fields : MF := fScope (runF 1 b_u_law_fields)
noncomputable def b_u_law_kinds : MS := (sRet (eScope (eLst (aCons (eIsX (isT 1) (eVar 0)) (aCons (eIsX (isT 2) (eVar 0)) (aCons (eIsX (isT 3) (eVar 0)) (aCons (eIsX (isT 4) (eVar 0)) (aCons (eIsX (isT 5) (eVar 0)) (aCons (eIsX (isT 6) (eVar 0)) (aCons (eIsX (isT 7) (eVar 0)) (aCons (eIsX (isT 8) (eVar 0)) (aCons (eIsX (isT 9) (eVar 0)) (aCons (eIsX (isT 10) (eVar 0)) (aCons (eIsX (isT 11) (eVar 0)) (aCons (eIsX (isT 12) (eVar 0)) (aCons (eIsX (isT 13) (eVar 0)) (aCons (eIsX (isT 14) (eVar 0)) (aCons (eIsX (isT 15) (eVar 0)) (aCons (eIsX (isT 16) (eVar 0)) (aCons (eIsX (isT 17) (eVar 0)) (aCons (eIsX (isT 18) (eVar 0)) (aCons (eIsX (isT 19) (eVar 0)) (aCons (eIsX (isT 20) (eVar 0)) (aCons (eIsX (isT 21) (eVar 0)) (aCons (eIsX (isT 22) (eVar 0)) (aCons (eIsX (isT 23) (eVar 0)) (aCons (eIsX (isT 24) (eVar 0)) (aCons (eIsX (isT 25) (eVar 0)) (aCons (eIsX (isT 26) (eVar 0)) (aCons (eIsX (isT 27) (eVar 0)) (aCons (eIsX (isT 28) (eVar 0)) (aCons (eIsX (isT 29) (eVar 0)) (aCons (eIsX (isT 30) (eVar 0)) (aCons (eIsX (isT 31) (eVar 0)) (aCons (eIsX (isT 32) (eVar 0)) (aCons (eIsX (isT 33) (eVar 0)) (aCons (eIsX (isT 34) (eVar 0)) (aCons (eIsX (isT 35) (eVar 0)) (aCons (eIsX (isT 36) (eVar 0)) (aCons (eIsX (isT 37) (eVar 0)) (aCons (eIsX (isT 38) (eVar 0)) (aCons (eIsX (isT 39) (eVar 0)) (aCons (eIsX (isT 40) (eVar 0)) (aCons (eIsX (isT 41) (eVar 0)) (aCons (eIsX (isT 42) (eVar 0)) (aCons (eIsX (isT 43) (eVar 0)) (aCons (eIsX (isT 44) (eVar 0)) (aCons (eIsX (isT 45) (eVar 0)) (aCons (eIsX (isT 46) (eVar 0)) (aCons (eIsX (isT 47) (eVar 0)) (aCons (eIsX (isT 48) (eVar 0)) (aCons (eIsX (isT 49) (eVar 0)) (aCons (eIsX (isT 50) (eVar 0)) (aCons (eIsX (isT 51) (eVar 0)) (aCons (eIsX (isT 52) (eVar 0)) (aCons (eIsX (isT 53) (eVar 0)) aNil))))))))))))))))))))))))))))))))))))))))))))))))))))))))
noncomputable def m_u_law_kinds : MF := fScope (runF 1 b_u_law_kinds)
noncomputable def l_law_1 : MS := (sSeq (sAsg (eOp fIx (eVar 3) (eVar 5)) (gN 6))
    (sIf (tOr (tNot (tTru (eIsX (isT 0) (eVar 6)))) (tOr (tNot (tTru (eIsX isV (eVar 6)))) (NK.tB (eOp fNe (eCall 1 m_u_law_kinds [] (aCons (eVar 6) aNil)) (eScope (eComp (iRng1 (aCons (eCB fLen (aCons (eVar 3) aNil)) aNil)) (gN 10) NK.tYes (eOp fEq (eVar 10) (eVar 5)) [10])))))) (sRet (eC (.bl false))) sNext))
noncomputable def l_law_2 : MS := (sIf (tOr (NK.tB (eOp fNe (eOp fIx (eVar 7) (eVar 5)) (eScope (eSl (eVar 2) none (some (eOp fIx (eVar 4) (eVar 5))))))) (NK.tB (eOp fNe (eOp fIx (eVar 8) (eVar 5)) (eScope (eSl (eScope (eLst (aCons (eOp fIx (eVar 2) (eC (.int 1))) (aCons (eOp fIx (eVar 2) (eC (.int 2))) (aCons (eOp fIx (eVar 2) (eC (.int 0))) aNil))))) none (some (eOp fIx (eVar 4) (eVar 5)))))))) (sRet (eC (.bl false))) sNext)
noncomputable def b_law : MS := (sSeq (sAsg (eCall 1 m_u_law_hand [] (aCons (eVar 0) aNil)) (gN 1))
    (sSeq (sAsg (eScope (eComp (iRng1 (aCons (eC (.int 3)) aNil)) (gN 5) NK.tYes (eCall 1 m_u_law_thing [] (aCons (eVar 1) aNil)) [5])) (gN 2))
    (sSeq (sPar 3 4 (aCons (eCall 1 m_u_law_made [] (aCons (eVar 2) aNil)) (aCons (eScope (eLst (aCons (eC (.int 2)) (aCons (eC (.int 1)) (aCons (eC (.int 1)) (aCons (eC (.int 1)) (aCons (eC (.int 1)) (aCons (eC (.int 2)) (aCons (eC (.int 1)) (aCons (eC (.int 1)) (aCons (eC (.int 2)) (aCons (eC (.int 3)) (aCons (eC (.int 1)) (aCons (eC (.int 1)) (aCons (eC (.int 3)) (aCons (eC (.int 2)) (aCons (eC (.int 1)) (aCons (eC (.int 1)) (aCons (eC (.int 2)) (aCons (eC (.int 2)) (aCons (eC (.int 2)) (aCons (eC (.int 2)) (aCons (eC (.int 1)) (aCons (eC (.int 1)) (aCons (eC (.int 1)) (aCons (eC (.int 1)) (aCons (eC (.int 2)) (aCons (eC (.int 1)) (aCons (eC (.int 1)) (aCons (eC (.int 1)) (aCons (eC (.int 2)) (aCons (eC (.int 1)) (aCons (eC (.int 1)) (aCons (eC (.int 1)) (aCons (eC (.int 1)) (aCons (eC (.int 1)) (aCons (eC (.int 1)) (aCons (eC (.int 1)) (aCons (eC (.int 1)) (aCons (eC (.int 1)) (aCons (eC (.int 1)) (aCons (eC (.int 2)) (aCons (eC (.int 1)) (aCons (eC (.int 2)) (aCons (eC (.int 1)) (aCons (eC (.int 0)) (aCons (eC (.int 2)) (aCons (eC (.int 1)) (aCons (eC (.int 2)) (aCons (eC (.int 2)) (aCons (eC (.int 2)) (aCons (eC (.int 1)) (aCons (eC (.int 1)) (aCons (eC (.int 2)) (aCons (eC (.int 1)) aNil))))))))))))))))))))))))))))))))))))))))))))))))))))))) aNil)))
    (sSeq (sFor (iRng1 (aCons (eCB fLen (aCons (eVar 3) aNil)) aNil)) (gN 5) l_law_1)
    (sSeq (sPar 7 8 (aCons (eCall 1 m_u_law_fields [] (aCons (eVar 3) aNil)) (aCons (eCall 1 m_u_law_fields [] (aCons (eCall 1 m_u_law_made [] (aCons (eScope (eLst (aCons (eOp fIx (eVar 2) (eC (.int 1))) (aCons (eOp fIx (eVar 2) (eC (.int 2))) (aCons (eOp fIx (eVar 2) (eC (.int 0))) aNil))))) aNil)) aNil)) aNil)))
    (sSeq (sFor (iRng1 (aCons (eCB fLen (aCons (eVar 3) aNil)) aNil)) (gN 5) l_law_2)
    (sSeq (sAsg (eMkX1 0 (eC (.str "a"))) (gN 9))
    (sRet (eAnd (eIsX isV (eVar 9)) (eAnd (eOp fEq (eCall 1 m_u_law_kinds [] (aCons (eVar 9) aNil)) (eScope (eOp fMul (eScope (eLst (aCons (eC (.bl false)) aNil))) (eCB fLen (aCons (eVar 3) aNil))))) (eOp fIsN (eFldX 40 1 (eMkX 40 2 [] [.non] (aCons (eOp fIx (eVar 2) (eC (.int 0))) aNil))) (eC .non))))))))))))
noncomputable def m_law : MF := fScope (runF 11 b_law)
end G

namespace G
open PySem L2 NK
structure Ad where
  cs : Nat → Addr
  xf : Nat → Addr
  xcda : Nat → Addr
  xcc : Nat → Addr
  xfd : Nat → FuncData
  f_u_law_hand : Addr
  d_u_law_hand : FuncData
  f_u_law_mix : Addr
  d_u_law_mix : FuncData
  f_u_law_draw : Addr
  d_u_law_draw : FuncData
  f_u_law_pick : Addr
  d_u_law_pick : FuncData
  f_u_law_thing : Addr
  d_u_law_thing : FuncData
  f_u_law_made : Addr
  d_u_law_made : FuncData
  f_u_law_fields : Addr
  d_u_law_fields : FuncData
  f_u_law_kinds : Addr
  d_u_law_kinds : FuncData
  f_law : Addr
  d_law : FuncData
def tb (w : World) (K : PySem.W.Frag) (a : Ad) : Tb where
  w := w
  K := K
  cls := a.cs
  fld := fldN
structure Txt (K : PySem.W.Frag) (mg : Str → Option Value) (a : Ad) : Prop where
  cls : ∀ k nm, cn[k]? = some nm → mg nm = some (.ref (a.cs k))
  xi : ∀ j p, xiL[j]? = some p → XI PW K (a.cs p.2.1) p.1 (a.xf j) (a.xcda j) (a.xcc j) (a.xfd j) p.2.2
  x0 : ∀ k, k ∈ [0, 44] → PySem.W.excIn K (a.cs k) veL "ValueError.__new__" = true ∧ PySem.W.keepIn K (.ref (a.cs k)) = true
  isx : ∀ c, c < 54 → ∀ k b, isT c k = some b → ExcC K (a.cs k) ∧ PySem.W.kitOne K (.ref (a.cs k)) (.ref (a.cs c)) = some b
  isv : ∀ k b, isV k = some b → ExcC K (a.cs k) ∧ PySem.W.kitOne K (.ref (a.cs k)) (.type "ValueError") = some b
  opq : PySem.W.nsIn K cStatics "thirdparty.any" = some none
  z_ValueError : mg "ValueError" = none
  z_abs : mg "abs" = none
  z_enumerate : mg "enumerate" = none
  z_int : mg "int" = none
  z_isinstance : mg "isinstance" = none
  z_len : mg "len" = none
  z_range : mg "range" = none
  z_str : mg "str" = none
  z_super : mg "super" = none
  F_u_law_hand : FunD K "_law_hand" "_law_hand" (defArgs s_u_law_hand) (defBody s_u_law_hand) (defScope s_u_law_hand) [] [] a.f_u_law_hand a.d_u_law_hand
  b_u_law_hand : Binds K a.d_u_law_hand (["_law_script"] : List Str) []
  m_u_law_hand : mg "_law_hand" = some (.ref a.f_u_law_hand)
  k_u_law_hand : PySem.W.keepIn K (.ref a.f_u_law_hand) = true
  F_u_law_mix : FunD K "_law_mix" "_law_mix" (defArgs s_u_law_mix) (defBody s_u_law_mix) (defScope s_u_law_mix) [] [] a.f_u_law_mix a.d_u_law_mix
  b_u_law_mix : Binds K a.d_u_law_mix (["_law_number", "_law_turn"] : List Str) []
  m_u_law_mix : mg "_law_mix" = some (.ref a.f_u_law_mix)
  k_u_law_mix : PySem.W.keepIn K (.ref a.f_u_law_mix) = true
  F_u_law_draw : FunD K "_law_draw" "_law_draw" (defArgs s_u_law_draw) (defBody s_u_law_draw) (defScope s_u_law_draw) [] [] a.f_u_law_draw a.d_u_law_draw
  b_u_law_draw : Binds K a.d_u_law_draw (["_law_hand_here", "_law_many"] : List Str) []
  m_u_law_draw : mg "_law_draw" = some (.ref a.f_u_law_draw)
  k_u_law_draw : PySem.W.keepIn K (.ref a.f_u_law_draw) = true
  F_u_law_pick : FunD K "_law_pick" "_law_pick" (defArgs s_u_law_pick) (defBody s_u_law_pick) (defScope s_u_law_pick) [] [] a.f_u_law_pick a.d_u_law_pick
  b_u_law_pick : Binds K a.d_u_law_pick (["_law_hand_here", "_law_things"] : List Str) []
  m_u_law_pick : mg "_law_pick" = some (.ref a.f_u_law_pick)
  k_u_law_pick : PySem.W.keepIn K (.ref a.f_u_law_pick) = true
  F_u_law_thing : FunD K "_law_thing" "_law_thing" (defArgs s_u_law_thing) (defBody s_u_law_thing) (defScope s_u_law_thing) [] [] a.f_u_law_thing a.d_u_law_thing
  b_u_law_thing : Binds K a.d_u_law_thing (["_law_hand_here"] : List Str) []
  m_u_law_thing : mg "_law_thing" = some (.ref a.f_u_law_thing)
  k_u_law_thing : PySem.W.keepIn K (.ref a.f_u_law_thing) = true
  F_u_law_made : FunD K "_law_made" "_law_made" (defArgs s_u_law_made) (defBody s_u_law_made) (defScope s_u_law_made) [] [] a.f_u_law_made a.d_u_law_made
  b_u_law_made : Binds K a.d_u_law_made (["_law_things"] : List Str) []
  m_u_law_made : mg "_law_made" = some (.ref a.f_u_law_made)
  k_u_law_made : PySem.W.keepIn K (.ref a.f_u_law_made) = true
  F_u_law_fields : FunD K "_law_fields" "_law_fields" (defArgs s_u_law_fields) (defBody s_u_law_fields) (defScope s_u_law_fields) [] [] a.f_u_law_fields a.d_u_law_fields
  b_u_law_fields : Binds K a.d_u_law_fields (["_law_made_here"] : List Str) []
  m_u_law_fields : mg "_law_fields" = some (.ref a.f_u_law_fields)
  k_u_law_fields : PySem.W.keepIn K (.ref a.f_u_law_fields) = true
  F_u_law_kinds : FunD K "_law_kinds" "_law_kinds" (defArgs s_u_law_kinds) (defBody s_u_law_kinds) (defScope s_u_law_kinds) [] [] a.f_u_law_kinds a.d_u_law_kinds
  b_u_law_kinds : Binds K a.d_u_law_kinds (["_law_error"] : List Str) []
  m_u_law_kinds : mg "_law_kinds" = some (.ref a.f_u_law_kinds)
  k_u_law_kinds : PySem.W.keepIn K (.ref a.f_u_law_kinds) = true
  F_law : FunD K "law" "law" (defArgs s_law) (defBody s_law) (defScope s_law) [] [] a.f_law a.d_law
  b_law : Binds K a.d_law (["_law_script"] : List Str) []
  m_law : mg "law" = some (.ref a.f_law)
  k_law : PySem.W.keepIn K (.ref a.f_law) = true
  hn : PySem.W.specialIn K (.builtin "object.__class__") "__get__" = some (some (.builtin "getset_descriptor.__get__"))
  ht : PySem.W.takesIn K (.builtin "object.__class__") = some true
section
variable {w : World} {K : PySem.W.Frag} {mg : Str → Option Value} {a : Ad} {base : Heap}
theorem b_BadRecord (T : Txt K mg a) : Binds K (a.xfd 0) (["self", "index", "what"] : List Str) [] := by
  obtain ⟨oc, od, osl, dV, kV, doc, pm, an, ct, e0, e, _, _⟩ := (T.xi 0 _ rfl).fn
  have e1 : dV = .none := dfI_no e0
  subst e1
  rw [e]
  exact .all fun us hl => match us, hl with | [_, _, _], _ => rfl
theorem ok_BadRecord (T : Txt K mg a) : FnQ PW w K mg base (L2.CX PW w) 1 (a.xf 0) (a.xfd 0) (["self", "index", "what"] : List Str) (spIniH (gSh K [0]) (a.cs 1) (fldN 1)) := by
  obtain ⟨oc, od, osl, dV, kV, doc, pm, an, ct, e0, e, l, cd⟩ := (T.xi 0 _ rfl).fn
  rw [e] at l ⊢
  refine init_okQ l cd ((T.xi 0 _ rfl).sup (N := (["self", "index", "what"] : List Str)) (ps := (["self", "index", "what"] : List Str)) T.opq T.z_super rfl rfl rfl (by decide +kernel) rfl (by decide +kernel) (by decide +kernel) (fun y hy => (show ∀ p ∈ (defScope sx_BadRecord).names, p.2 = .free → p.1 = ("__class__" : Str) by decide +kernel) _ (lookup_memX hy) rfl) rfl rfl (by decide +kernel)) rfl rfl rfl (by decide) (by decide) (fun A outer s H E hq hr => ⟨_, (pa_cons pe_str (pa_cons (pe_callTy (call_strV hq (show _ + 64 < cLine from (hr.deeper _).units)) rfl T.z_str bt_str (pa_cons (pv 1) pa_nil)) (pa_cons (pv 2) pa_nil))), fun vs hl H hg Q hq2 => ?_⟩) (fun A outer s H E => (.cons (pv 0) (pv 1) ((T.xi 0 _ rfl).no _ (by decide)) rfl (.cons (pv 0) (pv 2) ((T.xi 0 _ rfl).no _ (by decide)) rfl .nil)))
  match vs, hl with
  | [z0, z1, z2], _ =>
    obtain ⟨y1, q1, l1⟩ := hg 0 (by simp)
    cases q1
    exact ⟨_, rfl, _, rfl, l1, fun _ _ => ⟨_, rfl, hq2 _ (by simp)⟩⟩
theorem b_NoPerson (T : Txt K mg a) : Binds K (a.xfd 1) (["self", "label"] : List Str) [] := by
  obtain ⟨oc, od, osl, dV, kV, doc, pm, an, ct, e0, e, _, _⟩ := (T.xi 1 _ rfl).fn
  have e1 : dV = .none := dfI_no e0
  subst e1
  rw [e]
  exact .all fun us hl => match us, hl with | [_, _], _ => rfl
theorem ok_NoPerson (T : Txt K mg a) : FnQ PW w K mg base (L2.CX PW w) 1 (a.xf 1) (a.xfd 1) (["self", "label"] : List Str) (spIniH (gSh K []) (a.cs 2) (fldN 2)) := by
  obtain ⟨oc, od, osl, dV, kV, doc, pm, an, ct, e0, e, l, cd⟩ := (T.xi 1 _ rfl).fn
  rw [e] at l ⊢
  refine init_okQ l cd ((T.xi 1 _ rfl).sup (N := (["self", "label"] : List Str)) (ps := (["self", "label"] : List Str)) T.opq T.z_super rfl rfl rfl (by decide +kernel) rfl (by decide +kernel) (by decide +kernel) (fun y hy => (show ∀ p ∈ (defScope sx_NoPerson).names, p.2 = .free → p.1 = ("__class__" : Str) by decide +kernel) _ (lookup_memX hy) rfl) rfl rfl (by decide +kernel)) rfl rfl rfl (by decide) (by decide) (fun A outer s H E hq hr => ⟨_, (pa_cons pe_str pa_nil), fun vs hl H hg Q hq2 => ?_⟩) (fun A outer s H E => (.cons (pv 0) (pv 1) ((T.xi 1 _ rfl).no _ (by decide)) rfl .nil))
  match vs, hl with
  | [z0, z1], _ =>
    exact hq2 _ (by simp)
theorem b_BadWay (T : Txt K mg a) : Binds K (a.xfd 2) (["self", "way"] : List Str) [] := by
  obtain ⟨oc, od, osl, dV, kV, doc, pm, an, ct, e0, e, _, _⟩ := (T.xi 2 _ rfl).fn
  have e1 : dV = .none := dfI_no e0
  subst e1
  rw [e]
  exact .all fun us hl => match us, hl with | [_, _], _ => rfl
theorem ok_BadWay (T : Txt K mg a) : FnQ PW w K mg base (L2.CX PW w) 1 (a.xf 2) (a.xfd 2) (["self", "way"] : List Str) (spIniH (gSh K []) (a.cs 3) (fldN 3)) := by
  obtain ⟨oc, od, osl, dV, kV, doc, pm, an, ct, e0, e, l, cd⟩ := (T.xi 2 _ rfl).fn
  rw [e] at l ⊢
  refine init_okQ l cd ((T.xi 2 _ rfl).sup (N := (["self", "way"] : List Str)) (ps := (["self", "way"] : List Str)) T.opq T.z_super rfl rfl rfl (by decide +kernel) rfl (by decide +kernel) (by decide +kernel) (fun y hy => (show ∀ p ∈ (defScope sx_BadWay).names, p.2 = .free → p.1 = ("__class__" : Str) by decide +kernel) _ (lookup_memX hy) rfl) rfl rfl (by decide +kernel)) rfl rfl rfl (by decide) (by decide) (fun A outer s H E hq hr => ⟨_, (pa_cons pe_str pa_nil), fun vs hl H hg Q hq2 => ?_⟩) (fun A outer s H E => (.cons (pv 0) (pv 1) ((T.xi 2 _ rfl).no _ (by decide)) rfl .nil))
  match vs, hl with
  | [z0, z1], _ =>
    exact hq2 _ (by simp)
theorem b_NoRow (T : Txt K mg a) : Binds K (a.xfd 3) (["self", "number"] : List Str) [] := by
  obtain ⟨oc, od, osl, dV, kV, doc, pm, an, ct, e0, e, _, _⟩ := (T.xi 3 _ rfl).fn
  have e1 : dV = .none := dfI_no e0
  subst e1
  rw [e]
  exact .all fun us hl => match us, hl with | [_, _], _ => rfl
theorem ok_NoRow (T : Txt K mg a) : FnQ PW w K mg base (L2.CX PW w) 1 (a.xf 3) (a.xfd 3) (["self", "number"] : List Str) (spIniH (gSh K []) (a.cs 4) (fldN 4)) := by
  obtain ⟨oc, od, osl, dV, kV, doc, pm, an, ct, e0, e, l, cd⟩ := (T.xi 3 _ rfl).fn
  rw [e] at l ⊢
  refine init_okQ l cd ((T.xi 3 _ rfl).sup (N := (["self", "number"] : List Str)) (ps := (["self", "number"] : List Str)) T.opq T.z_super rfl rfl rfl (by decide +kernel) rfl (by decide +kernel) (by decide +kernel) (fun y hy => (show ∀ p ∈ (defScope sx_NoRow).names, p.2 = .free → p.1 = ("__class__" : Str) by decide +kernel) _ (lookup_memX hy) rfl) rfl rfl (by decide +kernel)) rfl rfl rfl (by decide) (by decide) (fun A outer s H E hq hr => ⟨_, (pa_cons pe_str pa_nil), fun vs hl H hg Q hq2 => ?_⟩) (fun A outer s H E => (.cons (pv 0) (pv 1) ((T.xi 3 _ rfl).no _ (by decide)) rfl .nil))
  match vs, hl with
  | [z0, z1], _ =>
    exact hq2 _ (by simp)
theorem b_BadWidth (T : Txt K mg a) : Binds K (a.xfd 4) (["self", "width"] : List Str) [] := by
  obtain ⟨oc, od, osl, dV, kV, doc, pm, an, ct, e0, e, _, _⟩ := (T.xi 4 _ rfl).fn
  have e1 : dV = .none := dfI_no e0
  subst e1
  rw [e]
  exact .all fun us hl => match us, hl with | [_, _], _ => rfl
theorem ok_BadWidth (T : Txt K mg a) : FnQ PW w K mg base (L2.CX PW w) 1 (a.xf 4) (a.xfd 4) (["self", "width"] : List Str) (spIniH (gSh K []) (a.cs 5) (fldN 5)) := by
  obtain ⟨oc, od, osl, dV, kV, doc, pm, an, ct, e0, e, l, cd⟩ := (T.xi 4 _ rfl).fn
  rw [e] at l ⊢
  refine init_okQ l cd ((T.xi 4 _ rfl).sup (N := (["self", "width"] : List Str)) (ps := (["self", "width"] : List Str)) T.opq T.z_super rfl rfl rfl (by decide +kernel) rfl (by decide +kernel) (by decide +kernel) (fun y hy => (show ∀ p ∈ (defScope sx_BadWidth).names, p.2 = .free → p.1 = ("__class__" : Str) by decide +kernel) _ (lookup_memX hy) rfl) rfl rfl (by decide +kernel)) rfl rfl rfl (by decide) (by decide) (fun A outer s H E hq hr => ⟨_, (pa_cons pe_str pa_nil), fun vs hl H hg Q hq2 => ?_⟩) (fun A outer s H E => (.cons (pv 0) (pv 1) ((T.xi 4 _ rfl).no _ (by decide)) rfl .nil))
  match vs, hl with
  | [z0, z1], _ =>
    exact hq2 _ (by simp)
theorem b_BadText (T : Txt K mg a) : Binds K (a.xfd 5) (["self", "row", "what"] : List Str) [] := by
  obtain ⟨oc, od, osl, dV, kV, doc, pm, an, ct, e0, e, _, _⟩ := (T.xi 5 _ rfl).fn
  have e1 : dV = .none := dfI_no e0
  subst e1
  rw [e]
  exact .all fun us hl => match us, hl with | [_, _, _], _ => rfl
theorem ok_BadText (T : Txt K mg a) : FnQ PW w K mg base (L2.CX PW w) 1 (a.xf 5) (a.xfd 5) (["self", "row", "what"] : List Str) (spIniH (gSh K [0]) (a.cs 6) (fldN 6)) := by
  obtain ⟨oc, od, osl, dV, kV, doc, pm, an, ct, e0, e, l, cd⟩ := (T.xi 5 _ rfl).fn
  rw [e] at l ⊢
  refine init_okQ l cd ((T.xi 5 _ rfl).sup (N := (["self", "row", "what"] : List Str)) (ps := (["self", "row", "what"] : List Str)) T.opq T.z_super rfl rfl rfl (by decide +kernel) rfl (by decide +kernel) (by decide +kernel) (fun y hy => (show ∀ p ∈ (defScope sx_BadText).names, p.2 = .free → p.1 = ("__class__" : Str) by decide +kernel) _ (lookup_memX hy) rfl) rfl rfl (by decide +kernel)) rfl rfl rfl (by decide) (by decide) (fun A outer s H E hq hr => ⟨_, (pa_cons pe_str (pa_cons (pe_callTy (call_strV hq (show _ + 64 < cLine from (hr.deeper _).units)) rfl T.z_str bt_str (pa_cons (pv 1) pa_nil)) (pa_cons (pv 2) pa_nil))), fun vs hl H hg Q hq2 => ?_⟩) (fun A outer s H E => (.cons (pv 0) (pv 1) ((T.xi 5 _ rfl).no _ (by decide)) rfl (.cons (pv 0) (pv 2) ((T.xi 5 _ rfl).no _ (by decide)) rfl .nil)))
  match vs, hl with
  | [z0, z1, z2], _ =>
    obtain ⟨y1, q1, l1⟩ := hg 0 (by simp)
    cases q1
    exact ⟨_, rfl, _, rfl, l1, fun _ _ => ⟨_, rfl, hq2 _ (by simp)⟩⟩
theorem b_BadPairs (T : Txt K mg a) : Binds K (a.xfd 6) (["self", "what"] : List Str) [] := by
  obtain ⟨oc, od, osl, dV, kV, doc, pm, an, ct, e0, e, _, _⟩ := (T.xi 6 _ rfl).fn
  have e1 : dV = .none := dfI_no e0
  subst e1
  rw [e]
  exact .all fun us hl => match us, hl with | [_, _], _ => rfl
theorem ok_BadPairs (T : Txt K mg a) : FnQ PW w K mg base (L2.CX PW w) 1 (a.xf 6) (a.xfd 6) (["self", "what"] : List Str) (spIniH (gSh K []) (a.cs 7) (fldN 7)) := by
  obtain ⟨oc, od, osl, dV, kV, doc, pm, an, ct, e0, e, l, cd⟩ := (T.xi 6 _ rfl).fn
  rw [e] at l ⊢
  refine init_okQ l cd ((T.xi 6 _ rfl).sup (N := (["self", "what"] : List Str)) (ps := (["self", "what"] : List Str)) T.opq T.z_super rfl rfl rfl (by decide +kernel) rfl (by decide +kernel) (by decide +kernel) (fun y hy => (show ∀ p ∈ (defScope sx_BadPairs).names, p.2 = .free → p.1 = ("__class__" : Str) by decide +kernel) _ (lookup_memX hy) rfl) rfl rfl (by decide +kernel)) rfl rfl rfl (by decide) (by decide) (fun A outer s H E hq hr => ⟨_, (pa_cons pe_str (pa_cons (pv 1) pa_nil)), fun vs hl H hg Q hq2 => ?_⟩) (fun A outer s H E => (.cons (pv 0) (pv 1) ((T.xi 6 _ rfl).no _ (by decide)) rfl .nil))
  match vs, hl with
  | [z0, z1], _ =>
    exact ⟨_, rfl, hq2 _ (by simp)⟩
theorem b_BadCondition (T : Txt K mg a) : Binds K (a.xfd 7) (["self", "what"] : List Str) [] := by
  obtain ⟨oc, od, osl, dV, kV, doc, pm, an, ct, e0, e, _, _⟩ := (T.xi 7 _ rfl).fn
  have e1 : dV = .none := dfI_no e0
  subst e1
  rw [e]
  exact .all fun us hl => match us, hl with | [_, _], _ => rfl
theorem ok_BadCondition (T : Txt K mg a) : FnQ PW w K mg base (L2.CX PW w) 1 (a.xf 7) (a.xfd 7) (["self", "what"] : List Str) (spIniH (gSh K []) (a.cs 8) (fldN 8)) := by
  obtain ⟨oc, od, osl, dV, kV, doc, pm, an, ct, e0, e, l, cd⟩ := (T.xi 7 _ rfl).fn
  rw [e] at l ⊢
  refine init_okQ l cd ((T.xi 7 _ rfl).sup (N := (["self", "what"] : List Str)) (ps := (["self", "what"] : List Str)) T.opq T.z_super rfl rfl rfl (by decide +kernel) rfl (by decide +kernel) (by decide +kernel) (fun y hy => (show ∀ p ∈ (defScope sx_BadCondition).names, p.2 = .free → p.1 = ("__class__" : Str) by decide +kernel) _ (lookup_memX hy) rfl) rfl rfl (by decide +kernel)) rfl rfl rfl (by decide) (by decide) (fun A outer s H E hq hr => ⟨_, (pa_cons pe_str pa_nil), fun vs hl H hg Q hq2 => ?_⟩) (fun A outer s H E => (.cons (pv 0) (pv 1) ((T.xi 7 _ rfl).no _ (by decide)) rfl .nil))
  match vs, hl with
  | [z0, z1], _ =>
    exact hq2 _ (by simp)
theorem b_BadClause (T : Txt K mg a) : Binds K (a.xfd 8) (["self", "index", "what"] : List Str) [] := by
  obtain ⟨oc, od, osl, dV, kV, doc, pm, an, ct, e0, e, _, _⟩ := (T.xi 8 _ rfl).fn
  have e1 : dV = .none := dfI_no e0
  subst e1
  rw [e]
  exact .all fun us hl => match us, hl with | [_, _, _], _ => rfl
theorem ok_BadClause (T : Txt K mg a) : FnQ PW w K mg base (L2.CX PW w) 1 (a.xf 8) (a.xfd 8) (["self", "index", "what"] : List Str) (spIniH (gSh K []) (a.cs 9) (fldN 9)) := by
  obtain ⟨oc, od, osl, dV, kV, doc, pm, an, ct, e0, e, l, cd⟩ := (T.xi 8 _ rfl).fn
  rw [e] at l ⊢
  refine init_okQ l cd ((T.xi 8 _ rfl).sup (N := (["self", "index", "what"] : List Str)) (ps := (["self", "index", "what"] : List Str)) T.opq T.z_super rfl rfl rfl (by decide +kernel) rfl (by decide +kernel) (by decide +kernel) (fun y hy => (show ∀ p ∈ (defScope sx_BadClause).names, p.2 = .free → p.1 = ("__class__" : Str) by decide +kernel) _ (lookup_memX hy) rfl) rfl rfl (by decide +kernel)) rfl rfl rfl (by decide) (by decide) (fun A outer s H E hq hr => ⟨_, (pa_cons pe_str pa_nil), fun vs hl H hg Q hq2 => ?_⟩) (fun A outer s H E => (.cons (pv 0) (pv 1) ((T.xi 8 _ rfl).no _ (by decide)) rfl (.cons (pv 0) (pv 2) ((T.xi 8 _ rfl).no _ (by decide)) rfl .nil)))
  match vs, hl with
  | [z0, z1, z2], _ =>
    exact hq2 _ (by simp)
theorem b_BadCustom (T : Txt K mg a) : Binds K (a.xfd 9) (["self", "part", "index", "what"] : List Str) [] := by
  obtain ⟨oc, od, osl, dV, kV, doc, pm, an, ct, e0, e, _, _⟩ := (T.xi 9 _ rfl).fn
  have e1 : dV = .none := dfI_no e0
  subst e1
  rw [e]
  exact .all fun us hl => match us, hl with | [_, _, _, _], _ => rfl
theorem ok_BadCustom (T : Txt K mg a) : FnQ PW w K mg base (L2.CX PW w) 1 (a.xf 9) (a.xfd 9) (["self", "part", "index", "what"] : List Str) (spIniH (gSh K []) (a.cs 10) (fldN 10)) := by
  obtain ⟨oc, od, osl, dV, kV, doc, pm, an, ct, e0, e, l, cd⟩ := (T.xi 9 _ rfl).fn
  rw [e] at l ⊢
  refine init_okQ l cd ((T.xi 9 _ rfl).sup (N := (["self", "part", "index", "what"] : List Str)) (ps := (["self", "part", "index", "what"] : List Str)) T.opq T.z_super rfl rfl rfl (by decide +kernel) rfl (by decide +kernel) (by decide +kernel) (fun y hy => (show ∀ p ∈ (defScope sx_BadCustom).names, p.2 = .free → p.1 = ("__class__" : Str) by decide +kernel) _ (lookup_memX hy) rfl) rfl rfl (by decide +kernel)) rfl rfl rfl (by decide) (by decide) (fun A outer s H E hq hr => ⟨_, (pa_cons pe_str pa_nil), fun vs hl H hg Q hq2 => ?_⟩) (fun A outer s H E => (.cons (pv 0) (pv 1) ((T.xi 9 _ rfl).no _ (by decide)) rfl (.cons (pv 0) (pv 2) ((T.xi 9 _ rfl).no _ (by decide)) rfl (.cons (pv 0) (pv 3) ((T.xi 9 _ rfl).no _ (by decide)) rfl .nil))))
  match vs, hl with
  | [z0, z1, z2, z3], _ =>
    exact hq2 _ (by simp)
theorem b_BadKind (T : Txt K mg a) : Binds K (a.xfd 10) (["self", "kind"] : List Str) [] := by
  obtain ⟨oc, od, osl, dV, kV, doc, pm, an, ct, e0, e, _, _⟩ := (T.xi 10 _ rfl).fn
  have e1 : dV = .none := dfI_no e0
  subst e1
  rw [e]
  exact .all fun us hl => match us, hl with | [_, _], _ => rfl
theorem ok_BadKind (T : Txt K mg a) : FnQ PW w K mg base (L2.CX PW w) 1 (a.xf 10) (a.xfd 10) (["self", "kind"] : List Str) (spIniH (gSh K []) (a.cs 11) (fldN 11)) := by
  obtain ⟨oc, od, osl, dV, kV, doc, pm, an, ct, e0, e, l, cd⟩ := (T.xi 10 _ rfl).fn
  rw [e] at l ⊢
  refine init_okQ l cd ((T.xi 10 _ rfl).sup (N := (["self", "kind"] : List Str)) (ps := (["self", "kind"] : List Str)) T.opq T.z_super rfl rfl rfl (by decide +kernel) rfl (by decide +kernel) (by decide +kernel) (fun y hy => (show ∀ p ∈ (defScope sx_BadKind).names, p.2 = .free → p.1 = ("__class__" : Str) by decide +kernel) _ (lookup_memX hy) rfl) rfl rfl (by decide +kernel)) rfl rfl rfl (by decide) (by decide) (fun A outer s H E hq hr => ⟨_, (pa_cons pe_str pa_nil), fun vs hl H hg Q hq2 => ?_⟩) (fun A outer s H E => (.cons (pv 0) (pv 1) ((T.xi 10 _ rfl).no _ (by decide)) rfl .nil))
  match vs, hl with
  | [z0, z1], _ =>
    exact hq2 _ (by simp)
theorem b_TooWide (T : Txt K mg a) : Binds K (a.xfd 11) (["self", "what"] : List Str) [] := by
  obtain ⟨oc, od, osl, dV, kV, doc, pm, an, ct, e0, e, _, _⟩ := (T.xi 11 _ rfl).fn
  have e1 : dV = .none := dfI_no e0
  subst e1
  rw [e]
  exact .all fun us hl => match us, hl with | [_, _], _ => rfl
theorem ok_TooWide (T : Txt K mg a) : FnQ PW w K mg base (L2.CX PW w) 1 (a.xf 11) (a.xfd 11) (["self", "what"] : List Str) (spIniH (gSh K []) (a.cs 12) (fldN 12)) := by
  obtain ⟨oc, od, osl, dV, kV, doc, pm, an, ct, e0, e, l, cd⟩ := (T.xi 11 _ rfl).fn
  rw [e] at l ⊢
  refine init_okQ l cd ((T.xi 11 _ rfl).sup (N := (["self", "what"] : List Str)) (ps := (["self", "what"] : List Str)) T.opq T.z_super rfl rfl rfl (by decide +kernel) rfl (by decide +kernel) (by decide +kernel) (fun y hy => (show ∀ p ∈ (defScope sx_TooWide).names, p.2 = .free → p.1 = ("__class__" : Str) by decide +kernel) _ (lookup_memX hy) rfl) rfl rfl (by decide +kernel)) rfl rfl rfl (by decide) (by decide) (fun A outer s H E hq hr => ⟨_, (pa_cons pe_str pa_nil), fun vs hl H hg Q hq2 => ?_⟩) (fun A outer s H E => (.cons (pv 0) (pv 1) ((T.xi 11 _ rfl).no _ (by decide)) rfl .nil))
  match vs, hl with
  | [z0, z1], _ =>
    exact hq2 _ (by simp)
theorem b_BadChoice (T : Txt K mg a) : Binds K (a.xfd 12) (["self", "label", "name", "bar"] : List Str) [] := by
  obtain ⟨oc, od, osl, dV, kV, doc, pm, an, ct, e0, e, _, _⟩ := (T.xi 12 _ rfl).fn
  have e1 : dV = .none := dfI_no e0
  subst e1
  rw [e]
  exact .all fun us hl => match us, hl with | [_, _, _, _], _ => rfl
theorem ok_BadChoice (T : Txt K mg a) : FnQ PW w K mg base (L2.CX PW w) 1 (a.xf 12) (a.xfd 12) (["self", "label", "name", "bar"] : List Str) (spIniH (gSh K [0]) (a.cs 13) (fldN 13)) := by
  obtain ⟨oc, od, osl, dV, kV, doc, pm, an, ct, e0, e, l, cd⟩ := (T.xi 12 _ rfl).fn
  rw [e] at l ⊢
  refine init_okQ l cd ((T.xi 12 _ rfl).sup (N := (["self", "label", "name", "bar"] : List Str)) (ps := (["self", "label", "name", "bar"] : List Str)) T.opq T.z_super rfl rfl rfl (by decide +kernel) rfl (by decide +kernel) (by decide +kernel) (fun y hy => (show ∀ p ∈ (defScope sx_BadChoice).names, p.2 = .free → p.1 = ("__class__" : Str) by decide +kernel) _ (lookup_memX hy) rfl) rfl rfl (by decide +kernel)) rfl rfl rfl (by decide) (by decide) (fun A outer s H E hq hr => ⟨_, (pa_cons (pe_joined (PJ.cons pe_str (PJ.cons (pe_fmtV hq (show _ + 64 < cLine from (hr.deeper _).units) (pv 1)) (PJ.cons pe_str PJ.nil)))) pa_nil), fun vs hl H hg Q hq2 => ?_⟩) (fun A outer s H E => (.cons (pv 0) (pv 1) ((T.xi 12 _ rfl).no _ (by decide)) rfl (.cons (pv 0) (pv 2) ((T.xi 12 _ rfl).no _ (by decide)) rfl (.cons (pv 0) (pv 3) ((T.xi 12 _ rfl).no _ (by decide)) rfl .nil))))
  match vs, hl with
  | [z0, z1, z2, z3], _ =>
    obtain ⟨y1, q1, l1⟩ := hg 0 (by simp)
    cases q1
    exact ⟨_, rfl, (fs2 (show Str.empty.length ≤ 0 from Nat.le_refl 0) (show ("the choice of " : PySem.Str).length ≤ 100 by decide) (by decide)), ⟨_, rfl, l1, fun z hz => ⟨z, rfl, (fs2 (fs1 (show Str.empty.length ≤ 0 from Nat.le_refl 0) (show ("the choice of " : PySem.Str).length ≤ 100 by decide)) hz (by decide)), ⟨_, rfl, (fs2 (fs1 (fs1 (show Str.empty.length ≤ 0 from Nat.le_refl 0) (show ("the choice of " : PySem.Str).length ≤ 100 by decide)) hz) (show (" is barred" : PySem.Str).length ≤ 100 by decide) (by decide)), hq2 _ (by simp)⟩⟩⟩⟩
theorem b_NoCouple (T : Txt K mg a) : Binds K (a.xfd 13) (["self", "father", "mother"] : List Str) [] := by
  obtain ⟨oc, od, osl, dV, kV, doc, pm, an, ct, e0, e, _, _⟩ := (T.xi 13 _ rfl).fn
  have e1 : dV = .none := dfI_no e0
  subst e1
  rw [e]
  exact .all fun us hl => match us, hl with | [_, _, _], _ => rfl
theorem ok_NoCouple (T : Txt K mg a) : FnQ PW w K mg base (L2.CX PW w) 1 (a.xf 13) (a.xfd 13) (["self", "father", "mother"] : List Str) (spIniH (gSh K []) (a.cs 14) (fldN 14)) := by
  obtain ⟨oc, od, osl, dV, kV, doc, pm, an, ct, e0, e, l, cd⟩ := (T.xi 13 _ rfl).fn
  rw [e] at l ⊢
  refine init_okQ l cd ((T.xi 13 _ rfl).sup (N := (["self", "father", "mother"] : List Str)) (ps := (["self", "father", "mother"] : List Str)) T.opq T.z_super rfl rfl rfl (by decide +kernel) rfl (by decide +kernel) (by decide +kernel) (fun y hy => (show ∀ p ∈ (defScope sx_NoCouple).names, p.2 = .free → p.1 = ("__class__" : Str) by decide +kernel) _ (lookup_memX hy) rfl) rfl rfl (by decide +kernel)) rfl rfl rfl (by decide) (by decide) (fun A outer s H E hq hr => ⟨_, (pa_cons pe_str pa_nil), fun vs hl H hg Q hq2 => ?_⟩) (fun A outer s H E => (.cons (pv 0) (pv 1) ((T.xi 13 _ rfl).no _ (by decide)) rfl (.cons (pv 0) (pv 2) ((T.xi 13 _ rfl).no _ (by decide)) rfl .nil)))
  match vs, hl with
  | [z0, z1, z2], _ =>
    exact hq2 _ (by simp)
theorem b_NoPlace (T : Txt K mg a) : Binds K (a.xfd 14) (["self", "what"] : List Str) [] := by
  obtain ⟨oc, od, osl, dV, kV, doc, pm, an, ct, e0, e, _, _⟩ := (T.xi 14 _ rfl).fn
  have e1 : dV = .none := dfI_no e0
  subst e1
  rw [e]
  exact .all fun us hl => match us, hl with | [_, _], _ => rfl
theorem ok_NoPlace (T : Txt K mg a) : FnQ PW w K mg base (L2.CX PW w) 1 (a.xf 14) (a.xfd 14) (["self", "what"] : List Str) (spIniH (gSh K []) (a.cs 15) (fldN 15)) := by
  obtain ⟨oc, od, osl, dV, kV, doc, pm, an, ct, e0, e, l, cd⟩ := (T.xi 14 _ rfl).fn
  rw [e] at l ⊢
  refine init_okQ l cd ((T.xi 14 _ rfl).sup (N := (["self", "what"] : List Str)) (ps := (["self", "what"] : List Str)) T.opq T.z_super rfl rfl rfl (by decide +kernel) rfl (by decide +kernel) (by decide +kernel) (fun y hy => (show ∀ p ∈ (defScope sx_NoPlace).names, p.2 = .free → p.1 = ("__class__" : Str) by decide +kernel) _ (lookup_memX hy) rfl) rfl rfl (by decide +kernel)) rfl rfl rfl (by decide) (by decide) (fun A outer s H E hq hr => ⟨_, (pa_cons pe_str pa_nil), fun vs hl H hg Q hq2 => ?_⟩) (fun A outer s H E => (.cons (pv 0) (pv 1) ((T.xi 14 _ rfl).no _ (by decide)) rfl .nil))
  match vs, hl with
  | [z0, z1], _ =>
    exact hq2 _ (by simp)
theorem b_NoRoot (T : Txt K mg a) : Binds K (a.xfd 15) (["self", "root"] : List Str) [] := by
  obtain ⟨oc, od, osl, dV, kV, doc, pm, an, ct, e0, e, _, _⟩ := (T.xi 15 _ rfl).fn
  have e1 : dV = .none := dfI_no e0
  subst e1
  rw [e]
  exact .all fun us hl => match us, hl with | [_, _], _ => rfl
theorem ok_NoRoot (T : Txt K mg a) : FnQ PW w K mg base (L2.CX PW w) 1 (a.xf 15) (a.xfd 15) (["self", "root"] : List Str) (spIniH (gSh K []) (a.cs 16) (fldN 16)) := by
  obtain ⟨oc, od, osl, dV, kV, doc, pm, an, ct, e0, e, l, cd⟩ := (T.xi 15 _ rfl).fn
  rw [e] at l ⊢
  refine init_okQ l cd ((T.xi 15 _ rfl).sup (N := (["self", "root"] : List Str)) (ps := (["self", "root"] : List Str)) T.opq T.z_super rfl rfl rfl (by decide +kernel) rfl (by decide +kernel) (by decide +kernel) (fun y hy => (show ∀ p ∈ (defScope sx_NoRoot).names, p.2 = .free → p.1 = ("__class__" : Str) by decide +kernel) _ (lookup_memX hy) rfl) rfl rfl (by decide +kernel)) rfl rfl rfl (by decide) (by decide) (fun A outer s H E hq hr => ⟨_, (pa_cons pe_str pa_nil), fun vs hl H hg Q hq2 => ?_⟩) (fun A outer s H E => (.cons (pv 0) (pv 1) ((T.xi 15 _ rfl).no _ (by decide)) rfl .nil))
  match vs, hl with
  | [z0, z1], _ =>
    exact hq2 _ (by simp)
theorem b_BadOrder (T : Txt K mg a) : Binds K (a.xfd 16) (["self", "position", "what"] : List Str) [] := by
  obtain ⟨oc, od, osl, dV, kV, doc, pm, an, ct, e0, e, _, _⟩ := (T.xi 16 _ rfl).fn
  have e1 : dV = .none := dfI_no e0
  subst e1
  rw [e]
  exact .all fun us hl => match us, hl with | [_, _, _], _ => rfl
theorem ok_BadOrder (T : Txt K mg a) : FnQ PW w K mg base (L2.CX PW w) 1 (a.xf 16) (a.xfd 16) (["self", "position", "what"] : List Str) (spIniH (gSh K [1]) (a.cs 17) (fldN 17)) := by
  obtain ⟨oc, od, osl, dV, kV, doc, pm, an, ct, e0, e, l, cd⟩ := (T.xi 16 _ rfl).fn
  rw [e] at l ⊢
  refine init_okQ l cd ((T.xi 16 _ rfl).sup (N := (["self", "position", "what"] : List Str)) (ps := (["self", "position", "what"] : List Str)) T.opq T.z_super rfl rfl rfl (by decide +kernel) rfl (by decide +kernel) (by decide +kernel) (fun y hy => (show ∀ p ∈ (defScope sx_BadOrder).names, p.2 = .free → p.1 = ("__class__" : Str) by decide +kernel) _ (lookup_memX hy) rfl) rfl rfl (by decide +kernel)) rfl rfl rfl (by decide) (by decide) (fun A outer s H E hq hr => ⟨_, (pa_cons (pe_joined (PJ.cons pe_str (PJ.cons (pe_fmtV hq (show _ + 64 < cLine from (hr.deeper _).units) (pv 2)) PJ.nil))) pa_nil), fun vs hl H hg Q hq2 => ?_⟩) (fun A outer s H E => (.cons (pv 0) (pv 1) ((T.xi 16 _ rfl).no _ (by decide)) rfl (.cons (pv 0) (pv 2) ((T.xi 16 _ rfl).no _ (by decide)) rfl .nil)))
  match vs, hl with
  | [z0, z1, z2], _ =>
    obtain ⟨y2, q2, l2⟩ := hg 1 (by simp)
    cases q2
    exact ⟨_, rfl, (fs2 (show Str.empty.length ≤ 0 from Nat.le_refl 0) (show ("not an order of the rows: " : PySem.Str).length ≤ 100 by decide) (by decide)), ⟨_, rfl, l2, fun z hz => ⟨z, rfl, (fs2 (fs1 (show Str.empty.length ≤ 0 from Nat.le_refl 0) (show ("not an order of the rows: " : PySem.Str).length ≤ 100 by decide)) hz (by decide)), hq2 _ (by simp)⟩⟩⟩
theorem b_BadPattern (T : Txt K mg a) : Binds K (a.xfd 17) (["self", "index", "what"] : List Str) [] := by
  obtain ⟨oc, od, osl, dV, kV, doc, pm, an, ct, e0, e, _, _⟩ := (T.xi 17 _ rfl).fn
  have e1 : dV = .none := dfI_no e0
  subst e1
  rw [e]
  exact .all fun us hl => match us, hl with | [_, _, _], _ => rfl
theorem ok_BadPattern (T : Txt K mg a) : FnQ PW w K mg base (L2.CX PW w) 1 (a.xf 17) (a.xfd 17) (["self", "index", "what"] : List Str) (spIniH (gSh K []) (a.cs 18) (fldN 18)) := by
  obtain ⟨oc, od, osl, dV, kV, doc, pm, an, ct, e0, e, l, cd⟩ := (T.xi 17 _ rfl).fn
  rw [e] at l ⊢
  refine init_okQ l cd ((T.xi 17 _ rfl).sup (N := (["self", "index", "what"] : List Str)) (ps := (["self", "index", "what"] : List Str)) T.opq T.z_super rfl rfl rfl (by decide +kernel) rfl (by decide +kernel) (by decide +kernel) (fun y hy => (show ∀ p ∈ (defScope sx_BadPattern).names, p.2 = .free → p.1 = ("__class__" : Str) by decide +kernel) _ (lookup_memX hy) rfl) rfl rfl (by decide +kernel)) rfl rfl rfl (by decide) (by decide) (fun A outer s H E hq hr => ⟨_, (pa_cons pe_str pa_nil), fun vs hl H hg Q hq2 => ?_⟩) (fun A outer s H E => (.cons (pv 0) (pv 1) ((T.xi 17 _ rfl).no _ (by decide)) rfl (.cons (pv 0) (pv 2) ((T.xi 17 _ rfl).no _ (by decide)) rfl .nil)))
  match vs, hl with
  | [z0, z1, z2], _ =>
    exact hq2 _ (by simp)
theorem b_BadNames (T : Txt K mg a) : Binds K (a.xfd 18) (["self", "index", "what"] : List Str) [] := by
  obtain ⟨oc, od, osl, dV, kV, doc, pm, an, ct, e0, e, _, _⟩ := (T.xi 18 _ rfl).fn
  have e1 : dV = .none := dfI_no e0
  subst e1
  rw [e]
  exact .all fun us hl => match us, hl with | [_, _, _], _ => rfl
theorem ok_BadNames (T : Txt K mg a) : FnQ PW w K mg base (L2.CX PW w) 1 (a.xf 18) (a.xfd 18) (["self", "index", "what"] : List Str) (spIniH (gSh K []) (a.cs 19) (fldN 19)) := by
  obtain ⟨oc, od, osl, dV, kV, doc, pm, an, ct, e0, e, l, cd⟩ := (T.xi 18 _ rfl).fn
  rw [e] at l ⊢
  refine init_okQ l cd ((T.xi 18 _ rfl).sup (N := (["self", "index", "what"] : List Str)) (ps := (["self", "index", "what"] : List Str)) T.opq T.z_super rfl rfl rfl (by decide +kernel) rfl (by decide +kernel) (by decide +kernel) (fun y hy => (show ∀ p ∈ (defScope sx_BadNames).names, p.2 = .free → p.1 = ("__class__" : Str) by decide +kernel) _ (lookup_memX hy) rfl) rfl rfl (by decide +kernel)) rfl rfl rfl (by decide) (by decide) (fun A outer s H E hq hr => ⟨_, (pa_cons pe_str pa_nil), fun vs hl H hg Q hq2 => ?_⟩) (fun A outer s H E => (.cons (pv 0) (pv 1) ((T.xi 18 _ rfl).no _ (by decide)) rfl (.cons (pv 0) (pv 2) ((T.xi 18 _ rfl).no _ (by decide)) rfl .nil)))
  match vs, hl with
  | [z0, z1, z2], _ =>
    exact hq2 _ (by simp)
theorem b_BadPlaces (T : Txt K mg a) : Binds K (a.xfd 19) (["self", "index", "what"] : List Str) [] := by
  obtain ⟨oc, od, osl, dV, kV, doc, pm, an, ct, e0, e, _, _⟩ := (T.xi 19 _ rfl).fn
  have e1 : dV = .none := dfI_no e0
  subst e1
  rw [e]
  exact .all fun us hl => match us, hl with | [_, _, _], _ => rfl
theorem ok_BadPlaces (T : Txt K mg a) : FnQ PW w K mg base (L2.CX PW w) 1 (a.xf 19) (a.xfd 19) (["self", "index", "what"] : List Str) (spIniH (gSh K []) (a.cs 20) (fldN 20)) := by
  obtain ⟨oc, od, osl, dV, kV, doc, pm, an, ct, e0, e, l, cd⟩ := (T.xi 19 _ rfl).fn
  rw [e] at l ⊢
  refine init_okQ l cd ((T.xi 19 _ rfl).sup (N := (["self", "index", "what"] : List Str)) (ps := (["self", "index", "what"] : List Str)) T.opq T.z_super rfl rfl rfl (by decide +kernel) rfl (by decide +kernel) (by decide +kernel) (fun y hy => (show ∀ p ∈ (defScope sx_BadPlaces).names, p.2 = .free → p.1 = ("__class__" : Str) by decide +kernel) _ (lookup_memX hy) rfl) rfl rfl (by decide +kernel)) rfl rfl rfl (by decide) (by decide) (fun A outer s H E hq hr => ⟨_, (pa_cons pe_str pa_nil), fun vs hl H hg Q hq2 => ?_⟩) (fun A outer s H E => (.cons (pv 0) (pv 1) ((T.xi 19 _ rfl).no _ (by decide)) rfl (.cons (pv 0) (pv 2) ((T.xi 19 _ rfl).no _ (by decide)) rfl .nil)))
  match vs, hl with
  | [z0, z1, z2], _ =>
    exact hq2 _ (by simp)
theorem b_BadClass (T : Txt K mg a) : Binds K (a.xfd 20) (["self", "number"] : List Str) [] := by
  obtain ⟨oc, od, osl, dV, kV, doc, pm, an, ct, e0, e, _, _⟩ := (T.xi 20 _ rfl).fn
  have e1 : dV = .none := dfI_no e0
  subst e1
  rw [e]
  exact .all fun us hl => match us, hl with | [_, _], _ => rfl
theorem ok_BadClass (T : Txt K mg a) : FnQ PW w K mg base (L2.CX PW w) 1 (a.xf 20) (a.xfd 20) (["self", "number"] : List Str) (spIniH (gSh K []) (a.cs 21) (fldN 21)) := by
  obtain ⟨oc, od, osl, dV, kV, doc, pm, an, ct, e0, e, l, cd⟩ := (T.xi 20 _ rfl).fn
  rw [e] at l ⊢
  refine init_okQ l cd ((T.xi 20 _ rfl).sup (N := (["self", "number"] : List Str)) (ps := (["self", "number"] : List Str)) T.opq T.z_super rfl rfl rfl (by decide +kernel) rfl (by decide +kernel) (by decide +kernel) (fun y hy => (show ∀ p ∈ (defScope sx_BadClass).names, p.2 = .free → p.1 = ("__class__" : Str) by decide +kernel) _ (lookup_memX hy) rfl) rfl rfl (by decide +kernel)) rfl rfl rfl (by decide) (by decide) (fun A outer s H E hq hr => ⟨_, (pa_cons pe_str pa_nil), fun vs hl H hg Q hq2 => ?_⟩) (fun A outer s H E => (.cons (pv 0) (pv 1) ((T.xi 20 _ rfl).no _ (by decide)) rfl .nil))
  match vs, hl with
  | [z0, z1], _ =>
    exact hq2 _ (by simp)
theorem b_BadMatch (T : Txt K mg a) : Binds K (a.xfd 21) (["self", "what"] : List Str) [] := by
  obtain ⟨oc, od, osl, dV, kV, doc, pm, an, ct, e0, e, _, _⟩ := (T.xi 21 _ rfl).fn
  have e1 : dV = .none := dfI_no e0
  subst e1
  rw [e]
  exact .all fun us hl => match us, hl with | [_, _], _ => rfl
theorem ok_BadMatch (T : Txt K mg a) : FnQ PW w K mg base (L2.CX PW w) 1 (a.xf 21) (a.xfd 21) (["self", "what"] : List Str) (spIniH (gSh K []) (a.cs 22) (fldN 22)) := by
  obtain ⟨oc, od, osl, dV, kV, doc, pm, an, ct, e0, e, l, cd⟩ := (T.xi 21 _ rfl).fn
  rw [e] at l ⊢
  refine init_okQ l cd ((T.xi 21 _ rfl).sup (N := (["self", "what"] : List Str)) (ps := (["self", "what"] : List Str)) T.opq T.z_super rfl rfl rfl (by decide +kernel) rfl (by decide +kernel) (by decide +kernel) (fun y hy => (show ∀ p ∈ (defScope sx_BadMatch).names, p.2 = .free → p.1 = ("__class__" : Str) by decide +kernel) _ (lookup_memX hy) rfl) rfl rfl (by decide +kernel)) rfl rfl rfl (by decide) (by decide) (fun A outer s H E hq hr => ⟨_, (pa_cons pe_str pa_nil), fun vs hl H hg Q hq2 => ?_⟩) (fun A outer s H E => (.cons (pv 0) (pv 1) ((T.xi 21 _ rfl).no _ (by decide)) rfl .nil))
  match vs, hl with
  | [z0, z1], _ =>
    exact hq2 _ (by simp)
theorem b_BadCount (T : Txt K mg a) : Binds K (a.xfd 22) (["self", "number"] : List Str) [] := by
  obtain ⟨oc, od, osl, dV, kV, doc, pm, an, ct, e0, e, _, _⟩ := (T.xi 22 _ rfl).fn
  have e1 : dV = .none := dfI_no e0
  subst e1
  rw [e]
  exact .all fun us hl => match us, hl with | [_, _], _ => rfl
theorem ok_BadCount (T : Txt K mg a) : FnQ PW w K mg base (L2.CX PW w) 1 (a.xf 22) (a.xfd 22) (["self", "number"] : List Str) (spIniH (gSh K []) (a.cs 23) (fldN 23)) := by
  obtain ⟨oc, od, osl, dV, kV, doc, pm, an, ct, e0, e, l, cd⟩ := (T.xi 22 _ rfl).fn
  rw [e] at l ⊢
  refine init_okQ l cd ((T.xi 22 _ rfl).sup (N := (["self", "number"] : List Str)) (ps := (["self", "number"] : List Str)) T.opq T.z_super rfl rfl rfl (by decide +kernel) rfl (by decide +kernel) (by decide +kernel) (fun y hy => (show ∀ p ∈ (defScope sx_BadCount).names, p.2 = .free → p.1 = ("__class__" : Str) by decide +kernel) _ (lookup_memX hy) rfl) rfl rfl (by decide +kernel)) rfl rfl rfl (by decide) (by decide) (fun A outer s H E hq hr => ⟨_, (pa_cons pe_str pa_nil), fun vs hl H hg Q hq2 => ?_⟩) (fun A outer s H E => (.cons (pv 0) (pv 1) ((T.xi 22 _ rfl).no _ (by decide)) rfl .nil))
  match vs, hl with
  | [z0, z1], _ =>
    exact hq2 _ (by simp)
theorem b_BadIndex (T : Txt K mg a) : Binds K (a.xfd 23) (["self", "index"] : List Str) [] := by
  obtain ⟨oc, od, osl, dV, kV, doc, pm, an, ct, e0, e, _, _⟩ := (T.xi 23 _ rfl).fn
  have e1 : dV = .none := dfI_no e0
  subst e1
  rw [e]
  exact .all fun us hl => match us, hl with | [_, _], _ => rfl
theorem ok_BadIndex (T : Txt K mg a) : FnQ PW w K mg base (L2.CX PW w) 1 (a.xf 23) (a.xfd 23) (["self", "index"] : List Str) (spIniH (gSh K []) (a.cs 24) (fldN 24)) := by
  obtain ⟨oc, od, osl, dV, kV, doc, pm, an, ct, e0, e, l, cd⟩ := (T.xi 23 _ rfl).fn
  rw [e] at l ⊢
  refine init_okQ l cd ((T.xi 23 _ rfl).sup (N := (["self", "index"] : List Str)) (ps := (["self", "index"] : List Str)) T.opq T.z_super rfl rfl rfl (by decide +kernel) rfl (by decide +kernel) (by decide +kernel) (fun y hy => (show ∀ p ∈ (defScope sx_BadIndex).names, p.2 = .free → p.1 = ("__class__" : Str) by decide +kernel) _ (lookup_memX hy) rfl) rfl rfl (by decide +kernel)) rfl rfl rfl (by decide) (by decide) (fun A outer s H E hq hr => ⟨_, (pa_cons pe_str pa_nil), fun vs hl H hg Q hq2 => ?_⟩) (fun A outer s H E => (.cons (pv 0) (pv 1) ((T.xi 23 _ rfl).no _ (by decide)) rfl .nil))
  match vs, hl with
  | [z0, z1], _ =>
    exact hq2 _ (by simp)
theorem b_BadJoining (T : Txt K mg a) : Binds K (a.xfd 24) (["self", "index", "what"] : List Str) [] := by
  obtain ⟨oc, od, osl, dV, kV, doc, pm, an, ct, e0, e, _, _⟩ := (T.xi 24 _ rfl).fn
  have e1 : dV = .none := dfI_no e0
  subst e1
  rw [e]
  exact .all fun us hl => match us, hl with | [_, _, _], _ => rfl
theorem ok_BadJoining (T : Txt K mg a) : FnQ PW w K mg base (L2.CX PW w) 1 (a.xf 24) (a.xfd 24) (["self", "index", "what"] : List Str) (spIniH (gSh K []) (a.cs 25) (fldN 25)) := by
  obtain ⟨oc, od, osl, dV, kV, doc, pm, an, ct, e0, e, l, cd⟩ := (T.xi 24 _ rfl).fn
  rw [e] at l ⊢
  refine init_okQ l cd ((T.xi 24 _ rfl).sup (N := (["self", "index", "what"] : List Str)) (ps := (["self", "index", "what"] : List Str)) T.opq T.z_super rfl rfl rfl (by decide +kernel) rfl (by decide +kernel) (by decide +kernel) (fun y hy => (show ∀ p ∈ (defScope sx_BadJoining).names, p.2 = .free → p.1 = ("__class__" : Str) by decide +kernel) _ (lookup_memX hy) rfl) rfl rfl (by decide +kernel)) rfl rfl rfl (by decide) (by decide) (fun A outer s H E hq hr => ⟨_, (pa_cons pe_str pa_nil), fun vs hl H hg Q hq2 => ?_⟩) (fun A outer s H E => (.cons (pv 0) (pv 1) ((T.xi 24 _ rfl).no _ (by decide)) rfl (.cons (pv 0) (pv 2) ((T.xi 24 _ rfl).no _ (by decide)) rfl .nil)))
  match vs, hl with
  | [z0, z1, z2], _ =>
    exact hq2 _ (by simp)
theorem b_NoRenaming (T : Txt K mg a) : Binds K (a.xfd 25) (["self", "place"] : List Str) [] := by
  obtain ⟨oc, od, osl, dV, kV, doc, pm, an, ct, e0, e, _, _⟩ := (T.xi 25 _ rfl).fn
  have e1 : dV = .none := dfI_no e0
  subst e1
  rw [e]
  exact .all fun us hl => match us, hl with | [_, _], _ => rfl
theorem ok_NoRenaming (T : Txt K mg a) : FnQ PW w K mg base (L2.CX PW w) 1 (a.xf 25) (a.xfd 25) (["self", "place"] : List Str) (spIniH (gSh K []) (a.cs 26) (fldN 26)) := by
  obtain ⟨oc, od, osl, dV, kV, doc, pm, an, ct, e0, e, l, cd⟩ := (T.xi 25 _ rfl).fn
  rw [e] at l ⊢
  refine init_okQ l cd ((T.xi 25 _ rfl).sup (N := (["self", "place"] : List Str)) (ps := (["self", "place"] : List Str)) T.opq T.z_super rfl rfl rfl (by decide +kernel) rfl (by decide +kernel) (by decide +kernel) (fun y hy => (show ∀ p ∈ (defScope sx_NoRenaming).names, p.2 = .free → p.1 = ("__class__" : Str) by decide +kernel) _ (lookup_memX hy) rfl) rfl rfl (by decide +kernel)) rfl rfl rfl (by decide) (by decide) (fun A outer s H E hq hr => ⟨_, (pa_cons pe_str pa_nil), fun vs hl H hg Q hq2 => ?_⟩) (fun A outer s H E => (.cons (pv 0) (pv 1) ((T.xi 25 _ rfl).no _ (by decide)) rfl .nil))
  match vs, hl with
  | [z0, z1], _ =>
    exact hq2 _ (by simp)
theorem b_BadScope (T : Txt K mg a) : Binds K (a.xfd 26) (["self", "what"] : List Str) [] := by
  obtain ⟨oc, od, osl, dV, kV, doc, pm, an, ct, e0, e, _, _⟩ := (T.xi 26 _ rfl).fn
  have e1 : dV = .none := dfI_no e0
  subst e1
  rw [e]
  exact .all fun us hl => match us, hl with | [_, _], _ => rfl
theorem ok_BadScope (T : Txt K mg a) : FnQ PW w K mg base (L2.CX PW w) 1 (a.xf 26) (a.xfd 26) (["self", "what"] : List Str) (spIniH (gSh K []) (a.cs 27) (fldN 27)) := by
  obtain ⟨oc, od, osl, dV, kV, doc, pm, an, ct, e0, e, l, cd⟩ := (T.xi 26 _ rfl).fn
  rw [e] at l ⊢
  refine init_okQ l cd ((T.xi 26 _ rfl).sup (N := (["self", "what"] : List Str)) (ps := (["self", "what"] : List Str)) T.opq T.z_super rfl rfl rfl (by decide +kernel) rfl (by decide +kernel) (by decide +kernel) (fun y hy => (show ∀ p ∈ (defScope sx_BadScope).names, p.2 = .free → p.1 = ("__class__" : Str) by decide +kernel) _ (lookup_memX hy) rfl) rfl rfl (by decide +kernel)) rfl rfl rfl (by decide) (by decide) (fun A outer s H E hq hr => ⟨_, (pa_cons pe_str pa_nil), fun vs hl H hg Q hq2 => ?_⟩) (fun A outer s H E => (.cons (pv 0) (pv 1) ((T.xi 26 _ rfl).no _ (by decide)) rfl .nil))
  match vs, hl with
  | [z0, z1], _ =>
    exact hq2 _ (by simp)
theorem b_BadState (T : Txt K mg a) : Binds K (a.xfd 27) (["self", "what"] : List Str) [] := by
  obtain ⟨oc, od, osl, dV, kV, doc, pm, an, ct, e0, e, _, _⟩ := (T.xi 27 _ rfl).fn
  have e1 : dV = .none := dfI_no e0
  subst e1
  rw [e]
  exact .all fun us hl => match us, hl with | [_, _], _ => rfl
theorem ok_BadState (T : Txt K mg a) : FnQ PW w K mg base (L2.CX PW w) 1 (a.xf 27) (a.xfd 27) (["self", "what"] : List Str) (spIniH (gSh K []) (a.cs 28) (fldN 28)) := by
  obtain ⟨oc, od, osl, dV, kV, doc, pm, an, ct, e0, e, l, cd⟩ := (T.xi 27 _ rfl).fn
  rw [e] at l ⊢
  refine init_okQ l cd ((T.xi 27 _ rfl).sup (N := (["self", "what"] : List Str)) (ps := (["self", "what"] : List Str)) T.opq T.z_super rfl rfl rfl (by decide +kernel) rfl (by decide +kernel) (by decide +kernel) (fun y hy => (show ∀ p ∈ (defScope sx_BadState).names, p.2 = .free → p.1 = ("__class__" : Str) by decide +kernel) _ (lookup_memX hy) rfl) rfl rfl (by decide +kernel)) rfl rfl rfl (by decide) (by decide) (fun A outer s H E hq hr => ⟨_, (pa_cons pe_str pa_nil), fun vs hl H hg Q hq2 => ?_⟩) (fun A outer s H E => (.cons (pv 0) (pv 1) ((T.xi 27 _ rfl).no _ (by decide)) rfl .nil))
  match vs, hl with
  | [z0, z1], _ =>
    exact hq2 _ (by simp)
theorem b_BadTable (T : Txt K mg a) : Binds K (a.xfd 28) (["self", "index", "what"] : List Str) [] := by
  obtain ⟨oc, od, osl, dV, kV, doc, pm, an, ct, e0, e, _, _⟩ := (T.xi 28 _ rfl).fn
  have e1 : dV = .none := dfI_no e0
  subst e1
  rw [e]
  exact .all fun us hl => match us, hl with | [_, _, _], _ => rfl
theorem ok_BadTable (T : Txt K mg a) : FnQ PW w K mg base (L2.CX PW w) 1 (a.xf 28) (a.xfd 28) (["self", "index", "what"] : List Str) (spIniH (gSh K []) (a.cs 29) (fldN 29)) := by
  obtain ⟨oc, od, osl, dV, kV, doc, pm, an, ct, e0, e, l, cd⟩ := (T.xi 28 _ rfl).fn
  rw [e] at l ⊢
  refine init_okQ l cd ((T.xi 28 _ rfl).sup (N := (["self", "index", "what"] : List Str)) (ps := (["self", "index", "what"] : List Str)) T.opq T.z_super rfl rfl rfl (by decide +kernel) rfl (by decide +kernel) (by decide +kernel) (fun y hy => (show ∀ p ∈ (defScope sx_BadTable).names, p.2 = .free → p.1 = ("__class__" : Str) by decide +kernel) _ (lookup_memX hy) rfl) rfl rfl (by decide +kernel)) rfl rfl rfl (by decide) (by decide) (fun A outer s H E hq hr => ⟨_, (pa_cons pe_str pa_nil), fun vs hl H hg Q hq2 => ?_⟩) (fun A outer s H E => (.cons (pv 0) (pv 1) ((T.xi 28 _ rfl).no _ (by decide)) rfl (.cons (pv 0) (pv 2) ((T.xi 28 _ rfl).no _ (by decide)) rfl .nil)))
  match vs, hl with
  | [z0, z1, z2], _ =>
    exact hq2 _ (by simp)
theorem b_BadPlay (T : Txt K mg a) : Binds K (a.xfd 29) (["self", "index"] : List Str) [] := by
  obtain ⟨oc, od, osl, dV, kV, doc, pm, an, ct, e0, e, _, _⟩ := (T.xi 29 _ rfl).fn
  have e1 : dV = .none := dfI_no e0
  subst e1
  rw [e]
  exact .all fun us hl => match us, hl with | [_, _], _ => rfl
theorem ok_BadPlay (T : Txt K mg a) : FnQ PW w K mg base (L2.CX PW w) 1 (a.xf 29) (a.xfd 29) (["self", "index"] : List Str) (spIniH (gSh K []) (a.cs 30) (fldN 30)) := by
  obtain ⟨oc, od, osl, dV, kV, doc, pm, an, ct, e0, e, l, cd⟩ := (T.xi 29 _ rfl).fn
  rw [e] at l ⊢
  refine init_okQ l cd ((T.xi 29 _ rfl).sup (N := (["self", "index"] : List Str)) (ps := (["self", "index"] : List Str)) T.opq T.z_super rfl rfl rfl (by decide +kernel) rfl (by decide +kernel) (by decide +kernel) (fun y hy => (show ∀ p ∈ (defScope sx_BadPlay).names, p.2 = .free → p.1 = ("__class__" : Str) by decide +kernel) _ (lookup_memX hy) rfl) rfl rfl (by decide +kernel)) rfl rfl rfl (by decide) (by decide) (fun A outer s H E hq hr => ⟨_, (pa_cons pe_str pa_nil), fun vs hl H hg Q hq2 => ?_⟩) (fun A outer s H E => (.cons (pv 0) (pv 1) ((T.xi 29 _ rfl).no _ (by decide)) rfl .nil))
  match vs, hl with
  | [z0, z1], _ =>
    exact hq2 _ (by simp)
theorem b_NeverComes (T : Txt K mg a) : Binds K (a.xfd 30) (["self", "state"] : List Str) [] := by
  obtain ⟨oc, od, osl, dV, kV, doc, pm, an, ct, e0, e, _, _⟩ := (T.xi 30 _ rfl).fn
  have e1 : dV = .none := dfI_no e0
  subst e1
  rw [e]
  exact .all fun us hl => match us, hl with | [_, _], _ => rfl
theorem ok_NeverComes (T : Txt K mg a) : FnQ PW w K mg base (L2.CX PW w) 1 (a.xf 30) (a.xfd 30) (["self", "state"] : List Str) (spIniH (gSh K []) (a.cs 31) (fldN 31)) := by
  obtain ⟨oc, od, osl, dV, kV, doc, pm, an, ct, e0, e, l, cd⟩ := (T.xi 30 _ rfl).fn
  rw [e] at l ⊢
  refine init_okQ l cd ((T.xi 30 _ rfl).sup (N := (["self", "state"] : List Str)) (ps := (["self", "state"] : List Str)) T.opq T.z_super rfl rfl rfl (by decide +kernel) rfl (by decide +kernel) (by decide +kernel) (fun y hy => (show ∀ p ∈ (defScope sx_NeverComes).names, p.2 = .free → p.1 = ("__class__" : Str) by decide +kernel) _ (lookup_memX hy) rfl) rfl rfl (by decide +kernel)) rfl rfl rfl (by decide) (by decide) (fun A outer s H E hq hr => ⟨_, (pa_cons pe_str pa_nil), fun vs hl H hg Q hq2 => ?_⟩) (fun A outer s H E => (.cons (pv 0) (pv 1) ((T.xi 30 _ rfl).no _ (by decide)) rfl .nil))
  match vs, hl with
  | [z0, z1], _ =>
    exact hq2 _ (by simp)
theorem b_NotUnwed (T : Txt K mg a) : Binds K (a.xfd 31) (["self", "label"] : List Str) [] := by
  obtain ⟨oc, od, osl, dV, kV, doc, pm, an, ct, e0, e, _, _⟩ := (T.xi 31 _ rfl).fn
  have e1 : dV = .none := dfI_no e0
  subst e1
  rw [e]
  exact .all fun us hl => match us, hl with | [_, _], _ => rfl
theorem ok_NotUnwed (T : Txt K mg a) : FnQ PW w K mg base (L2.CX PW w) 1 (a.xf 31) (a.xfd 31) (["self", "label"] : List Str) (spIniH (gSh K []) (a.cs 32) (fldN 32)) := by
  obtain ⟨oc, od, osl, dV, kV, doc, pm, an, ct, e0, e, l, cd⟩ := (T.xi 31 _ rfl).fn
  rw [e] at l ⊢
  refine init_okQ l cd ((T.xi 31 _ rfl).sup (N := (["self", "label"] : List Str)) (ps := (["self", "label"] : List Str)) T.opq T.z_super rfl rfl rfl (by decide +kernel) rfl (by decide +kernel) (by decide +kernel) (fun y hy => (show ∀ p ∈ (defScope sx_NotUnwed).names, p.2 = .free → p.1 = ("__class__" : Str) by decide +kernel) _ (lookup_memX hy) rfl) rfl rfl (by decide +kernel)) rfl rfl rfl (by decide) (by decide) (fun A outer s H E hq hr => ⟨_, (pa_cons pe_str pa_nil), fun vs hl H hg Q hq2 => ?_⟩) (fun A outer s H E => (.cons (pv 0) (pv 1) ((T.xi 31 _ rfl).no _ (by decide)) rfl .nil))
  match vs, hl with
  | [z0, z1], _ =>
    exact hq2 _ (by simp)
theorem b_BadAsked (T : Txt K mg a) : Binds K (a.xfd 32) (["self", "what"] : List Str) [] := by
  obtain ⟨oc, od, osl, dV, kV, doc, pm, an, ct, e0, e, _, _⟩ := (T.xi 32 _ rfl).fn
  have e1 : dV = .none := dfI_no e0
  subst e1
  rw [e]
  exact .all fun us hl => match us, hl with | [_, _], _ => rfl
theorem ok_BadAsked (T : Txt K mg a) : FnQ PW w K mg base (L2.CX PW w) 1 (a.xf 32) (a.xfd 32) (["self", "what"] : List Str) (spIniH (gSh K []) (a.cs 33) (fldN 33)) := by
  obtain ⟨oc, od, osl, dV, kV, doc, pm, an, ct, e0, e, l, cd⟩ := (T.xi 32 _ rfl).fn
  rw [e] at l ⊢
  refine init_okQ l cd ((T.xi 32 _ rfl).sup (N := (["self", "what"] : List Str)) (ps := (["self", "what"] : List Str)) T.opq T.z_super rfl rfl rfl (by decide +kernel) rfl (by decide +kernel) (by decide +kernel) (fun y hy => (show ∀ p ∈ (defScope sx_BadAsked).names, p.2 = .free → p.1 = ("__class__" : Str) by decide +kernel) _ (lookup_memX hy) rfl) rfl rfl (by decide +kernel)) rfl rfl rfl (by decide) (by decide) (fun A outer s H E hq hr => ⟨_, (pa_cons pe_str pa_nil), fun vs hl H hg Q hq2 => ?_⟩) (fun A outer s H E => (.cons (pv 0) (pv 1) ((T.xi 32 _ rfl).no _ (by decide)) rfl .nil))
  match vs, hl with
  | [z0, z1], _ =>
    exact hq2 _ (by simp)
theorem b_TooLong (T : Txt K mg a) : Binds K (a.xfd 33) (["self", "times"] : List Str) [] := by
  obtain ⟨oc, od, osl, dV, kV, doc, pm, an, ct, e0, e, _, _⟩ := (T.xi 33 _ rfl).fn
  have e1 : dV = .none := dfI_no e0
  subst e1
  rw [e]
  exact .all fun us hl => match us, hl with | [_, _], _ => rfl
theorem ok_TooLong (T : Txt K mg a) : FnQ PW w K mg base (L2.CX PW w) 1 (a.xf 33) (a.xfd 33) (["self", "times"] : List Str) (spIniH (gSh K []) (a.cs 34) (fldN 34)) := by
  obtain ⟨oc, od, osl, dV, kV, doc, pm, an, ct, e0, e, l, cd⟩ := (T.xi 33 _ rfl).fn
  rw [e] at l ⊢
  refine init_okQ l cd ((T.xi 33 _ rfl).sup (N := (["self", "times"] : List Str)) (ps := (["self", "times"] : List Str)) T.opq T.z_super rfl rfl rfl (by decide +kernel) rfl (by decide +kernel) (by decide +kernel) (fun y hy => (show ∀ p ∈ (defScope sx_TooLong).names, p.2 = .free → p.1 = ("__class__" : Str) by decide +kernel) _ (lookup_memX hy) rfl) rfl rfl (by decide +kernel)) rfl rfl rfl (by decide) (by decide) (fun A outer s H E hq hr => ⟨_, (pa_cons pe_str pa_nil), fun vs hl H hg Q hq2 => ?_⟩) (fun A outer s H E => (.cons (pv 0) (pv 1) ((T.xi 33 _ rfl).no _ (by decide)) rfl .nil))
  match vs, hl with
  | [z0, z1], _ =>
    exact hq2 _ (by simp)
theorem b_NoWays (T : Txt K mg a) : Binds K (a.xfd 34) (["self", "what"] : List Str) [] := by
  obtain ⟨oc, od, osl, dV, kV, doc, pm, an, ct, e0, e, _, _⟩ := (T.xi 34 _ rfl).fn
  have e1 : dV = .none := dfI_no e0
  subst e1
  rw [e]
  exact .all fun us hl => match us, hl with | [_, _], _ => rfl
theorem ok_NoWays (T : Txt K mg a) : FnQ PW w K mg base (L2.CX PW w) 1 (a.xf 34) (a.xfd 34) (["self", "what"] : List Str) (spIniH (gSh K []) (a.cs 35) (fldN 35)) := by
  obtain ⟨oc, od, osl, dV, kV, doc, pm, an, ct, e0, e, l, cd⟩ := (T.xi 34 _ rfl).fn
  rw [e] at l ⊢
  refine init_okQ l cd ((T.xi 34 _ rfl).sup (N := (["self", "what"] : List Str)) (ps := (["self", "what"] : List Str)) T.opq T.z_super rfl rfl rfl (by decide +kernel) rfl (by decide +kernel) (by decide +kernel) (fun y hy => (show ∀ p ∈ (defScope sx_NoWays).names, p.2 = .free → p.1 = ("__class__" : Str) by decide +kernel) _ (lookup_memX hy) rfl) rfl rfl (by decide +kernel)) rfl rfl rfl (by decide) (by decide) (fun A outer s H E hq hr => ⟨_, (pa_cons pe_str pa_nil), fun vs hl H hg Q hq2 => ?_⟩) (fun A outer s H E => (.cons (pv 0) (pv 1) ((T.xi 34 _ rfl).no _ (by decide)) rfl .nil))
  match vs, hl with
  | [z0, z1], _ =>
    exact hq2 _ (by simp)
theorem b_NoState (T : Txt K mg a) : Binds K (a.xfd 35) (["self", "state"] : List Str) [] := by
  obtain ⟨oc, od, osl, dV, kV, doc, pm, an, ct, e0, e, _, _⟩ := (T.xi 35 _ rfl).fn
  have e1 : dV = .none := dfI_no e0
  subst e1
  rw [e]
  exact .all fun us hl => match us, hl with | [_, _], _ => rfl
theorem ok_NoState (T : Txt K mg a) : FnQ PW w K mg base (L2.CX PW w) 1 (a.xf 35) (a.xfd 35) (["self", "state"] : List Str) (spIniH (gSh K []) (a.cs 36) (fldN 36)) := by
  obtain ⟨oc, od, osl, dV, kV, doc, pm, an, ct, e0, e, l, cd⟩ := (T.xi 35 _ rfl).fn
  rw [e] at l ⊢
  refine init_okQ l cd ((T.xi 35 _ rfl).sup (N := (["self", "state"] : List Str)) (ps := (["self", "state"] : List Str)) T.opq T.z_super rfl rfl rfl (by decide +kernel) rfl (by decide +kernel) (by decide +kernel) (fun y hy => (show ∀ p ∈ (defScope sx_NoState).names, p.2 = .free → p.1 = ("__class__" : Str) by decide +kernel) _ (lookup_memX hy) rfl) rfl rfl (by decide +kernel)) rfl rfl rfl (by decide) (by decide) (fun A outer s H E hq hr => ⟨_, (pa_cons pe_str pa_nil), fun vs hl H hg Q hq2 => ?_⟩) (fun A outer s H E => (.cons (pv 0) (pv 1) ((T.xi 35 _ rfl).no _ (by decide)) rfl .nil))
  match vs, hl with
  | [z0, z1], _ =>
    exact hq2 _ (by simp)
theorem b_BadWord (T : Txt K mg a) : Binds K (a.xfd 36) (["self", "word"] : List Str) [] := by
  obtain ⟨oc, od, osl, dV, kV, doc, pm, an, ct, e0, e, _, _⟩ := (T.xi 36 _ rfl).fn
  have e1 : dV = .none := dfI_no e0
  subst e1
  rw [e]
  exact .all fun us hl => match us, hl with | [_, _], _ => rfl
theorem ok_BadWord (T : Txt K mg a) : FnQ PW w K mg base (L2.CX PW w) 1 (a.xf 36) (a.xfd 36) (["self", "word"] : List Str) (spIniH (gSh K []) (a.cs 37) (fldN 37)) := by
  obtain ⟨oc, od, osl, dV, kV, doc, pm, an, ct, e0, e, l, cd⟩ := (T.xi 36 _ rfl).fn
  rw [e] at l ⊢
  refine init_okQ l cd ((T.xi 36 _ rfl).sup (N := (["self", "word"] : List Str)) (ps := (["self", "word"] : List Str)) T.opq T.z_super rfl rfl rfl (by decide +kernel) rfl (by decide +kernel) (by decide +kernel) (fun y hy => (show ∀ p ∈ (defScope sx_BadWord).names, p.2 = .free → p.1 = ("__class__" : Str) by decide +kernel) _ (lookup_memX hy) rfl) rfl rfl (by decide +kernel)) rfl rfl rfl (by decide) (by decide) (fun A outer s H E hq hr => ⟨_, (pa_cons pe_str pa_nil), fun vs hl H hg Q hq2 => ?_⟩) (fun A outer s H E => (.cons (pv 0) (pv 1) ((T.xi 36 _ rfl).no _ (by decide)) rfl .nil))
  match vs, hl with
  | [z0, z1], _ =>
    exact hq2 _ (by simp)
theorem b_BadLength (T : Txt K mg a) : Binds K (a.xfd 37) (["self", "length"] : List Str) [] := by
  obtain ⟨oc, od, osl, dV, kV, doc, pm, an, ct, e0, e, _, _⟩ := (T.xi 37 _ rfl).fn
  have e1 : dV = .none := dfI_no e0
  subst e1
  rw [e]
  exact .all fun us hl => match us, hl with | [_, _], _ => rfl
theorem ok_BadLength (T : Txt K mg a) : FnQ PW w K mg base (L2.CX PW w) 1 (a.xf 37) (a.xfd 37) (["self", "length"] : List Str) (spIniH (gSh K []) (a.cs 38) (fldN 38)) := by
  obtain ⟨oc, od, osl, dV, kV, doc, pm, an, ct, e0, e, l, cd⟩ := (T.xi 37 _ rfl).fn
  rw [e] at l ⊢
  refine init_okQ l cd ((T.xi 37 _ rfl).sup (N := (["self", "length"] : List Str)) (ps := (["self", "length"] : List Str)) T.opq T.z_super rfl rfl rfl (by decide +kernel) rfl (by decide +kernel) (by decide +kernel) (fun y hy => (show ∀ p ∈ (defScope sx_BadLength).names, p.2 = .free → p.1 = ("__class__" : Str) by decide +kernel) _ (lookup_memX hy) rfl) rfl rfl (by decide +kernel)) rfl rfl rfl (by decide) (by decide) (fun A outer s H E hq hr => ⟨_, (pa_cons pe_str pa_nil), fun vs hl H hg Q hq2 => ?_⟩) (fun A outer s H E => (.cons (pv 0) (pv 1) ((T.xi 37 _ rfl).no _ (by decide)) rfl .nil))
  match vs, hl with
  | [z0, z1], _ =>
    exact hq2 _ (by simp)
theorem b_BadOrigin (T : Txt K mg a) : Binds K (a.xfd 38) (["self", "origin"] : List Str) [] := by
  obtain ⟨oc, od, osl, dV, kV, doc, pm, an, ct, e0, e, _, _⟩ := (T.xi 38 _ rfl).fn
  have e1 : dV = .none := dfI_no e0
  subst e1
  rw [e]
  exact .all fun us hl => match us, hl with | [_, _], _ => rfl
theorem ok_BadOrigin (T : Txt K mg a) : FnQ PW w K mg base (L2.CX PW w) 1 (a.xf 38) (a.xfd 38) (["self", "origin"] : List Str) (spIniH (gSh K []) (a.cs 39) (fldN 39)) := by
  obtain ⟨oc, od, osl, dV, kV, doc, pm, an, ct, e0, e, l, cd⟩ := (T.xi 38 _ rfl).fn
  rw [e] at l ⊢
  refine init_okQ l cd ((T.xi 38 _ rfl).sup (N := (["self", "origin"] : List Str)) (ps := (["self", "origin"] : List Str)) T.opq T.z_super rfl rfl rfl (by decide +kernel) rfl (by decide +kernel) (by decide +kernel) (fun y hy => (show ∀ p ∈ (defScope sx_BadOrigin).names, p.2 = .free → p.1 = ("__class__" : Str) by decide +kernel) _ (lookup_memX hy) rfl) rfl rfl (by decide +kernel)) rfl rfl rfl (by decide) (by decide) (fun A outer s H E hq hr => ⟨_, (pa_cons pe_str pa_nil), fun vs hl H hg Q hq2 => ?_⟩) (fun A outer s H E => (.cons (pv 0) (pv 1) ((T.xi 38 _ rfl).no _ (by decide)) rfl .nil))
  match vs, hl with
  | [z0, z1], _ =>
    exact hq2 _ (by simp)
theorem b_NotLet (T : Txt K mg a) : Binds K (a.xfd 39) (["self", "one", "other"] : List Str) [] := by
  obtain ⟨oc, od, osl, dV, kV, doc, pm, an, ct, e0, e, _, _⟩ := (T.xi 39 _ rfl).fn
  obtain ⟨D, o, its, n, rfl, h1, h2, rfl⟩ := dfI_one e0
  rw [e]
  intro s us kin hl
  have hl2 : us.length = 3 := by simpa using hl
  clear hl
  match us, hl2 with
  | [_, _, _], _ => exact BindsTo.of_looks fun M => looks_items kin h1 h2 (.of_pure rfl)
theorem bd_NotLet (T : Txt K mg a) : Binds K (a.xfd 39) (["self", "one", "other"] : List Str) [.none] := by
  obtain ⟨oc, od, osl, dV, kV, doc, pm, an, ct, e0, e, _, _⟩ := (T.xi 39 _ rfl).fn
  obtain ⟨D, o, its, n, rfl, h1, h2, rfl⟩ := dfI_one e0
  rw [e]
  intro s us kin hl
  have hl2 : us.length = 2 := by simpa using hl
  clear hl
  match us, hl2 with
  | [_, _], _ => exact BindsTo.of_looks fun M => looks_items kin h1 h2 (.of_pure rfl)
theorem ok_NotLet (T : Txt K mg a) : FnQ PW w K mg base (L2.CX PW w) 1 (a.xf 39) (a.xfd 39) (["self", "one", "other"] : List Str) (spIniH (gSh K []) (a.cs 40) (fldN 40)) := by
  obtain ⟨oc, od, osl, dV, kV, doc, pm, an, ct, e0, e, l, cd⟩ := (T.xi 39 _ rfl).fn
  rw [e] at l ⊢
  refine init_okQ l cd ((T.xi 39 _ rfl).sup (N := (["self", "one", "other"] : List Str)) (ps := (["self", "one", "other"] : List Str)) T.opq T.z_super rfl rfl rfl (by decide +kernel) rfl (by decide +kernel) (by decide +kernel) (fun y hy => (show ∀ p ∈ (defScope sx_NotLet).names, p.2 = .free → p.1 = ("__class__" : Str) by decide +kernel) _ (lookup_memX hy) rfl) rfl rfl (by decide +kernel)) rfl rfl rfl (by decide) (by decide) (fun A outer s H E hq hr => ⟨_, (pa_cons pe_str pa_nil), fun vs hl H hg Q hq2 => ?_⟩) (fun A outer s H E => (.cons (pv 0) (pv 1) ((T.xi 39 _ rfl).no _ (by decide)) rfl (.cons (pv 0) (pv 2) ((T.xi 39 _ rfl).no _ (by decide)) rfl .nil)))
  match vs, hl with
  | [z0, z1, z2], _ =>
    exact hq2 _ (by simp)
theorem b_BadNumber (T : Txt K mg a) : Binds K (a.xfd 40) (["self", "number"] : List Str) [] := by
  obtain ⟨oc, od, osl, dV, kV, doc, pm, an, ct, e0, e, _, _⟩ := (T.xi 40 _ rfl).fn
  have e1 : dV = .none := dfI_no e0
  subst e1
  rw [e]
  exact .all fun us hl => match us, hl with | [_, _], _ => rfl
theorem ok_BadNumber (T : Txt K mg a) : FnQ PW w K mg base (L2.CX PW w) 1 (a.xf 40) (a.xfd 40) (["self", "number"] : List Str) (spIniH (gSh K []) (a.cs 41) (fldN 41)) := by
  obtain ⟨oc, od, osl, dV, kV, doc, pm, an, ct, e0, e, l, cd⟩ := (T.xi 40 _ rfl).fn
  rw [e] at l ⊢
  refine init_okQ l cd ((T.xi 40 _ rfl).sup (N := (["self", "number"] : List Str)) (ps := (["self", "number"] : List Str)) T.opq T.z_super rfl rfl rfl (by decide +kernel) rfl (by decide +kernel) (by decide +kernel) (fun y hy => (show ∀ p ∈ (defScope sx_BadNumber).names, p.2 = .free → p.1 = ("__class__" : Str) by decide +kernel) _ (lookup_memX hy) rfl) rfl rfl (by decide +kernel)) rfl rfl rfl (by decide) (by decide) (fun A outer s H E hq hr => ⟨_, (pa_cons pe_str pa_nil), fun vs hl H hg Q hq2 => ?_⟩) (fun A outer s H E => (.cons (pv 0) (pv 1) ((T.xi 40 _ rfl).no _ (by decide)) rfl .nil))
  match vs, hl with
  | [z0, z1], _ =>
    exact hq2 _ (by simp)
theorem b_BadLine (T : Txt K mg a) : Binds K (a.xfd 41) (["self", "index", "what"] : List Str) [] := by
  obtain ⟨oc, od, osl, dV, kV, doc, pm, an, ct, e0, e, _, _⟩ := (T.xi 41 _ rfl).fn
  have e1 : dV = .none := dfI_no e0
  subst e1
  rw [e]
  exact .all fun us hl => match us, hl with | [_, _, _], _ => rfl
theorem ok_BadLine (T : Txt K mg a) : FnQ PW w K mg base (L2.CX PW w) 1 (a.xf 41) (a.xfd 41) (["self", "index", "what"] : List Str) (spIniH (gSh K []) (a.cs 42) (fldN 42)) := by
  obtain ⟨oc, od, osl, dV, kV, doc, pm, an, ct, e0, e, l, cd⟩ := (T.xi 41 _ rfl).fn
  rw [e] at l ⊢
  refine init_okQ l cd ((T.xi 41 _ rfl).sup (N := (["self", "index", "what"] : List Str)) (ps := (["self", "index", "what"] : List Str)) T.opq T.z_super rfl rfl rfl (by decide +kernel) rfl (by decide +kernel) (by decide +kernel) (fun y hy => (show ∀ p ∈ (defScope sx_BadLine).names, p.2 = .free → p.1 = ("__class__" : Str) by decide +kernel) _ (lookup_memX hy) rfl) rfl rfl (by decide +kernel)) rfl rfl rfl (by decide) (by decide) (fun A outer s H E hq hr => ⟨_, (pa_cons pe_str pa_nil), fun vs hl H hg Q hq2 => ?_⟩) (fun A outer s H E => (.cons (pv 0) (pv 1) ((T.xi 41 _ rfl).no _ (by decide)) rfl (.cons (pv 0) (pv 2) ((T.xi 41 _ rfl).no _ (by decide)) rfl .nil)))
  match vs, hl with
  | [z0, z1, z2], _ =>
    exact hq2 _ (by simp)
theorem b_BadGeneration (T : Txt K mg a) : Binds K (a.xfd 42) (["self", "n"] : List Str) [] := by
  obtain ⟨oc, od, osl, dV, kV, doc, pm, an, ct, e0, e, _, _⟩ := (T.xi 42 _ rfl).fn
  have e1 : dV = .none := dfI_no e0
  subst e1
  rw [e]
  exact .all fun us hl => match us, hl with | [_, _], _ => rfl
theorem ok_BadGeneration (T : Txt K mg a) : FnQ PW w K mg base (L2.CX PW w) 1 (a.xf 42) (a.xfd 42) (["self", "n"] : List Str) (spIniH (gSh K []) (a.cs 43) (fldN 43)) := by
  obtain ⟨oc, od, osl, dV, kV, doc, pm, an, ct, e0, e, l, cd⟩ := (T.xi 42 _ rfl).fn
  rw [e] at l ⊢
  refine init_okQ l cd ((T.xi 42 _ rfl).sup (N := (["self", "n"] : List Str)) (ps := (["self", "n"] : List Str)) T.opq T.z_super rfl rfl rfl (by decide +kernel) rfl (by decide +kernel) (by decide +kernel) (fun y hy => (show ∀ p ∈ (defScope sx_BadGeneration).names, p.2 = .free → p.1 = ("__class__" : Str) by decide +kernel) _ (lookup_memX hy) rfl) rfl rfl (by decide +kernel)) rfl rfl rfl (by decide) (by decide) (fun A outer s H E hq hr => ⟨_, (pa_cons pe_str pa_nil), fun vs hl H hg Q hq2 => ?_⟩) (fun A outer s H E => (.cons (pv 0) (pv 1) ((T.xi 42 _ rfl).no _ (by decide)) rfl .nil))
  match vs, hl with
  | [z0, z1], _ =>
    exact hq2 _ (by simp)
theorem b_BadPair (T : Txt K mg a) : Binds K (a.xfd 43) (["self", "index", "what"] : List Str) [] := by
  obtain ⟨oc, od, osl, dV, kV, doc, pm, an, ct, e0, e, _, _⟩ := (T.xi 43 _ rfl).fn
  have e1 : dV = .none := dfI_no e0
  subst e1
  rw [e]
  exact .all fun us hl => match us, hl with | [_, _, _], _ => rfl
theorem ok_BadPair (T : Txt K mg a) : FnQ PW w K mg base (L2.CX PW w) 1 (a.xf 43) (a.xfd 43) (["self", "index", "what"] : List Str) (spIniH (gSh K [0]) (a.cs 45) (fldN 45)) := by
  obtain ⟨oc, od, osl, dV, kV, doc, pm, an, ct, e0, e, l, cd⟩ := (T.xi 43 _ rfl).fn
  rw [e] at l ⊢
  refine init_okQ l cd ((T.xi 43 _ rfl).sup (N := (["self", "index", "what"] : List Str)) (ps := (["self", "index", "what"] : List Str)) T.opq T.z_super rfl rfl rfl (by decide +kernel) rfl (by decide +kernel) (by decide +kernel) (fun y hy => (show ∀ p ∈ (defScope sx_BadPair).names, p.2 = .free → p.1 = ("__class__" : Str) by decide +kernel) _ (lookup_memX hy) rfl) rfl rfl (by decide +kernel)) rfl rfl rfl (by decide) (by decide) (fun A outer s H E hq hr => ⟨_, (pa_cons pe_str (pa_cons (pe_callTy (call_strV hq (show _ + 64 < cLine from (hr.deeper _).units)) rfl T.z_str bt_str (pa_cons (pv 1) pa_nil)) (pa_cons (pv 2) pa_nil))), fun vs hl H hg Q hq2 => ?_⟩) (fun A outer s H E => (.cons (pv 0) (pv 1) ((T.xi 43 _ rfl).no _ (by decide)) rfl (.cons (pv 0) (pv 2) ((T.xi 43 _ rfl).no _ (by decide)) rfl .nil)))
  match vs, hl with
  | [z0, z1, z2], _ =>
    obtain ⟨y1, q1, l1⟩ := hg 0 (by simp)
    cases q1
    exact ⟨_, rfl, _, rfl, l1, fun _ _ => ⟨_, rfl, hq2 _ (by simp)⟩⟩
theorem b_BadLand (T : Txt K mg a) : Binds K (a.xfd 44) (["self", "what"] : List Str) [] := by
  obtain ⟨oc, od, osl, dV, kV, doc, pm, an, ct, e0, e, _, _⟩ := (T.xi 44 _ rfl).fn
  have e1 : dV = .none := dfI_no e0
  subst e1
  rw [e]
  exact .all fun us hl => match us, hl with | [_, _], _ => rfl
theorem ok_BadLand (T : Txt K mg a) : FnQ PW w K mg base (L2.CX PW w) 1 (a.xf 44) (a.xfd 44) (["self", "what"] : List Str) (spIniH (gSh K []) (a.cs 46) (fldN 46)) := by
  obtain ⟨oc, od, osl, dV, kV, doc, pm, an, ct, e0, e, l, cd⟩ := (T.xi 44 _ rfl).fn
  rw [e] at l ⊢
  refine init_okQ l cd ((T.xi 44 _ rfl).sup (N := (["self", "what"] : List Str)) (ps := (["self", "what"] : List Str)) T.opq T.z_super rfl rfl rfl (by decide +kernel) rfl (by decide +kernel) (by decide +kernel) (fun y hy => (show ∀ p ∈ (defScope sx_BadLand).names, p.2 = .free → p.1 = ("__class__" : Str) by decide +kernel) _ (lookup_memX hy) rfl) rfl rfl (by decide +kernel)) rfl rfl rfl (by decide) (by decide) (fun A outer s H E hq hr => ⟨_, (pa_cons pe_str (pa_cons (pv 1) pa_nil)), fun vs hl H hg Q hq2 => ?_⟩) (fun A outer s H E => (.cons (pv 0) (pv 1) ((T.xi 44 _ rfl).no _ (by decide)) rfl .nil))
  match vs, hl with
  | [z0, z1], _ =>
    exact ⟨_, rfl, hq2 _ (by simp)⟩
theorem b_BadSecond (T : Txt K mg a) : Binds K (a.xfd 45) (["self", "index", "what"] : List Str) [] := by
  obtain ⟨oc, od, osl, dV, kV, doc, pm, an, ct, e0, e, _, _⟩ := (T.xi 45 _ rfl).fn
  have e1 : dV = .none := dfI_no e0
  subst e1
  rw [e]
  exact .all fun us hl => match us, hl with | [_, _, _], _ => rfl
theorem ok_BadSecond (T : Txt K mg a) : FnQ PW w K mg base (L2.CX PW w) 1 (a.xf 45) (a.xfd 45) (["self", "index", "what"] : List Str) (spIniH (gSh K [0]) (a.cs 47) (fldN 47)) := by
  obtain ⟨oc, od, osl, dV, kV, doc, pm, an, ct, e0, e, l, cd⟩ := (T.xi 45 _ rfl).fn
  rw [e] at l ⊢
  refine init_okQ l cd ((T.xi 45 _ rfl).sup (N := (["self", "index", "what"] : List Str)) (ps := (["self", "index", "what"] : List Str)) T.opq T.z_super rfl rfl rfl (by decide +kernel) rfl (by decide +kernel) (by decide +kernel) (fun y hy => (show ∀ p ∈ (defScope sx_BadSecond).names, p.2 = .free → p.1 = ("__class__" : Str) by decide +kernel) _ (lookup_memX hy) rfl) rfl rfl (by decide +kernel)) rfl rfl rfl (by decide) (by decide) (fun A outer s H E hq hr => ⟨_, (pa_cons pe_str (pa_cons (pe_callTy (call_strV hq (show _ + 64 < cLine from (hr.deeper _).units)) rfl T.z_str bt_str (pa_cons (pv 1) pa_nil)) (pa_cons (pv 2) pa_nil))), fun vs hl H hg Q hq2 => ?_⟩) (fun A outer s H E => (.cons (pv 0) (pv 1) ((T.xi 45 _ rfl).no _ (by decide)) rfl (.cons (pv 0) (pv 2) ((T.xi 45 _ rfl).no _ (by decide)) rfl .nil)))
  match vs, hl with
  | [z0, z1, z2], _ =>
    obtain ⟨y1, q1, l1⟩ := hg 0 (by simp)
    cases q1
    exact ⟨_, rfl, _, rfl, l1, fun _ _ => ⟨_, rfl, hq2 _ (by simp)⟩⟩
theorem b_BadPage (T : Txt K mg a) : Binds K (a.xfd 46) (["self", "index", "what"] : List Str) [] := by
  obtain ⟨oc, od, osl, dV, kV, doc, pm, an, ct, e0, e, _, _⟩ := (T.xi 46 _ rfl).fn
  have e1 : dV = .none := dfI_no e0
  subst e1
  rw [e]
  exact .all fun us hl => match us, hl with | [_, _, _], _ => rfl
theorem ok_BadPage (T : Txt K mg a) : FnQ PW w K mg base (L2.CX PW w) 1 (a.xf 46) (a.xfd 46) (["self", "index", "what"] : List Str) (spIniH (gSh K []) (a.cs 48) (fldN 48)) := by
  obtain ⟨oc, od, osl, dV, kV, doc, pm, an, ct, e0, e, l, cd⟩ := (T.xi 46 _ rfl).fn
  rw [e] at l ⊢
  refine init_okQ l cd ((T.xi 46 _ rfl).sup (N := (["self", "index", "what"] : List Str)) (ps := (["self", "index", "what"] : List Str)) T.opq T.z_super rfl rfl rfl (by decide +kernel) rfl (by decide +kernel) (by decide +kernel) (fun y hy => (show ∀ p ∈ (defScope sx_BadPage).names, p.2 = .free → p.1 = ("__class__" : Str) by decide +kernel) _ (lookup_memX hy) rfl) rfl rfl (by decide +kernel)) rfl rfl rfl (by decide) (by decide) (fun A outer s H E hq hr => ⟨_, (pa_cons pe_str pa_nil), fun vs hl H hg Q hq2 => ?_⟩) (fun A outer s H E => (.cons (pv 0) (pv 1) ((T.xi 46 _ rfl).no _ (by decide)) rfl (.cons (pv 0) (pv 2) ((T.xi 46 _ rfl).no _ (by decide)) rfl .nil)))
  match vs, hl with
  | [z0, z1, z2], _ =>
    exact hq2 _ (by simp)
theorem b_BadSeen (T : Txt K mg a) : Binds K (a.xfd 47) (["self", "index", "what"] : List Str) [] := by
  obtain ⟨oc, od, osl, dV, kV, doc, pm, an, ct, e0, e, _, _⟩ := (T.xi 47 _ rfl).fn
  have e1 : dV = .none := dfI_no e0
  subst e1
  rw [e]
  exact .all fun us hl => match us, hl with | [_, _, _], _ => rfl
theorem ok_BadSeen (T : Txt K mg a) : FnQ PW w K mg base (L2.CX PW w) 1 (a.xf 47) (a.xfd 47) (["self", "index", "what"] : List Str) (spIniH (gSh K []) (a.cs 49) (fldN 49)) := by
  obtain ⟨oc, od, osl, dV, kV, doc, pm, an, ct, e0, e, l, cd⟩ := (T.xi 47 _ rfl).fn
  rw [e] at l ⊢
  refine init_okQ l cd ((T.xi 47 _ rfl).sup (N := (["self", "index", "what"] : List Str)) (ps := (["self", "index", "what"] : List Str)) T.opq T.z_super rfl rfl rfl (by decide +kernel) rfl (by decide +kernel) (by decide +kernel) (fun y hy => (show ∀ p ∈ (defScope sx_BadSeen).names, p.2 = .free → p.1 = ("__class__" : Str) by decide +kernel) _ (lookup_memX hy) rfl) rfl rfl (by decide +kernel)) rfl rfl rfl (by decide) (by decide) (fun A outer s H E hq hr => ⟨_, (pa_cons pe_str pa_nil), fun vs hl H hg Q hq2 => ?_⟩) (fun A outer s H E => (.cons (pv 0) (pv 1) ((T.xi 47 _ rfl).no _ (by decide)) rfl (.cons (pv 0) (pv 2) ((T.xi 47 _ rfl).no _ (by decide)) rfl .nil)))
  match vs, hl with
  | [z0, z1, z2], _ =>
    exact hq2 _ (by simp)
theorem b_BadFilling (T : Txt K mg a) : Binds K (a.xfd 48) (["self", "what"] : List Str) [] := by
  obtain ⟨oc, od, osl, dV, kV, doc, pm, an, ct, e0, e, _, _⟩ := (T.xi 48 _ rfl).fn
  have e1 : dV = .none := dfI_no e0
  subst e1
  rw [e]
  exact .all fun us hl => match us, hl with | [_, _], _ => rfl
theorem ok_BadFilling (T : Txt K mg a) : FnQ PW w K mg base (L2.CX PW w) 1 (a.xf 48) (a.xfd 48) (["self", "what"] : List Str) (spIniH (gSh K []) (a.cs 50) (fldN 50)) := by
  obtain ⟨oc, od, osl, dV, kV, doc, pm, an, ct, e0, e, l, cd⟩ := (T.xi 48 _ rfl).fn
  rw [e] at l ⊢
  refine init_okQ l cd ((T.xi 48 _ rfl).sup (N := (["self", "what"] : List Str)) (ps := (["self", "what"] : List Str)) T.opq T.z_super rfl rfl rfl (by decide +kernel) rfl (by decide +kernel) (by decide +kernel) (fun y hy => (show ∀ p ∈ (defScope sx_BadFilling).names, p.2 = .free → p.1 = ("__class__" : Str) by decide +kernel) _ (lookup_memX hy) rfl) rfl rfl (by decide +kernel)) rfl rfl rfl (by decide) (by decide) (fun A outer s H E hq hr => ⟨_, (pa_cons pe_str pa_nil), fun vs hl H hg Q hq2 => ?_⟩) (fun A outer s H E => (.cons (pv 0) (pv 1) ((T.xi 48 _ rfl).no _ (by decide)) rfl .nil))
  match vs, hl with
  | [z0, z1], _ =>
    exact hq2 _ (by simp)
theorem b_BadNotice (T : Txt K mg a) : Binds K (a.xfd 49) (["self", "what"] : List Str) [] := by
  obtain ⟨oc, od, osl, dV, kV, doc, pm, an, ct, e0, e, _, _⟩ := (T.xi 49 _ rfl).fn
  have e1 : dV = .none := dfI_no e0
  subst e1
  rw [e]
  exact .all fun us hl => match us, hl with | [_, _], _ => rfl
theorem ok_BadNotice (T : Txt K mg a) : FnQ PW w K mg base (L2.CX PW w) 1 (a.xf 49) (a.xfd 49) (["self", "what"] : List Str) (spIniH (gSh K []) (a.cs 51) (fldN 51)) := by
  obtain ⟨oc, od, osl, dV, kV, doc, pm, an, ct, e0, e, l, cd⟩ := (T.xi 49 _ rfl).fn
  rw [e] at l ⊢
  refine init_okQ l cd ((T.xi 49 _ rfl).sup (N := (["self", "what"] : List Str)) (ps := (["self", "what"] : List Str)) T.opq T.z_super rfl rfl rfl (by decide +kernel) rfl (by decide +kernel) (by decide +kernel) (fun y hy => (show ∀ p ∈ (defScope sx_BadNotice).names, p.2 = .free → p.1 = ("__class__" : Str) by decide +kernel) _ (lookup_memX hy) rfl) rfl rfl (by decide +kernel)) rfl rfl rfl (by decide) (by decide) (fun A outer s H E hq hr => ⟨_, (pa_cons pe_str pa_nil), fun vs hl H hg Q hq2 => ?_⟩) (fun A outer s H E => (.cons (pv 0) (pv 1) ((T.xi 49 _ rfl).no _ (by decide)) rfl .nil))
  match vs, hl with
  | [z0, z1], _ =>
    exact hq2 _ (by simp)
theorem b_BadChange (T : Txt K mg a) : Binds K (a.xfd 50) (["self", "index", "what"] : List Str) [] := by
  obtain ⟨oc, od, osl, dV, kV, doc, pm, an, ct, e0, e, _, _⟩ := (T.xi 50 _ rfl).fn
  have e1 : dV = .none := dfI_no e0
  subst e1
  rw [e]
  exact .all fun us hl => match us, hl with | [_, _, _], _ => rfl
theorem ok_BadChange (T : Txt K mg a) : FnQ PW w K mg base (L2.CX PW w) 1 (a.xf 50) (a.xfd 50) (["self", "index", "what"] : List Str) (spIniH (gSh K [0]) (a.cs 52) (fldN 52)) := by
  obtain ⟨oc, od, osl, dV, kV, doc, pm, an, ct, e0, e, l, cd⟩ := (T.xi 50 _ rfl).fn
  rw [e] at l ⊢
  refine init_okQ l cd ((T.xi 50 _ rfl).sup (N := (["self", "index", "what"] : List Str)) (ps := (["self", "index", "what"] : List Str)) T.opq T.z_super rfl rfl rfl (by decide +kernel) rfl (by decide +kernel) (by decide +kernel) (fun y hy => (show ∀ p ∈ (defScope sx_BadChange).names, p.2 = .free → p.1 = ("__class__" : Str) by decide +kernel) _ (lookup_memX hy) rfl) rfl rfl (by decide +kernel)) rfl rfl rfl (by decide) (by decide) (fun A outer s H E hq hr => ⟨_, (pa_cons pe_str (pa_cons (pe_callTy (call_strV hq (show _ + 64 < cLine from (hr.deeper _).units)) rfl T.z_str bt_str (pa_cons (pv 1) pa_nil)) (pa_cons (pv 2) pa_nil))), fun vs hl H hg Q hq2 => ?_⟩) (fun A outer s H E => (.cons (pv 0) (pv 1) ((T.xi 50 _ rfl).no _ (by decide)) rfl (.cons (pv 0) (pv 2) ((T.xi 50 _ rfl).no _ (by decide)) rfl .nil)))
  match vs, hl with
  | [z0, z1, z2], _ =>
    obtain ⟨y1, q1, l1⟩ := hg 0 (by simp)
    cases q1
    exact ⟨_, rfl, _, rfl, l1, fun _ _ => ⟨_, rfl, hq2 _ (by simp)⟩⟩
theorem b_BadPrices (T : Txt K mg a) : Binds K (a.xfd 51) (["self", "index"] : List Str) [] := by
  obtain ⟨oc, od, osl, dV, kV, doc, pm, an, ct, e0, e, _, _⟩ := (T.xi 51 _ rfl).fn
  have e1 : dV = .none := dfI_no e0
  subst e1
  rw [e]
  exact .all fun us hl => match us, hl with | [_, _], _ => rfl
theorem ok_BadPrices (T : Txt K mg a) : FnQ PW w K mg base (L2.CX PW w) 1 (a.xf 51) (a.xfd 51) (["self", "index"] : List Str) (spIniH (gSh K [0]) (a.cs 53) (fldN 53)) := by
  obtain ⟨oc, od, osl, dV, kV, doc, pm, an, ct, e0, e, l, cd⟩ := (T.xi 51 _ rfl).fn
  rw [e] at l ⊢
  refine init_okQ l cd ((T.xi 51 _ rfl).sup (N := (["self", "index"] : List Str)) (ps := (["self", "index"] : List Str)) T.opq T.z_super rfl rfl rfl (by decide +kernel) rfl (by decide +kernel) (by decide +kernel) (fun y hy => (show ∀ p ∈ (defScope sx_BadPrices).names, p.2 = .free → p.1 = ("__class__" : Str) by decide +kernel) _ (lookup_memX hy) rfl) rfl rfl (by decide +kernel)) rfl rfl rfl (by decide) (by decide) (fun A outer s H E hq hr => ⟨_, (pa_cons pe_str (pa_cons (pe_callTy (call_strV hq (show _ + 64 < cLine from (hr.deeper _).units)) rfl T.z_str bt_str (pa_cons (pv 1) pa_nil)) pa_nil)), fun vs hl H hg Q hq2 => ?_⟩) (fun A outer s H E => (.cons (pv 0) (pv 1) ((T.xi 51 _ rfl).no _ (by decide)) rfl .nil))
  match vs, hl with
  | [z0, z1], _ =>
    obtain ⟨y1, q1, l1⟩ := hg 0 (by simp)
    cases q1
    exact ⟨_, rfl, _, rfl, l1, fun _ _ => hq2 _ (by simp)⟩
theorem sc_u_law_hand : FnScope (["_law_script", "_law_total", "_law_k", "_law_cell"] : List Str) (["_law_script"] : List Str) (defScope s_u_law_hand) := ⟨rfl, rfl, rfl, by decide +kernel, rfl, by decide +kernel, by decide +kernel⟩
theorem ok_u_law_hand (T : Txt K mg a) : FnOk PW w K mg base (L2.CX PW w) 1 a.f_u_law_hand a.d_u_law_hand (["_law_script"] : List Str) (spOf (tb w K a) 1 m_u_law_hand) :=
  fund_okl T.F_u_law_hand sc_u_law_hand fun cdv A outer s H E hr =>
    (pssm_cons (psm_set (i := 1) sc_u_law_hand.nd rfl (Or.inl rfl) pem_int)
    (pssm_cons (psm_for (passes_of rfl) rfl (pim_enumA rfl rfl T.z_enumerate (pam_cons (pem_var (pv 0)) pam_nil)) (pgm_tup rfl rfl (PGN.cons (pg_name (i := 2) sc_u_law_hand.nd rfl (Or.inl rfl)) rfl (PGN.cons (pg_name (i := 3) sc_u_law_hand.nd rfl (Or.inl rfl)) rfl PGN.nil rfl) rfl)) (pssm_one (psm_set (i := 1) sc_u_law_hand.nd rfl (Or.inl rfl) (pem_op op_mod sim_mod (pem_callTy call_int1 sim_int rfl T.z_int bt_int (pam_cons (pem_op op_addAll sim_add (pem_op op_mulAll sim_mul (pem_var (pv 1)) pem_int) (pem_op op_mulAll sim_mul (pem_callTy call_int1 sim_int rfl T.z_int bt_int (pam_cons (pem_var (pv 3)) pam_nil)) (pem_op op_addAll sim_add (pem_var (pv 2)) pem_int))) pam_nil)) pem_int))))
    (pssm_one (psm_ret (pem_lst (pam_cons (pem_scope (pem_comp (own := [("_law_cell", 3)]) rfl sc_u_law_hand.nd (pim_seq rfl (pem_var (pv 0))) (show BlkOk (["_law_script", "_law_total", "_law_k", "_law_cell"] : List Str) (defScope s_u_law_hand) _ [("_law_cell", 3)] from ⟨rfl, by decide +kernel, by decide +kernel, by decide +kernel, by decide +kernel⟩) (fun _ _ _ _ _ => (pg_name (i := 3) sc_u_law_hand.nd rfl (Or.inl rfl))) (gr_name rfl) (gw_name (by decide)) (fun _ _ _ _ _ => (ptsm_nil (σ := ()))) (fun _ _ _ _ _ => (pem_callB call_abs sim_abs rfl T.z_abs bt_abs (pam_cons (pem_callTy call_int1 sim_int rfl T.z_int bt_int (pam_cons (pem_var (pv 3)) pam_nil)) pam_nil))))) (pam_cons pem_int (pam_cons pem_int (pam_cons (pem_var (pv 1)) pam_nil)))))))))
theorem sc_u_law_mix : FnScope (["_law_number", "_law_turn", "_law_once", "_law_twice"] : List Str) (["_law_number", "_law_turn"] : List Str) (defScope s_u_law_mix) := ⟨rfl, rfl, rfl, by decide +kernel, rfl, by decide +kernel, by decide +kernel⟩
theorem ok_u_law_mix (T : Txt K mg a) : FnOk PW w K mg base (L2.CX PW w) 1 a.f_u_law_mix a.d_u_law_mix (["_law_number", "_law_turn"] : List Str) (spOf (tb w K a) 2 m_u_law_mix) :=
  fund_okm T.F_u_law_mix sc_u_law_mix fun cdv A outer s H E hr =>
    (pssm_cons (psm_set (i := 2) sc_u_law_mix.nd rfl (Or.inl rfl) (pem_op op_mod sim_mod (pem_callTy call_int1 sim_int rfl T.z_int bt_int (pam_cons (pem_op op_addAll sim_add (pem_op op_addAll sim_add (pem_op op_mulAll sim_mul (pem_var (pv 0)) pem_int) (pem_op op_mulAll sim_mul (pem_var (pv 1)) pem_int)) pem_int) pam_nil)) pem_int))
    (pssm_cons (psm_set (i := 3) sc_u_law_mix.nd rfl (Or.inl rfl) (pem_op op_mod sim_mod (pem_callTy call_int1 sim_int rfl T.z_int bt_int (pam_cons (pem_op op_addAll sim_add (pem_op op_addAll sim_add (pem_op op_mulAll sim_mul (pem_var (pv 2)) (pem_var (pv 2))) (pem_op op_mulAll sim_mul (pem_op op_fdivW sim_div (pem_var (pv 2)) pem_int) pem_int)) (pem_op op_mulAll sim_mul (pem_var (pv 1)) pem_int)) pam_nil)) pem_int))
    (pssm_one (psm_ret (pem_op op_fdivW sim_div (pem_op op_mod sim_mod (pem_callTy call_int1 sim_int rfl T.z_int bt_int (pam_cons (pem_op op_addAll sim_add (pem_op op_fdivW sim_div (pem_op op_mulAll sim_mul (pem_var (pv 3)) (pem_var (pv 3))) pem_int) (pem_var (pv 2))) pam_nil)) pem_int) pem_int)))))
theorem sc_u_law_draw : FnScope (["_law_hand_here", "_law_many", "_law_cell", "_law_rest"] : List Str) (["_law_hand_here", "_law_many"] : List Str) (defScope s_u_law_draw) := ⟨rfl, rfl, rfl, by decide +kernel, rfl, by decide +kernel, by decide +kernel⟩
theorem ok_u_law_draw (T : Txt K mg a) : FnOk PW w K mg base (L2.CX PW w) 2 a.f_u_law_draw a.d_u_law_draw (["_law_hand_here", "_law_many"] : List Str) (spOf (tb w K a) 2 m_u_law_draw) :=
  fund_okm T.F_u_law_draw sc_u_law_draw fun cdv A outer s H E hr =>
    (pssm_cons (psm_if (PWm.pt (pwm_and (ptm_cmp (op_eqD hr.units) sim_eq (pem_ix ix_seq sim_ix (pem_var (pv 0)) pem_int) pem_int (nomark _)) (pwm_and1 (ptm_cmp op_lt sim_lt (pem_ix ix_seq sim_ix (pem_var (pv 0)) pem_int) (pem_callB call_len sim_len rfl T.z_len bt_len (pam_cons (pem_ix ix_seq sim_ix (pem_var (pv 0)) pem_int) pam_nil)) (nomark _))))) (pssm_cons (psm_set (i := 2) sc_u_law_draw.nd rfl (Or.inl rfl) (pem_ix ix_seq sim_ix (pem_ix ix_seq sim_ix (pem_var (pv 0)) pem_int) (pem_ix ix_seq sim_ix (pem_var (pv 0)) pem_int)))
    (pssm_cons (psm_setIx (ps_asg (pem_op op_addAll sim_add (pem_ix ix_seq sim_ix (pem_var (pv 0)) pem_int) pem_int) (pg_sub (pem_var (pv 0)) pem_int set_list)))
    (pssm_cons (psm_if (ptm_cmp op_lt sim_lt (pem_var (pv 2)) (pem_op op_pow sim_pow pem_int pem_int) (nomark _)) (pssm_one (psm_ret (pem_op op_mod sim_mod (pem_callTy call_int1 sim_int rfl T.z_int bt_int (pam_cons (pem_call (takes_of rfl rfl rfl rfl) (ok_u_law_mix T) (hr.mono (by decide)) rfl T.m_u_law_mix T.k_u_law_mix T.b_u_law_mix .nil (fun _ => .nil) rfl (pam_cons (pem_op op_mod sim_mod (pem_callTy call_int1 sim_int rfl T.z_int bt_int (pam_cons (pem_var (pv 2)) pam_nil)) pem_int) (pam_cons (pem_ix ix_seq sim_ix (pem_var (pv 0)) pem_int) pam_nil))) pam_nil)) (pem_var (pv 1))))) pssm_nil)
    (pssm_one (psm_setIx (ps_asg (pem_var (pv 2)) (pg_sub (pem_var (pv 0)) pem_int set_list))))))) pssm_nil)
    (pssm_cons (psm_if (ptm_cmp op_gt sim_gt (pem_ix ix_seq sim_ix (pem_var (pv 0)) pem_int) pem_int (nomark _)) (pssm_cons (psm_set (i := 3) sc_u_law_draw.nd rfl (Or.inl rfl) (pem_ix ix_seq sim_ix (pem_var (pv 0)) pem_int))
    (pssm_cons (psm_setIx (ps_asg (pem_op op_fdivW sim_div (pem_var (pv 3)) (pem_var (pv 1))) (pg_sub (pem_var (pv 0)) pem_int set_list)))
    (pssm_one (psm_ret (pem_op op_mod sim_mod (pem_callTy call_int1 sim_int rfl T.z_int bt_int (pam_cons (pem_var (pv 3)) pam_nil)) (pem_var (pv 1))))))) pssm_nil)
    (pssm_cons (psm_setIx (ps_asg (pem_op op_mod sim_mod (pem_callTy call_int1 sim_int rfl T.z_int bt_int (pam_cons (pem_op op_addAll sim_add (pem_ix ix_seq sim_ix (pem_var (pv 0)) pem_int) pem_int) pam_nil)) pem_int) (pg_sub (pem_var (pv 0)) pem_int set_list)))
    (pssm_one (psm_ret (pem_op op_mod sim_mod (pem_callTy call_int1 sim_int rfl T.z_int bt_int (pam_cons (pem_call (takes_of rfl rfl rfl rfl) (ok_u_law_mix T) (hr.mono (by decide)) rfl T.m_u_law_mix T.k_u_law_mix T.b_u_law_mix .nil (fun _ => .nil) rfl (pam_cons (pem_ix ix_seq sim_ix (pem_var (pv 0)) pem_int) (pam_cons (pem_ix ix_seq sim_ix (pem_var (pv 0)) pem_int) pam_nil))) pam_nil)) (pem_var (pv 1))))))))
theorem sc_u_law_pick : FnScope (["_law_hand_here", "_law_things"] : List Str) (["_law_hand_here", "_law_things"] : List Str) (defScope s_u_law_pick) := ⟨rfl, rfl, rfl, by decide +kernel, rfl, by decide +kernel, by decide +kernel⟩
theorem ok_u_law_pick (T : Txt K mg a) : FnOk PW w K mg base (L2.CX PW w) 3 a.f_u_law_pick a.d_u_law_pick (["_law_hand_here", "_law_things"] : List Str) (spOf (tb w K a) 2 m_u_law_pick) :=
  fund_okl T.F_u_law_pick sc_u_law_pick fun cdv A outer s H E hr =>
    (pssm_one (psm_ret (pem_ix ix_seq sim_ix (pem_var (pv 1)) (pem_call (takes_of rfl rfl rfl rfl) (ok_u_law_draw T) (hr.mono (by decide)) rfl T.m_u_law_draw T.k_u_law_draw T.b_u_law_draw .nil (fun _ => .nil) rfl (pam_cons (pem_var (pv 0)) (pam_cons (pem_callB call_len sim_len rfl T.z_len bt_len (pam_cons (pem_var (pv 1)) pam_nil)) pam_nil))))))
theorem sc_u_law_thing : FnScope (["_law_hand_here", "_law_sort"] : List Str) (["_law_hand_here"] : List Str) (defScope s_u_law_thing) := ⟨rfl, rfl, rfl, by decide +kernel, rfl, by decide +kernel, by decide +kernel⟩
theorem ok_u_law_thing (T : Txt K mg a) : FnOk PW w K mg base (L2.CX PW w) 4 a.f_u_law_thing a.d_u_law_thing (["_law_hand_here"] : List Str) (spOf (tb w K a) 1 m_u_law_thing) :=
  fund_okm T.F_u_law_thing sc_u_law_thing fun cdv A outer s H E hr =>
    (pssm_cons (psm_set (i := 1) sc_u_law_thing.nd rfl (Or.inl rfl) (pem_call (takes_of rfl rfl rfl rfl) (ok_u_law_draw T) (hr.mono (by decide)) rfl T.m_u_law_draw T.k_u_law_draw T.b_u_law_draw .nil (fun _ => .nil) rfl (pam_cons (pem_var (pv 0)) (pam_cons pem_int pam_nil))))
    (pssm_cons (psm_if (ptm_cmp (op_eqD hr.units) sim_eq (pem_var (pv 1)) pem_int (nomark _)) (pssm_one (psm_ret (pem_op op_sub sim_sub (pem_call (takes_of rfl rfl rfl rfl) (ok_u_law_draw T) (hr.mono (by decide)) rfl T.m_u_law_draw T.k_u_law_draw T.b_u_law_draw .nil (fun _ => .nil) rfl (pam_cons (pem_var (pv 0)) (pam_cons (pem_op op_pow sim_pow pem_int pem_int) pam_nil))) (pem_op op_pow sim_pow pem_int pem_int)))) pssm_nil)
    (pssm_cons (psm_if (ptm_cmp (op_eqD hr.units) sim_eq (pem_var (pv 1)) pem_int (nomark _)) (pssm_one (psm_ret (pem_call (takes_of rfl rfl rfl rfl) (ok_u_law_pick T) (hr.mono (by decide)) rfl T.m_u_law_pick T.k_u_law_pick T.b_u_law_pick .nil (fun _ => .nil) rfl (pam_cons (pem_var (pv 0)) (pam_cons (pem_scope (pem_lst (pam_cons pem_str (pam_cons pem_str (pam_cons pem_str (pam_cons pem_str (pam_cons pem_str pam_nil))))))) pam_nil))))) pssm_nil)
    (pssm_one (psm_ret (pem_call (takes_of rfl rfl rfl rfl) (ok_u_law_pick T) (hr.mono (by decide)) rfl T.m_u_law_pick T.k_u_law_pick T.b_u_law_pick .nil (fun _ => .nil) rfl (pam_cons (pem_var (pv 0)) (pam_cons (pem_scope (pem_lst (pam_cons pem_non (pam_cons pem_bl (pam_cons (pem_tup pam_nil) (pam_cons (pem_tup (pam_cons pem_int (pam_cons pem_str pam_nil))) (pam_cons pem_int (pam_cons (pem_un un_neg sim_neg pem_int) (pam_cons (pem_tup (pam_cons pem_str (pam_cons (pem_tup (pam_cons pem_int (pam_cons pem_int pam_nil))) pam_nil))) pam_nil))))))))) pam_nil))))))))
theorem sc_u_law_made : FnScope (["_law_things"] : List Str) (["_law_things"] : List Str) (defScope s_u_law_made) := ⟨rfl, rfl, rfl, by decide +kernel, rfl, by decide +kernel, by decide +kernel⟩
theorem ok_u_law_made (T : Txt K mg a) : FnQ PW w K mg base (L2.CX PW w) 3 a.f_u_law_made a.d_u_law_made (["_law_things"] : List Str) (spOf (tb w K a) 1 m_u_law_made) :=
  fund_okmQ T.F_u_law_made sc_u_law_made fun cdv A outer s H E hq hr =>
    (pssm_one (psm_ret (pem_scope (pem_lst (pam_cons (pem_mkx (k := 1) rfl hq (takes_of rfl rfl rfl rfl) (T.xi 0 _ rfl).oe (T.xi 0 _ rfl).ei (T.xi 0 _ rfl).et (ok_BadRecord T) (hr.mono (by decide)) (b_BadRecord T) .nil (fun _ => .nil) rfl (T.cls 1 _ rfl) rfl (by decide) (pam_cons (pem_ix ix_seq sim_ix (pem_var (pv 0)) pem_int) (pam_cons (pem_ix ix_seq sim_ix (pem_var (pv 0)) pem_int) pam_nil))) (pam_cons (pem_mkx (k := 2) rfl hq (takes_of rfl rfl rfl rfl) (T.xi 1 _ rfl).oe (T.xi 1 _ rfl).ei (T.xi 1 _ rfl).et (ok_NoPerson T) (hr.mono (by decide)) (b_NoPerson T) .nil (fun _ => .nil) rfl (T.cls 2 _ rfl) rfl (by decide) (pam_cons (pem_ix ix_seq sim_ix (pem_var (pv 0)) pem_int) pam_nil)) (pam_cons (pem_mkx (k := 3) rfl hq (takes_of rfl rfl rfl rfl) (T.xi 2 _ rfl).oe (T.xi 2 _ rfl).ei (T.xi 2 _ rfl).et (ok_BadWay T) (hr.mono (by decide)) (b_BadWay T) .nil (fun _ => .nil) rfl (T.cls 3 _ rfl) rfl (by decide) (pam_cons (pem_ix ix_seq sim_ix (pem_var (pv 0)) pem_int) pam_nil)) (pam_cons (pem_mkx (k := 4) rfl hq (takes_of rfl rfl rfl rfl) (T.xi 3 _ rfl).oe (T.xi 3 _ rfl).ei (T.xi 3 _ rfl).et (ok_NoRow T) (hr.mono (by decide)) (b_NoRow T) .nil (fun _ => .nil) rfl (T.cls 4 _ rfl) rfl (by decide) (pam_cons (pem_ix ix_seq sim_ix (pem_var (pv 0)) pem_int) pam_nil)) (pam_cons (pem_mkx (k := 5) rfl hq (takes_of rfl rfl rfl rfl) (T.xi 4 _ rfl).oe (T.xi 4 _ rfl).ei (T.xi 4 _ rfl).et (ok_BadWidth T) (hr.mono (by decide)) (b_BadWidth T) .nil (fun _ => .nil) rfl (T.cls 5 _ rfl) rfl (by decide) (pam_cons (pem_ix ix_seq sim_ix (pem_var (pv 0)) pem_int) pam_nil)) (pam_cons (pem_mkx (k := 6) rfl hq (takes_of rfl rfl rfl rfl) (T.xi 5 _ rfl).oe (T.xi 5 _ rfl).ei (T.xi 5 _ rfl).et (ok_BadText T) (hr.mono (by decide)) (b_BadText T) .nil (fun _ => .nil) rfl (T.cls 6 _ rfl) rfl (by decide) (pam_cons (pem_ix ix_seq sim_ix (pem_var (pv 0)) pem_int) (pam_cons (pem_ix ix_seq sim_ix (pem_var (pv 0)) pem_int) pam_nil))) (pam_cons (pem_mkx (k := 7) rfl hq (takes_of rfl rfl rfl rfl) (T.xi 6 _ rfl).oe (T.xi 6 _ rfl).ei (T.xi 6 _ rfl).et (ok_BadPairs T) (hr.mono (by decide)) (b_BadPairs T) .nil (fun _ => .nil) rfl (T.cls 7 _ rfl) rfl (by decide) (pam_cons (pem_ix ix_seq sim_ix (pem_var (pv 0)) pem_int) pam_nil)) (pam_cons (pem_mkx (k := 8) rfl hq (takes_of rfl rfl rfl rfl) (T.xi 7 _ rfl).oe (T.xi 7 _ rfl).ei (T.xi 7 _ rfl).et (ok_BadCondition T) (hr.mono (by decide)) (b_BadCondition T) .nil (fun _ => .nil) rfl (T.cls 8 _ rfl) rfl (by decide) (pam_cons (pem_ix ix_seq sim_ix (pem_var (pv 0)) pem_int) pam_nil)) (pam_cons (pem_mkx (k := 9) rfl hq (takes_of rfl rfl rfl rfl) (T.xi 8 _ rfl).oe (T.xi 8 _ rfl).ei (T.xi 8 _ rfl).et (ok_BadClause T) (hr.mono (by decide)) (b_BadClause T) .nil (fun _ => .nil) rfl (T.cls 9 _ rfl) rfl (by decide) (pam_cons (pem_ix ix_seq sim_ix (pem_var (pv 0)) pem_int) (pam_cons (pem_ix ix_seq sim_ix (pem_var (pv 0)) pem_int) pam_nil))) (pam_cons (pem_mkx (k := 10) rfl hq (takes_of rfl rfl rfl rfl) (T.xi 9 _ rfl).oe (T.xi 9 _ rfl).ei (T.xi 9 _ rfl).et (ok_BadCustom T) (hr.mono (by decide)) (b_BadCustom T) .nil (fun _ => .nil) rfl (T.cls 10 _ rfl) rfl (by decide) (pam_cons (pem_ix ix_seq sim_ix (pem_var (pv 0)) pem_int) (pam_cons (pem_ix ix_seq sim_ix (pem_var (pv 0)) pem_int) (pam_cons (pem_ix ix_seq sim_ix (pem_var (pv 0)) pem_int) pam_nil)))) (pam_cons (pem_mkx (k := 11) rfl hq (takes_of rfl rfl rfl rfl) (T.xi 10 _ rfl).oe (T.xi 10 _ rfl).ei (T.xi 10 _ rfl).et (ok_BadKind T) (hr.mono (by decide)) (b_BadKind T) .nil (fun _ => .nil) rfl (T.cls 11 _ rfl) rfl (by decide) (pam_cons (pem_ix ix_seq sim_ix (pem_var (pv 0)) pem_int) pam_nil)) (pam_cons (pem_mkx (k := 12) rfl hq (takes_of rfl rfl rfl rfl) (T.xi 11 _ rfl).oe (T.xi 11 _ rfl).ei (T.xi 11 _ rfl).et (ok_TooWide T) (hr.mono (by decide)) (b_TooWide T) .nil (fun _ => .nil) rfl (T.cls 12 _ rfl) rfl (by decide) (pam_cons (pem_ix ix_seq sim_ix (pem_var (pv 0)) pem_int) pam_nil)) (pam_cons (pem_mkx (k := 13) rfl hq (takes_of rfl rfl rfl rfl) (T.xi 12 _ rfl).oe (T.xi 12 _ rfl).ei (T.xi 12 _ rfl).et (ok_BadChoice T) (hr.mono (by decide)) (b_BadChoice T) .nil (fun _ => .nil) rfl (T.cls 13 _ rfl) rfl (by decide) (pam_cons (pem_ix ix_seq sim_ix (pem_var (pv 0)) pem_int) (pam_cons (pem_ix ix_seq sim_ix (pem_var (pv 0)) pem_int) (pam_cons (pem_ix ix_seq sim_ix (pem_var (pv 0)) pem_int) pam_nil)))) (pam_cons (pem_mkx (k := 14) rfl hq (takes_of rfl rfl rfl rfl) (T.xi 13 _ rfl).oe (T.xi 13 _ rfl).ei (T.xi 13 _ rfl).et (ok_NoCouple T) (hr.mono (by decide)) (b_NoCouple T) .nil (fun _ => .nil) rfl (T.cls 14 _ rfl) rfl (by decide) (pam_cons (pem_ix ix_seq sim_ix (pem_var (pv 0)) pem_int) (pam_cons (pem_ix ix_seq sim_ix (pem_var (pv 0)) pem_int) pam_nil))) (pam_cons (pem_mkx (k := 15) rfl hq (takes_of rfl rfl rfl rfl) (T.xi 14 _ rfl).oe (T.xi 14 _ rfl).ei (T.xi 14 _ rfl).et (ok_NoPlace T) (hr.mono (by decide)) (b_NoPlace T) .nil (fun _ => .nil) rfl (T.cls 15 _ rfl) rfl (by decide) (pam_cons (pem_ix ix_seq sim_ix (pem_var (pv 0)) pem_int) pam_nil)) (pam_cons (pem_mkx (k := 16) rfl hq (takes_of rfl rfl rfl rfl) (T.xi 15 _ rfl).oe (T.xi 15 _ rfl).ei (T.xi 15 _ rfl).et (ok_NoRoot T) (hr.mono (by decide)) (b_NoRoot T) .nil (fun _ => .nil) rfl (T.cls 16 _ rfl) rfl (by decide) (pam_cons (pem_ix ix_seq sim_ix (pem_var (pv 0)) pem_int) pam_nil)) (pam_cons (pem_mkx (k := 17) rfl hq (takes_of rfl rfl rfl rfl) (T.xi 16 _ rfl).oe (T.xi 16 _ rfl).ei (T.xi 16 _ rfl).et (ok_BadOrder T) (hr.mono (by decide)) (b_BadOrder T) .nil (fun _ => .nil) rfl (T.cls 17 _ rfl) rfl (by decide) (pam_cons (pem_ix ix_seq sim_ix (pem_var (pv 0)) pem_int) (pam_cons (pem_ix ix_seq sim_ix (pem_var (pv 0)) pem_int) pam_nil))) (pam_cons (pem_mkx (k := 18) rfl hq (takes_of rfl rfl rfl rfl) (T.xi 17 _ rfl).oe (T.xi 17 _ rfl).ei (T.xi 17 _ rfl).et (ok_BadPattern T) (hr.mono (by decide)) (b_BadPattern T) .nil (fun _ => .nil) rfl (T.cls 18 _ rfl) rfl (by decide) (pam_cons (pem_ix ix_seq sim_ix (pem_var (pv 0)) pem_int) (pam_cons (pem_ix ix_seq sim_ix (pem_var (pv 0)) pem_int) pam_nil))) (pam_cons (pem_mkx (k := 19) rfl hq (takes_of rfl rfl rfl rfl) (T.xi 18 _ rfl).oe (T.xi 18 _ rfl).ei (T.xi 18 _ rfl).et (ok_BadNames T) (hr.mono (by decide)) (b_BadNames T) .nil (fun _ => .nil) rfl (T.cls 19 _ rfl) rfl (by decide) (pam_cons (pem_ix ix_seq sim_ix (pem_var (pv 0)) pem_int) (pam_cons (pem_ix ix_seq sim_ix (pem_var (pv 0)) pem_int) pam_nil))) (pam_cons (pem_mkx (k := 20) rfl hq (takes_of rfl rfl rfl rfl) (T.xi 19 _ rfl).oe (T.xi 19 _ rfl).ei (T.xi 19 _ rfl).et (ok_BadPlaces T) (hr.mono (by decide)) (b_BadPlaces T) .nil (fun _ => .nil) rfl (T.cls 20 _ rfl) rfl (by decide) (pam_cons (pem_ix ix_seq sim_ix (pem_var (pv 0)) pem_int) (pam_cons (pem_ix ix_seq sim_ix (pem_var (pv 0)) pem_int) pam_nil))) (pam_cons (pem_mkx (k := 21) rfl hq (takes_of rfl rfl rfl rfl) (T.xi 20 _ rfl).oe (T.xi 20 _ rfl).ei (T.xi 20 _ rfl).et (ok_BadClass T) (hr.mono (by decide)) (b_BadClass T) .nil (fun _ => .nil) rfl (T.cls 21 _ rfl) rfl (by decide) (pam_cons (pem_ix ix_seq sim_ix (pem_var (pv 0)) pem_int) pam_nil)) (pam_cons (pem_mkx (k := 22) rfl hq (takes_of rfl rfl rfl rfl) (T.xi 21 _ rfl).oe (T.xi 21 _ rfl).ei (T.xi 21 _ rfl).et (ok_BadMatch T) (hr.mono (by decide)) (b_BadMatch T) .nil (fun _ => .nil) rfl (T.cls 22 _ rfl) rfl (by decide) (pam_cons (pem_ix ix_seq sim_ix (pem_var (pv 0)) pem_int) pam_nil)) (pam_cons (pem_mkx (k := 23) rfl hq (takes_of rfl rfl rfl rfl) (T.xi 22 _ rfl).oe (T.xi 22 _ rfl).ei (T.xi 22 _ rfl).et (ok_BadCount T) (hr.mono (by decide)) (b_BadCount T) .nil (fun _ => .nil) rfl (T.cls 23 _ rfl) rfl (by decide) (pam_cons (pem_ix ix_seq sim_ix (pem_var (pv 0)) pem_int) pam_nil)) (pam_cons (pem_mkx (k := 24) rfl hq (takes_of rfl rfl rfl rfl) (T.xi 23 _ rfl).oe (T.xi 23 _ rfl).ei (T.xi 23 _ rfl).et (ok_BadIndex T) (hr.mono (by decide)) (b_BadIndex T) .nil (fun _ => .nil) rfl (T.cls 24 _ rfl) rfl (by decide) (pam_cons (pem_ix ix_seq sim_ix (pem_var (pv 0)) pem_int) pam_nil)) (pam_cons (pem_mkx (k := 25) rfl hq (takes_of rfl rfl rfl rfl) (T.xi 24 _ rfl).oe (T.xi 24 _ rfl).ei (T.xi 24 _ rfl).et (ok_BadJoining T) (hr.mono (by decide)) (b_BadJoining T) .nil (fun _ => .nil) rfl (T.cls 25 _ rfl) rfl (by decide) (pam_cons (pem_ix ix_seq sim_ix (pem_var (pv 0)) pem_int) (pam_cons (pem_ix ix_seq sim_ix (pem_var (pv 0)) pem_int) pam_nil))) (pam_cons (pem_mkx (k := 26) rfl hq (takes_of rfl rfl rfl rfl) (T.xi 25 _ rfl).oe (T.xi 25 _ rfl).ei (T.xi 25 _ rfl).et (ok_NoRenaming T) (hr.mono (by decide)) (b_NoRenaming T) .nil (fun _ => .nil) rfl (T.cls 26 _ rfl) rfl (by decide) (pam_cons (pem_ix ix_seq sim_ix (pem_var (pv 0)) pem_int) pam_nil)) (pam_cons (pem_mkx (k := 27) rfl hq (takes_of rfl rfl rfl rfl) (T.xi 26 _ rfl).oe (T.xi 26 _ rfl).ei (T.xi 26 _ rfl).et (ok_BadScope T) (hr.mono (by decide)) (b_BadScope T) .nil (fun _ => .nil) rfl (T.cls 27 _ rfl) rfl (by decide) (pam_cons (pem_ix ix_seq sim_ix (pem_var (pv 0)) pem_int) pam_nil)) (pam_cons (pem_mkx (k := 28) rfl hq (takes_of rfl rfl rfl rfl) (T.xi 27 _ rfl).oe (T.xi 27 _ rfl).ei (T.xi 27 _ rfl).et (ok_BadState T) (hr.mono (by decide)) (b_BadState T) .nil (fun _ => .nil) rfl (T.cls 28 _ rfl) rfl (by decide) (pam_cons (pem_ix ix_seq sim_ix (pem_var (pv 0)) pem_int) pam_nil)) (pam_cons (pem_mkx (k := 29) rfl hq (takes_of rfl rfl rfl rfl) (T.xi 28 _ rfl).oe (T.xi 28 _ rfl).ei (T.xi 28 _ rfl).et (ok_BadTable T) (hr.mono (by decide)) (b_BadTable T) .nil (fun _ => .nil) rfl (T.cls 29 _ rfl) rfl (by decide) (pam_cons (pem_ix ix_seq sim_ix (pem_var (pv 0)) pem_int) (pam_cons (pem_ix ix_seq sim_ix (pem_var (pv 0)) pem_int) pam_nil))) (pam_cons (pem_mkx (k := 30) rfl hq (takes_of rfl rfl rfl rfl) (T.xi 29 _ rfl).oe (T.xi 29 _ rfl).ei (T.xi 29 _ rfl).et (ok_BadPlay T) (hr.mono (by decide)) (b_BadPlay T) .nil (fun _ => .nil) rfl (T.cls 30 _ rfl) rfl (by decide) (pam_cons (pem_ix ix_seq sim_ix (pem_var (pv 0)) pem_int) pam_nil)) (pam_cons (pem_mkx (k := 31) rfl hq (takes_of rfl rfl rfl rfl) (T.xi 30 _ rfl).oe (T.xi 30 _ rfl).ei (T.xi 30 _ rfl).et (ok_NeverComes T) (hr.mono (by decide)) (b_NeverComes T) .nil (fun _ => .nil) rfl (T.cls 31 _ rfl) rfl (by decide) (pam_cons (pem_ix ix_seq sim_ix (pem_var (pv 0)) pem_int) pam_nil)) (pam_cons (pem_mkx (k := 32) rfl hq (takes_of rfl rfl rfl rfl) (T.xi 31 _ rfl).oe (T.xi 31 _ rfl).ei (T.xi 31 _ rfl).et (ok_NotUnwed T) (hr.mono (by decide)) (b_NotUnwed T) .nil (fun _ => .nil) rfl (T.cls 32 _ rfl) rfl (by decide) (pam_cons (pem_ix ix_seq sim_ix (pem_var (pv 0)) pem_int) pam_nil)) (pam_cons (pem_mkx (k := 33) rfl hq (takes_of rfl rfl rfl rfl) (T.xi 32 _ rfl).oe (T.xi 32 _ rfl).ei (T.xi 32 _ rfl).et (ok_BadAsked T) (hr.mono (by decide)) (b_BadAsked T) .nil (fun _ => .nil) rfl (T.cls 33 _ rfl) rfl (by decide) (pam_cons (pem_ix ix_seq sim_ix (pem_var (pv 0)) pem_int) pam_nil)) (pam_cons (pem_mkx (k := 34) rfl hq (takes_of rfl rfl rfl rfl) (T.xi 33 _ rfl).oe (T.xi 33 _ rfl).ei (T.xi 33 _ rfl).et (ok_TooLong T) (hr.mono (by decide)) (b_TooLong T) .nil (fun _ => .nil) rfl (T.cls 34 _ rfl) rfl (by decide) (pam_cons (pem_ix ix_seq sim_ix (pem_var (pv 0)) pem_int) pam_nil)) (pam_cons (pem_mkx (k := 35) rfl hq (takes_of rfl rfl rfl rfl) (T.xi 34 _ rfl).oe (T.xi 34 _ rfl).ei (T.xi 34 _ rfl).et (ok_NoWays T) (hr.mono (by decide)) (b_NoWays T) .nil (fun _ => .nil) rfl (T.cls 35 _ rfl) rfl (by decide) (pam_cons (pem_ix ix_seq sim_ix (pem_var (pv 0)) pem_int) pam_nil)) (pam_cons (pem_mkx (k := 36) rfl hq (takes_of rfl rfl rfl rfl) (T.xi 35 _ rfl).oe (T.xi 35 _ rfl).ei (T.xi 35 _ rfl).et (ok_NoState T) (hr.mono (by decide)) (b_NoState T) .nil (fun _ => .nil) rfl (T.cls 36 _ rfl) rfl (by decide) (pam_cons (pem_ix ix_seq sim_ix (pem_var (pv 0)) pem_int) pam_nil)) (pam_cons (pem_mkx (k := 37) rfl hq (takes_of rfl rfl rfl rfl) (T.xi 36 _ rfl).oe (T.xi 36 _ rfl).ei (T.xi 36 _ rfl).et (ok_BadWord T) (hr.mono (by decide)) (b_BadWord T) .nil (fun _ => .nil) rfl (T.cls 37 _ rfl) rfl (by decide) (pam_cons (pem_ix ix_seq sim_ix (pem_var (pv 0)) pem_int) pam_nil)) (pam_cons (pem_mkx (k := 38) rfl hq (takes_of rfl rfl rfl rfl) (T.xi 37 _ rfl).oe (T.xi 37 _ rfl).ei (T.xi 37 _ rfl).et (ok_BadLength T) (hr.mono (by decide)) (b_BadLength T) .nil (fun _ => .nil) rfl (T.cls 38 _ rfl) rfl (by decide) (pam_cons (pem_ix ix_seq sim_ix (pem_var (pv 0)) pem_int) pam_nil)) (pam_cons (pem_mkx (k := 39) rfl hq (takes_of rfl rfl rfl rfl) (T.xi 38 _ rfl).oe (T.xi 38 _ rfl).ei (T.xi 38 _ rfl).et (ok_BadOrigin T) (hr.mono (by decide)) (b_BadOrigin T) .nil (fun _ => .nil) rfl (T.cls 39 _ rfl) rfl (by decide) (pam_cons (pem_ix ix_seq sim_ix (pem_var (pv 0)) pem_int) pam_nil)) (pam_cons (pem_mkx (k := 40) rfl hq (takes_of rfl rfl rfl rfl) (T.xi 39 _ rfl).oe (T.xi 39 _ rfl).ei (T.xi 39 _ rfl).et (ok_NotLet T) (hr.mono (by decide)) (b_NotLet T) .nil (fun _ => .nil) rfl (T.cls 40 _ rfl) rfl (by decide) (pam_cons (pem_ix ix_seq sim_ix (pem_var (pv 0)) pem_int) (pam_cons (pem_ix ix_seq sim_ix (pem_var (pv 0)) pem_int) pam_nil))) (pam_cons (pem_mkx (k := 41) rfl hq (takes_of rfl rfl rfl rfl) (T.xi 40 _ rfl).oe (T.xi 40 _ rfl).ei (T.xi 40 _ rfl).et (ok_BadNumber T) (hr.mono (by decide)) (b_BadNumber T) .nil (fun _ => .nil) rfl (T.cls 41 _ rfl) rfl (by decide) (pam_cons (pem_ix ix_seq sim_ix (pem_var (pv 0)) pem_int) pam_nil)) (pam_cons (pem_mkx (k := 42) rfl hq (takes_of rfl rfl rfl rfl) (T.xi 41 _ rfl).oe (T.xi 41 _ rfl).ei (T.xi 41 _ rfl).et (ok_BadLine T) (hr.mono (by decide)) (b_BadLine T) .nil (fun _ => .nil) rfl (T.cls 42 _ rfl) rfl (by decide) (pam_cons (pem_ix ix_seq sim_ix (pem_var (pv 0)) pem_int) (pam_cons (pem_ix ix_seq sim_ix (pem_var (pv 0)) pem_int) pam_nil))) (pam_cons (pem_mkx (k := 43) rfl hq (takes_of rfl rfl rfl rfl) (T.xi 42 _ rfl).oe (T.xi 42 _ rfl).ei (T.xi 42 _ rfl).et (ok_BadGeneration T) (hr.mono (by decide)) (b_BadGeneration T) .nil (fun _ => .nil) rfl (T.cls 43 _ rfl) rfl (by decide) (pam_cons (pem_ix ix_seq sim_ix (pem_var (pv 0)) pem_int) pam_nil)) (pam_cons (pem_mkx0 (k := 44) PySem.F.excBase_ValueError (T.x0 44 (by decide)).1 (T.cls 44 _ rfl) (T.x0 44 (by decide)).2 rfl) (pam_cons (pem_mkx (k := 45) rfl hq (takes_of rfl rfl rfl rfl) (T.xi 43 _ rfl).oe (T.xi 43 _ rfl).ei (T.xi 43 _ rfl).et (ok_BadPair T) (hr.mono (by decide)) (b_BadPair T) .nil (fun _ => .nil) rfl (T.cls 45 _ rfl) rfl (by decide) (pam_cons (pem_ix ix_seq sim_ix (pem_var (pv 0)) pem_int) (pam_cons (pem_ix ix_seq sim_ix (pem_var (pv 0)) pem_int) pam_nil))) (pam_cons (pem_mkx (k := 46) rfl hq (takes_of rfl rfl rfl rfl) (T.xi 44 _ rfl).oe (T.xi 44 _ rfl).ei (T.xi 44 _ rfl).et (ok_BadLand T) (hr.mono (by decide)) (b_BadLand T) .nil (fun _ => .nil) rfl (T.cls 46 _ rfl) rfl (by decide) (pam_cons (pem_ix ix_seq sim_ix (pem_var (pv 0)) pem_int) pam_nil)) (pam_cons (pem_mkx (k := 47) rfl hq (takes_of rfl rfl rfl rfl) (T.xi 45 _ rfl).oe (T.xi 45 _ rfl).ei (T.xi 45 _ rfl).et (ok_BadSecond T) (hr.mono (by decide)) (b_BadSecond T) .nil (fun _ => .nil) rfl (T.cls 47 _ rfl) rfl (by decide) (pam_cons (pem_ix ix_seq sim_ix (pem_var (pv 0)) pem_int) (pam_cons (pem_ix ix_seq sim_ix (pem_var (pv 0)) pem_int) pam_nil))) (pam_cons (pem_mkx (k := 48) rfl hq (takes_of rfl rfl rfl rfl) (T.xi 46 _ rfl).oe (T.xi 46 _ rfl).ei (T.xi 46 _ rfl).et (ok_BadPage T) (hr.mono (by decide)) (b_BadPage T) .nil (fun _ => .nil) rfl (T.cls 48 _ rfl) rfl (by decide) (pam_cons (pem_ix ix_seq sim_ix (pem_var (pv 0)) pem_int) (pam_cons (pem_ix ix_seq sim_ix (pem_var (pv 0)) pem_int) pam_nil))) (pam_cons (pem_mkx (k := 49) rfl hq (takes_of rfl rfl rfl rfl) (T.xi 47 _ rfl).oe (T.xi 47 _ rfl).ei (T.xi 47 _ rfl).et (ok_BadSeen T) (hr.mono (by decide)) (b_BadSeen T) .nil (fun _ => .nil) rfl (T.cls 49 _ rfl) rfl (by decide) (pam_cons (pem_ix ix_seq sim_ix (pem_var (pv 0)) pem_int) (pam_cons (pem_ix ix_seq sim_ix (pem_var (pv 0)) pem_int) pam_nil))) (pam_cons (pem_mkx (k := 50) rfl hq (takes_of rfl rfl rfl rfl) (T.xi 48 _ rfl).oe (T.xi 48 _ rfl).ei (T.xi 48 _ rfl).et (ok_BadFilling T) (hr.mono (by decide)) (b_BadFilling T) .nil (fun _ => .nil) rfl (T.cls 50 _ rfl) rfl (by decide) (pam_cons (pem_ix ix_seq sim_ix (pem_var (pv 0)) pem_int) pam_nil)) (pam_cons (pem_mkx (k := 51) rfl hq (takes_of rfl rfl rfl rfl) (T.xi 49 _ rfl).oe (T.xi 49 _ rfl).ei (T.xi 49 _ rfl).et (ok_BadNotice T) (hr.mono (by decide)) (b_BadNotice T) .nil (fun _ => .nil) rfl (T.cls 51 _ rfl) rfl (by decide) (pam_cons (pem_ix ix_seq sim_ix (pem_var (pv 0)) pem_int) pam_nil)) (pam_cons (pem_mkx (k := 52) rfl hq (takes_of rfl rfl rfl rfl) (T.xi 50 _ rfl).oe (T.xi 50 _ rfl).ei (T.xi 50 _ rfl).et (ok_BadChange T) (hr.mono (by decide)) (b_BadChange T) .nil (fun _ => .nil) rfl (T.cls 52 _ rfl) rfl (by decide) (pam_cons (pem_ix ix_seq sim_ix (pem_var (pv 0)) pem_int) (pam_cons (pem_ix ix_seq sim_ix (pem_var (pv 0)) pem_int) pam_nil))) (pam_cons (pem_mkx (k := 53) rfl hq (takes_of rfl rfl rfl rfl) (T.xi 51 _ rfl).oe (T.xi 51 _ rfl).ei (T.xi 51 _ rfl).et (ok_BadPrices T) (hr.mono (by decide)) (b_BadPrices T) .nil (fun _ => .nil) rfl (T.cls 53 _ rfl) rfl (by decide) (pam_cons (pem_ix ix_seq sim_ix (pem_var (pv 0)) pem_int) pam_nil)) pam_nil)))))))))))))))))))))))))))))))))))))))))))))))))))))))))
theorem sc_u_law_fields : FnScope (["_law_made_here"] : List Str) (["_law_made_here"] : List Str) (defScope s_u_law_fields) := ⟨rfl, rfl, rfl, by decide +kernel, rfl, by decide +kernel, by decide +kernel⟩
theorem ok_u_law_fields (T : Txt K mg a) : FnOk PW w K mg base (L2.CX PW w) 1 a.f_u_law_fields a.d_u_law_fields (["_law_made_here"] : List Str) (spOf (tb w K a) 1 m_u_law_fields) :=
  fund_okm T.F_u_law_fields sc_u_law_fields fun cdv A outer s H E hr =>
    (pssm_one (psm_ret (pem_scope (pem_lst (pam_cons (pem_scope (pem_lst (pam_cons (pem_fldX (k := 1) (T.xi 0 _ rfl).xf rfl (show (fldN 1).Nodup by decide +kernel) ((T.xi 0 _ rfl).no _ (by decide)) (pem_ix ix_seq sim_ix (pem_var (pv 0)) pem_int)) (pam_cons (pem_fldX (k := 1) (T.xi 0 _ rfl).xf rfl (show (fldN 1).Nodup by decide +kernel) ((T.xi 0 _ rfl).no _ (by decide)) (pem_ix ix_seq sim_ix (pem_var (pv 0)) pem_int)) pam_nil)))) (pam_cons (pem_scope (pem_lst (pam_cons (pem_fldX (k := 2) (T.xi 1 _ rfl).xf rfl (show (fldN 2).Nodup by decide +kernel) ((T.xi 1 _ rfl).no _ (by decide)) (pem_ix ix_seq sim_ix (pem_var (pv 0)) pem_int)) pam_nil))) (pam_cons (pem_scope (pem_lst (pam_cons (pem_fldX (k := 3) (T.xi 2 _ rfl).xf rfl (show (fldN 3).Nodup by decide +kernel) ((T.xi 2 _ rfl).no _ (by decide)) (pem_ix ix_seq sim_ix (pem_var (pv 0)) pem_int)) pam_nil))) (pam_cons (pem_scope (pem_lst (pam_cons (pem_fldX (k := 4) (T.xi 3 _ rfl).xf rfl (show (fldN 4).Nodup by decide +kernel) ((T.xi 3 _ rfl).no _ (by decide)) (pem_ix ix_seq sim_ix (pem_var (pv 0)) pem_int)) pam_nil))) (pam_cons (pem_scope (pem_lst (pam_cons (pem_fldX (k := 5) (T.xi 4 _ rfl).xf rfl (show (fldN 5).Nodup by decide +kernel) ((T.xi 4 _ rfl).no _ (by decide)) (pem_ix ix_seq sim_ix (pem_var (pv 0)) pem_int)) pam_nil))) (pam_cons (pem_scope (pem_lst (pam_cons (pem_fldX (k := 6) (T.xi 5 _ rfl).xf rfl (show (fldN 6).Nodup by decide +kernel) ((T.xi 5 _ rfl).no _ (by decide)) (pem_ix ix_seq sim_ix (pem_var (pv 0)) pem_int)) (pam_cons (pem_fldX (k := 6) (T.xi 5 _ rfl).xf rfl (show (fldN 6).Nodup by decide +kernel) ((T.xi 5 _ rfl).no _ (by decide)) (pem_ix ix_seq sim_ix (pem_var (pv 0)) pem_int)) pam_nil)))) (pam_cons (pem_scope (pem_lst (pam_cons (pem_fldX (k := 7) (T.xi 6 _ rfl).xf rfl (show (fldN 7).Nodup by decide +kernel) ((T.xi 6 _ rfl).no _ (by decide)) (pem_ix ix_seq sim_ix (pem_var (pv 0)) pem_int)) pam_nil))) (pam_cons (pem_scope (pem_lst (pam_cons (pem_fldX (k := 8) (T.xi 7 _ rfl).xf rfl (show (fldN 8).Nodup by decide +kernel) ((T.xi 7 _ rfl).no _ (by decide)) (pem_ix ix_seq sim_ix (pem_var (pv 0)) pem_int)) pam_nil))) (pam_cons (pem_scope (pem_lst (pam_cons (pem_fldX (k := 9) (T.xi 8 _ rfl).xf rfl (show (fldN 9).Nodup by decide +kernel) ((T.xi 8 _ rfl).no _ (by decide)) (pem_ix ix_seq sim_ix (pem_var (pv 0)) pem_int)) (pam_cons (pem_fldX (k := 9) (T.xi 8 _ rfl).xf rfl (show (fldN 9).Nodup by decide +kernel) ((T.xi 8 _ rfl).no _ (by decide)) (pem_ix ix_seq sim_ix (pem_var (pv 0)) pem_int)) pam_nil)))) (pam_cons (pem_scope (pem_lst (pam_cons (pem_fldX (k := 10) (T.xi 9 _ rfl).xf rfl (show (fldN 10).Nodup by decide +kernel) ((T.xi 9 _ rfl).no _ (by decide)) (pem_ix ix_seq sim_ix (pem_var (pv 0)) pem_int)) (pam_cons (pem_fldX (k := 10) (T.xi 9 _ rfl).xf rfl (show (fldN 10).Nodup by decide +kernel) ((T.xi 9 _ rfl).no _ (by decide)) (pem_ix ix_seq sim_ix (pem_var (pv 0)) pem_int)) (pam_cons (pem_fldX (k := 10) (T.xi 9 _ rfl).xf rfl (show (fldN 10).Nodup by decide +kernel) ((T.xi 9 _ rfl).no _ (by decide)) (pem_ix ix_seq sim_ix (pem_var (pv 0)) pem_int)) pam_nil))))) (pam_cons (pem_scope (pem_lst (pam_cons (pem_fldX (k := 11) (T.xi 10 _ rfl).xf rfl (show (fldN 11).Nodup by decide +kernel) ((T.xi 10 _ rfl).no _ (by decide)) (pem_ix ix_seq sim_ix (pem_var (pv 0)) pem_int)) pam_nil))) (pam_cons (pem_scope (pem_lst (pam_cons (pem_fldX (k := 12) (T.xi 11 _ rfl).xf rfl (show (fldN 12).Nodup by decide +kernel) ((T.xi 11 _ rfl).no _ (by decide)) (pem_ix ix_seq sim_ix (pem_var (pv 0)) pem_int)) pam_nil))) (pam_cons (pem_scope (pem_lst (pam_cons (pem_fldX (k := 13) (T.xi 12 _ rfl).xf rfl (show (fldN 13).Nodup by decide +kernel) ((T.xi 12 _ rfl).no _ (by decide)) (pem_ix ix_seq sim_ix (pem_var (pv 0)) pem_int)) (pam_cons (pem_fldX (k := 13) (T.xi 12 _ rfl).xf rfl (show (fldN 13).Nodup by decide +kernel) ((T.xi 12 _ rfl).no _ (by decide)) (pem_ix ix_seq sim_ix (pem_var (pv 0)) pem_int)) (pam_cons (pem_fldX (k := 13) (T.xi 12 _ rfl).xf rfl (show (fldN 13).Nodup by decide +kernel) ((T.xi 12 _ rfl).no _ (by decide)) (pem_ix ix_seq sim_ix (pem_var (pv 0)) pem_int)) pam_nil))))) (pam_cons (pem_scope (pem_lst (pam_cons (pem_fldX (k := 14) (T.xi 13 _ rfl).xf rfl (show (fldN 14).Nodup by decide +kernel) ((T.xi 13 _ rfl).no _ (by decide)) (pem_ix ix_seq sim_ix (pem_var (pv 0)) pem_int)) (pam_cons (pem_fldX (k := 14) (T.xi 13 _ rfl).xf rfl (show (fldN 14).Nodup by decide +kernel) ((T.xi 13 _ rfl).no _ (by decide)) (pem_ix ix_seq sim_ix (pem_var (pv 0)) pem_int)) pam_nil)))) (pam_cons (pem_scope (pem_lst (pam_cons (pem_fldX (k := 15) (T.xi 14 _ rfl).xf rfl (show (fldN 15).Nodup by decide +kernel) ((T.xi 14 _ rfl).no _ (by decide)) (pem_ix ix_seq sim_ix (pem_var (pv 0)) pem_int)) pam_nil))) (pam_cons (pem_scope (pem_lst (pam_cons (pem_fldX (k := 16) (T.xi 15 _ rfl).xf rfl (show (fldN 16).Nodup by decide +kernel) ((T.xi 15 _ rfl).no _ (by decide)) (pem_ix ix_seq sim_ix (pem_var (pv 0)) pem_int)) pam_nil))) (pam_cons (pem_scope (pem_lst (pam_cons (pem_fldX (k := 17) (T.xi 16 _ rfl).xf rfl (show (fldN 17).Nodup by decide +kernel) ((T.xi 16 _ rfl).no _ (by decide)) (pem_ix ix_seq sim_ix (pem_var (pv 0)) pem_int)) (pam_cons (pem_fldX (k := 17) (T.xi 16 _ rfl).xf rfl (show (fldN 17).Nodup by decide +kernel) ((T.xi 16 _ rfl).no _ (by decide)) (pem_ix ix_seq sim_ix (pem_var (pv 0)) pem_int)) pam_nil)))) (pam_cons (pem_scope (pem_lst (pam_cons (pem_fldX (k := 18) (T.xi 17 _ rfl).xf rfl (show (fldN 18).Nodup by decide +kernel) ((T.xi 17 _ rfl).no _ (by decide)) (pem_ix ix_seq sim_ix (pem_var (pv 0)) pem_int)) (pam_cons (pem_fldX (k := 18) (T.xi 17 _ rfl).xf rfl (show (fldN 18).Nodup by decide +kernel) ((T.xi 17 _ rfl).no _ (by decide)) (pem_ix ix_seq sim_ix (pem_var (pv 0)) pem_int)) pam_nil)))) (pam_cons (pem_scope (pem_lst (pam_cons (pem_fldX (k := 19) (T.xi 18 _ rfl).xf rfl (show (fldN 19).Nodup by decide +kernel) ((T.xi 18 _ rfl).no _ (by decide)) (pem_ix ix_seq sim_ix (pem_var (pv 0)) pem_int)) (pam_cons (pem_fldX (k := 19) (T.xi 18 _ rfl).xf rfl (show (fldN 19).Nodup by decide +kernel) ((T.xi 18 _ rfl).no _ (by decide)) (pem_ix ix_seq sim_ix (pem_var (pv 0)) pem_int)) pam_nil)))) (pam_cons (pem_scope (pem_lst (pam_cons (pem_fldX (k := 20) (T.xi 19 _ rfl).xf rfl (show (fldN 20).Nodup by decide +kernel) ((T.xi 19 _ rfl).no _ (by decide)) (pem_ix ix_seq sim_ix (pem_var (pv 0)) pem_int)) (pam_cons (pem_fldX (k := 20) (T.xi 19 _ rfl).xf rfl (show (fldN 20).Nodup by decide +kernel) ((T.xi 19 _ rfl).no _ (by decide)) (pem_ix ix_seq sim_ix (pem_var (pv 0)) pem_int)) pam_nil)))) (pam_cons (pem_scope (pem_lst (pam_cons (pem_fldX (k := 21) (T.xi 20 _ rfl).xf rfl (show (fldN 21).Nodup by decide +kernel) ((T.xi 20 _ rfl).no _ (by decide)) (pem_ix ix_seq sim_ix (pem_var (pv 0)) pem_int)) pam_nil))) (pam_cons (pem_scope (pem_lst (pam_cons (pem_fldX (k := 22) (T.xi 21 _ rfl).xf rfl (show (fldN 22).Nodup by decide +kernel) ((T.xi 21 _ rfl).no _ (by decide)) (pem_ix ix_seq sim_ix (pem_var (pv 0)) pem_int)) pam_nil))) (pam_cons (pem_scope (pem_lst (pam_cons (pem_fldX (k := 23) (T.xi 22 _ rfl).xf rfl (show (fldN 23).Nodup by decide +kernel) ((T.xi 22 _ rfl).no _ (by decide)) (pem_ix ix_seq sim_ix (pem_var (pv 0)) pem_int)) pam_nil))) (pam_cons (pem_scope (pem_lst (pam_cons (pem_fldX (k := 24) (T.xi 23 _ rfl).xf rfl (show (fldN 24).Nodup by decide +kernel) ((T.xi 23 _ rfl).no _ (by decide)) (pem_ix ix_seq sim_ix (pem_var (pv 0)) pem_int)) pam_nil))) (pam_cons (pem_scope (pem_lst (pam_cons (pem_fldX (k := 25) (T.xi 24 _ rfl).xf rfl (show (fldN 25).Nodup by decide +kernel) ((T.xi 24 _ rfl).no _ (by decide)) (pem_ix ix_seq sim_ix (pem_var (pv 0)) pem_int)) (pam_cons (pem_fldX (k := 25) (T.xi 24 _ rfl).xf rfl (show (fldN 25).Nodup by decide +kernel) ((T.xi 24 _ rfl).no _ (by decide)) (pem_ix ix_seq sim_ix (pem_var (pv 0)) pem_int)) pam_nil)))) (pam_cons (pem_scope (pem_lst (pam_cons (pem_fldX (k := 26) (T.xi 25 _ rfl).xf rfl (show (fldN 26).Nodup by decide +kernel) ((T.xi 25 _ rfl).no _ (by decide)) (pem_ix ix_seq sim_ix (pem_var (pv 0)) pem_int)) pam_nil))) (pam_cons (pem_scope (pem_lst (pam_cons (pem_fldX (k := 27) (T.xi 26 _ rfl).xf rfl (show (fldN 27).Nodup by decide +kernel) ((T.xi 26 _ rfl).no _ (by decide)) (pem_ix ix_seq sim_ix (pem_var (pv 0)) pem_int)) pam_nil))) (pam_cons (pem_scope (pem_lst (pam_cons (pem_fldX (k := 28) (T.xi 27 _ rfl).xf rfl (show (fldN 28).Nodup by decide +kernel) ((T.xi 27 _ rfl).no _ (by decide)) (pem_ix ix_seq sim_ix (pem_var (pv 0)) pem_int)) pam_nil))) (pam_cons (pem_scope (pem_lst (pam_cons (pem_fldX (k := 29) (T.xi 28 _ rfl).xf rfl (show (fldN 29).Nodup by decide +kernel) ((T.xi 28 _ rfl).no _ (by decide)) (pem_ix ix_seq sim_ix (pem_var (pv 0)) pem_int)) (pam_cons (pem_fldX (k := 29) (T.xi 28 _ rfl).xf rfl (show (fldN 29).Nodup by decide +kernel) ((T.xi 28 _ rfl).no _ (by decide)) (pem_ix ix_seq sim_ix (pem_var (pv 0)) pem_int)) pam_nil)))) (pam_cons (pem_scope (pem_lst (pam_cons (pem_fldX (k := 30) (T.xi 29 _ rfl).xf rfl (show (fldN 30).Nodup by decide +kernel) ((T.xi 29 _ rfl).no _ (by decide)) (pem_ix ix_seq sim_ix (pem_var (pv 0)) pem_int)) pam_nil))) (pam_cons (pem_scope (pem_lst (pam_cons (pem_fldX (k := 31) (T.xi 30 _ rfl).xf rfl (show (fldN 31).Nodup by decide +kernel) ((T.xi 30 _ rfl).no _ (by decide)) (pem_ix ix_seq sim_ix (pem_var (pv 0)) pem_int)) pam_nil))) (pam_cons (pem_scope (pem_lst (pam_cons (pem_fldX (k := 32) (T.xi 31 _ rfl).xf rfl (show (fldN 32).Nodup by decide +kernel) ((T.xi 31 _ rfl).no _ (by decide)) (pem_ix ix_seq sim_ix (pem_var (pv 0)) pem_int)) pam_nil))) (pam_cons (pem_scope (pem_lst (pam_cons (pem_fldX (k := 33) (T.xi 32 _ rfl).xf rfl (show (fldN 33).Nodup by decide +kernel) ((T.xi 32 _ rfl).no _ (by decide)) (pem_ix ix_seq sim_ix (pem_var (pv 0)) pem_int)) pam_nil))) (pam_cons (pem_scope (pem_lst (pam_cons (pem_fldX (k := 34) (T.xi 33 _ rfl).xf rfl (show (fldN 34).Nodup by decide +kernel) ((T.xi 33 _ rfl).no _ (by decide)) (pem_ix ix_seq sim_ix (pem_var (pv 0)) pem_int)) pam_nil))) (pam_cons (pem_scope (pem_lst (pam_cons (pem_fldX (k := 35) (T.xi 34 _ rfl).xf rfl (show (fldN 35).Nodup by decide +kernel) ((T.xi 34 _ rfl).no _ (by decide)) (pem_ix ix_seq sim_ix (pem_var (pv 0)) pem_int)) pam_nil))) (pam_cons (pem_scope (pem_lst (pam_cons (pem_fldX (k := 36) (T.xi 35 _ rfl).xf rfl (show (fldN 36).Nodup by decide +kernel) ((T.xi 35 _ rfl).no _ (by decide)) (pem_ix ix_seq sim_ix (pem_var (pv 0)) pem_int)) pam_nil))) (pam_cons (pem_scope (pem_lst (pam_cons (pem_fldX (k := 37) (T.xi 36 _ rfl).xf rfl (show (fldN 37).Nodup by decide +kernel) ((T.xi 36 _ rfl).no _ (by decide)) (pem_ix ix_seq sim_ix (pem_var (pv 0)) pem_int)) pam_nil))) (pam_cons (pem_scope (pem_lst (pam_cons (pem_fldX (k := 38) (T.xi 37 _ rfl).xf rfl (show (fldN 38).Nodup by decide +kernel) ((T.xi 37 _ rfl).no _ (by decide)) (pem_ix ix_seq sim_ix (pem_var (pv 0)) pem_int)) pam_nil))) (pam_cons (pem_scope (pem_lst (pam_cons (pem_fldX (k := 39) (T.xi 38 _ rfl).xf rfl (show (fldN 39).Nodup by decide +kernel) ((T.xi 38 _ rfl).no _ (by decide)) (pem_ix ix_seq sim_ix (pem_var (pv 0)) pem_int)) pam_nil))) (pam_cons (pem_scope (pem_lst (pam_cons (pem_fldX (k := 40) (T.xi 39 _ rfl).xf rfl (show (fldN 40).Nodup by decide +kernel) ((T.xi 39 _ rfl).no _ (by decide)) (pem_ix ix_seq sim_ix (pem_var (pv 0)) pem_int)) (pam_cons (pem_fldX (k := 40) (T.xi 39 _ rfl).xf rfl (show (fldN 40).Nodup by decide +kernel) ((T.xi 39 _ rfl).no _ (by decide)) (pem_ix ix_seq sim_ix (pem_var (pv 0)) pem_int)) pam_nil)))) (pam_cons (pem_scope (pem_lst (pam_cons (pem_fldX (k := 41) (T.xi 40 _ rfl).xf rfl (show (fldN 41).Nodup by decide +kernel) ((T.xi 40 _ rfl).no _ (by decide)) (pem_ix ix_seq sim_ix (pem_var (pv 0)) pem_int)) pam_nil))) (pam_cons (pem_scope (pem_lst (pam_cons (pem_fldX (k := 42) (T.xi 41 _ rfl).xf rfl (show (fldN 42).Nodup by decide +kernel) ((T.xi 41 _ rfl).no _ (by decide)) (pem_ix ix_seq sim_ix (pem_var (pv 0)) pem_int)) (pam_cons (pem_fldX (k := 42) (T.xi 41 _ rfl).xf rfl (show (fldN 42).Nodup by decide +kernel) ((T.xi 41 _ rfl).no _ (by decide)) (pem_ix ix_seq sim_ix (pem_var (pv 0)) pem_int)) pam_nil)))) (pam_cons (pem_scope (pem_lst (pam_cons (pem_fldX (k := 43) (T.xi 42 _ rfl).xf rfl (show (fldN 43).Nodup by decide +kernel) ((T.xi 42 _ rfl).no _ (by decide)) (pem_ix ix_seq sim_ix (pem_var (pv 0)) pem_int)) pam_nil))) (pam_cons (pem_scope (pem_lst pam_nil)) (pam_cons (pem_scope (pem_lst (pam_cons (pem_fldX (k := 45) (T.xi 43 _ rfl).xf rfl (show (fldN 45).Nodup by decide +kernel) ((T.xi 43 _ rfl).no _ (by decide)) (pem_ix ix_seq sim_ix (pem_var (pv 0)) pem_int)) (pam_cons (pem_fldX (k := 45) (T.xi 43 _ rfl).xf rfl (show (fldN 45).Nodup by decide +kernel) ((T.xi 43 _ rfl).no _ (by decide)) (pem_ix ix_seq sim_ix (pem_var (pv 0)) pem_int)) pam_nil)))) (pam_cons (pem_scope (pem_lst (pam_cons (pem_fldX (k := 46) (T.xi 44 _ rfl).xf rfl (show (fldN 46).Nodup by decide +kernel) ((T.xi 44 _ rfl).no _ (by decide)) (pem_ix ix_seq sim_ix (pem_var (pv 0)) pem_int)) pam_nil))) (pam_cons (pem_scope (pem_lst (pam_cons (pem_fldX (k := 47) (T.xi 45 _ rfl).xf rfl (show (fldN 47).Nodup by decide +kernel) ((T.xi 45 _ rfl).no _ (by decide)) (pem_ix ix_seq sim_ix (pem_var (pv 0)) pem_int)) (pam_cons (pem_fldX (k := 47) (T.xi 45 _ rfl).xf rfl (show (fldN 47).Nodup by decide +kernel) ((T.xi 45 _ rfl).no _ (by decide)) (pem_ix ix_seq sim_ix (pem_var (pv 0)) pem_int)) pam_nil)))) (pam_cons (pem_scope (pem_lst (pam_cons (pem_fldX (k := 48) (T.xi 46 _ rfl).xf rfl (show (fldN 48).Nodup by decide +kernel) ((T.xi 46 _ rfl).no _ (by decide)) (pem_ix ix_seq sim_ix (pem_var (pv 0)) pem_int)) (pam_cons (pem_fldX (k := 48) (T.xi 46 _ rfl).xf rfl (show (fldN 48).Nodup by decide +kernel) ((T.xi 46 _ rfl).no _ (by decide)) (pem_ix ix_seq sim_ix (pem_var (pv 0)) pem_int)) pam_nil)))) (pam_cons (pem_scope (pem_lst (pam_cons (pem_fldX (k := 49) (T.xi 47 _ rfl).xf rfl (show (fldN 49).Nodup by decide +kernel) ((T.xi 47 _ rfl).no _ (by decide)) (pem_ix ix_seq sim_ix (pem_var (pv 0)) pem_int)) (pam_cons (pem_fldX (k := 49) (T.xi 47 _ rfl).xf rfl (show (fldN 49).Nodup by decide +kernel) ((T.xi 47 _ rfl).no _ (by decide)) (pem_ix ix_seq sim_ix (pem_var (pv 0)) pem_int)) pam_nil)))) (pam_cons (pem_scope (pem_lst (pam_cons (pem_fldX (k := 50) (T.xi 48 _ rfl).xf rfl (show (fldN 50).Nodup by decide +kernel) ((T.xi 48 _ rfl).no _ (by decide)) (pem_ix ix_seq sim_ix (pem_var (pv 0)) pem_int)) pam_nil))) (pam_cons (pem_scope (pem_lst (pam_cons (pem_fldX (k := 51) (T.xi 49 _ rfl).xf rfl (show (fldN 51).Nodup by decide +kernel) ((T.xi 49 _ rfl).no _ (by decide)) (pem_ix ix_seq sim_ix (pem_var (pv 0)) pem_int)) pam_nil))) (pam_cons (pem_scope (pem_lst (pam_cons (pem_fldX (k := 52) (T.xi 50 _ rfl).xf rfl (show (fldN 52).Nodup by decide +kernel) ((T.xi 50 _ rfl).no _ (by decide)) (pem_ix ix_seq sim_ix (pem_var (pv 0)) pem_int)) (pam_cons (pem_fldX (k := 52) (T.xi 50 _ rfl).xf rfl (show (fldN 52).Nodup by decide +kernel) ((T.xi 50 _ rfl).no _ (by decide)) (pem_ix ix_seq sim_ix (pem_var (pv 0)) pem_int)) pam_nil)))) (pam_cons (pem_scope (pem_lst (pam_cons (pem_fldX (k := 53) (T.xi 51 _ rfl).xf rfl (show (fldN 53).Nodup by decide +kernel) ((T.xi 51 _ rfl).no _ (by decide)) (pem_ix ix_seq sim_ix (pem_var (pv 0)) pem_int)) pam_nil))) pam_nil)))))))))))))))))))))))))))))))))))))))))))))))))))))))))
theorem sc_u_law_kinds : FnScope (["_law_error"] : List Str) (["_law_error"] : List Str) (defScope s_u_law_kinds) := ⟨rfl, rfl, rfl, by decide +kernel, rfl, by decide +kernel, by decide +kernel⟩
theorem ok_u_law_kinds (T : Txt K mg a) : FnOk PW w K mg base (L2.CX PW w) 1 a.f_u_law_kinds a.d_u_law_kinds (["_law_error"] : List Str) (spOf (tb w K a) 1 m_u_law_kinds) :=
  fund_okm T.F_u_law_kinds sc_u_law_kinds fun cdv A outer s H E hr =>
    (pssm_one (psm_ret (pem_scope (pem_lst (pam_cons (pem_isX (cx := V.ref (a.cs 1)) (cv := Value.ref (a.cs 1)) rfl (T.isx 1 (by decide)) (fun _ r => r) (pem_var (pv 0)) (pe_glob rfl (T.cls 1 _ rfl) rfl) rfl T.z_isinstance) (pam_cons (pem_isX (cx := V.ref (a.cs 2)) (cv := Value.ref (a.cs 2)) rfl (T.isx 2 (by decide)) (fun _ r => r) (pem_var (pv 0)) (pe_glob rfl (T.cls 2 _ rfl) rfl) rfl T.z_isinstance) (pam_cons (pem_isX (cx := V.ref (a.cs 3)) (cv := Value.ref (a.cs 3)) rfl (T.isx 3 (by decide)) (fun _ r => r) (pem_var (pv 0)) (pe_glob rfl (T.cls 3 _ rfl) rfl) rfl T.z_isinstance) (pam_cons (pem_isX (cx := V.ref (a.cs 4)) (cv := Value.ref (a.cs 4)) rfl (T.isx 4 (by decide)) (fun _ r => r) (pem_var (pv 0)) (pe_glob rfl (T.cls 4 _ rfl) rfl) rfl T.z_isinstance) (pam_cons (pem_isX (cx := V.ref (a.cs 5)) (cv := Value.ref (a.cs 5)) rfl (T.isx 5 (by decide)) (fun _ r => r) (pem_var (pv 0)) (pe_glob rfl (T.cls 5 _ rfl) rfl) rfl T.z_isinstance) (pam_cons (pem_isX (cx := V.ref (a.cs 6)) (cv := Value.ref (a.cs 6)) rfl (T.isx 6 (by decide)) (fun _ r => r) (pem_var (pv 0)) (pe_glob rfl (T.cls 6 _ rfl) rfl) rfl T.z_isinstance) (pam_cons (pem_isX (cx := V.ref (a.cs 7)) (cv := Value.ref (a.cs 7)) rfl (T.isx 7 (by decide)) (fun _ r => r) (pem_var (pv 0)) (pe_glob rfl (T.cls 7 _ rfl) rfl) rfl T.z_isinstance) (pam_cons (pem_isX (cx := V.ref (a.cs 8)) (cv := Value.ref (a.cs 8)) rfl (T.isx 8 (by decide)) (fun _ r => r) (pem_var (pv 0)) (pe_glob rfl (T.cls 8 _ rfl) rfl) rfl T.z_isinstance) (pam_cons (pem_isX (cx := V.ref (a.cs 9)) (cv := Value.ref (a.cs 9)) rfl (T.isx 9 (by decide)) (fun _ r => r) (pem_var (pv 0)) (pe_glob rfl (T.cls 9 _ rfl) rfl) rfl T.z_isinstance) (pam_cons (pem_isX (cx := V.ref (a.cs 10)) (cv := Value.ref (a.cs 10)) rfl (T.isx 10 (by decide)) (fun _ r => r) (pem_var (pv 0)) (pe_glob rfl (T.cls 10 _ rfl) rfl) rfl T.z_isinstance) (pam_cons (pem_isX (cx := V.ref (a.cs 11)) (cv := Value.ref (a.cs 11)) rfl (T.isx 11 (by decide)) (fun _ r => r) (pem_var (pv 0)) (pe_glob rfl (T.cls 11 _ rfl) rfl) rfl T.z_isinstance) (pam_cons (pem_isX (cx := V.ref (a.cs 12)) (cv := Value.ref (a.cs 12)) rfl (T.isx 12 (by decide)) (fun _ r => r) (pem_var (pv 0)) (pe_glob rfl (T.cls 12 _ rfl) rfl) rfl T.z_isinstance) (pam_cons (pem_isX (cx := V.ref (a.cs 13)) (cv := Value.ref (a.cs 13)) rfl (T.isx 13 (by decide)) (fun _ r => r) (pem_var (pv 0)) (pe_glob rfl (T.cls 13 _ rfl) rfl) rfl T.z_isinstance) (pam_cons (pem_isX (cx := V.ref (a.cs 14)) (cv := Value.ref (a.cs 14)) rfl (T.isx 14 (by decide)) (fun _ r => r) (pem_var (pv 0)) (pe_glob rfl (T.cls 14 _ rfl) rfl) rfl T.z_isinstance) (pam_cons (pem_isX (cx := V.ref (a.cs 15)) (cv := Value.ref (a.cs 15)) rfl (T.isx 15 (by decide)) (fun _ r => r) (pem_var (pv 0)) (pe_glob rfl (T.cls 15 _ rfl) rfl) rfl T.z_isinstance) (pam_cons (pem_isX (cx := V.ref (a.cs 16)) (cv := Value.ref (a.cs 16)) rfl (T.isx 16 (by decide)) (fun _ r => r) (pem_var (pv 0)) (pe_glob rfl (T.cls 16 _ rfl) rfl) rfl T.z_isinstance) (pam_cons (pem_isX (cx := V.ref (a.cs 17)) (cv := Value.ref (a.cs 17)) rfl (T.isx 17 (by decide)) (fun _ r => r) (pem_var (pv 0)) (pe_glob rfl (T.cls 17 _ rfl) rfl) rfl T.z_isinstance) (pam_cons (pem_isX (cx := V.ref (a.cs 18)) (cv := Value.ref (a.cs 18)) rfl (T.isx 18 (by decide)) (fun _ r => r) (pem_var (pv 0)) (pe_glob rfl (T.cls 18 _ rfl) rfl) rfl T.z_isinstance) (pam_cons (pem_isX (cx := V.ref (a.cs 19)) (cv := Value.ref (a.cs 19)) rfl (T.isx 19 (by decide)) (fun _ r => r) (pem_var (pv 0)) (pe_glob rfl (T.cls 19 _ rfl) rfl) rfl T.z_isinstance) (pam_cons (pem_isX (cx := V.ref (a.cs 20)) (cv := Value.ref (a.cs 20)) rfl (T.isx 20 (by decide)) (fun _ r => r) (pem_var (pv 0)) (pe_glob rfl (T.cls 20 _ rfl) rfl) rfl T.z_isinstance) (pam_cons (pem_isX (cx := V.ref (a.cs 21)) (cv := Value.ref (a.cs 21)) rfl (T.isx 21 (by decide)) (fun _ r => r) (pem_var (pv 0)) (pe_glob rfl (T.cls 21 _ rfl) rfl) rfl T.z_isinstance) (pam_cons (pem_isX (cx := V.ref (a.cs 22)) (cv := Value.ref (a.cs 22)) rfl (T.isx 22 (by decide)) (fun _ r => r) (pem_var (pv 0)) (pe_glob rfl (T.cls 22 _ rfl) rfl) rfl T.z_isinstance) (pam_cons (pem_isX (cx := V.ref (a.cs 23)) (cv := Value.ref (a.cs 23)) rfl (T.isx 23 (by decide)) (fun _ r => r) (pem_var (pv 0)) (pe_glob rfl (T.cls 23 _ rfl) rfl) rfl T.z_isinstance) (pam_cons (pem_isX (cx := V.ref (a.cs 24)) (cv := Value.ref (a.cs 24)) rfl (T.isx 24 (by decide)) (fun _ r => r) (pem_var (pv 0)) (pe_glob rfl (T.cls 24 _ rfl) rfl) rfl T.z_isinstance) (pam_cons (pem_isX (cx := V.ref (a.cs 25)) (cv := Value.ref (a.cs 25)) rfl (T.isx 25 (by decide)) (fun _ r => r) (pem_var (pv 0)) (pe_glob rfl (T.cls 25 _ rfl) rfl) rfl T.z_isinstance) (pam_cons (pem_isX (cx := V.ref (a.cs 26)) (cv := Value.ref (a.cs 26)) rfl (T.isx 26 (by decide)) (fun _ r => r) (pem_var (pv 0)) (pe_glob rfl (T.cls 26 _ rfl) rfl) rfl T.z_isinstance) (pam_cons (pem_isX (cx := V.ref (a.cs 27)) (cv := Value.ref (a.cs 27)) rfl (T.isx 27 (by decide)) (fun _ r => r) (pem_var (pv 0)) (pe_glob rfl (T.cls 27 _ rfl) rfl) rfl T.z_isinstance) (pam_cons (pem_isX (cx := V.ref (a.cs 28)) (cv := Value.ref (a.cs 28)) rfl (T.isx 28 (by decide)) (fun _ r => r) (pem_var (pv 0)) (pe_glob rfl (T.cls 28 _ rfl) rfl) rfl T.z_isinstance) (pam_cons (pem_isX (cx := V.ref (a.cs 29)) (cv := Value.ref (a.cs 29)) rfl (T.isx 29 (by decide)) (fun _ r => r) (pem_var (pv 0)) (pe_glob rfl (T.cls 29 _ rfl) rfl) rfl T.z_isinstance) (pam_cons (pem_isX (cx := V.ref (a.cs 30)) (cv := Value.ref (a.cs 30)) rfl (T.isx 30 (by decide)) (fun _ r => r) (pem_var (pv 0)) (pe_glob rfl (T.cls 30 _ rfl) rfl) rfl T.z_isinstance) (pam_cons (pem_isX (cx := V.ref (a.cs 31)) (cv := Value.ref (a.cs 31)) rfl (T.isx 31 (by decide)) (fun _ r => r) (pem_var (pv 0)) (pe_glob rfl (T.cls 31 _ rfl) rfl) rfl T.z_isinstance) (pam_cons (pem_isX (cx := V.ref (a.cs 32)) (cv := Value.ref (a.cs 32)) rfl (T.isx 32 (by decide)) (fun _ r => r) (pem_var (pv 0)) (pe_glob rfl (T.cls 32 _ rfl) rfl) rfl T.z_isinstance) (pam_cons (pem_isX (cx := V.ref (a.cs 33)) (cv := Value.ref (a.cs 33)) rfl (T.isx 33 (by decide)) (fun _ r => r) (pem_var (pv 0)) (pe_glob rfl (T.cls 33 _ rfl) rfl) rfl T.z_isinstance) (pam_cons (pem_isX (cx := V.ref (a.cs 34)) (cv := Value.ref (a.cs 34)) rfl (T.isx 34 (by decide)) (fun _ r => r) (pem_var (pv 0)) (pe_glob rfl (T.cls 34 _ rfl) rfl) rfl T.z_isinstance) (pam_cons (pem_isX (cx := V.ref (a.cs 35)) (cv := Value.ref (a.cs 35)) rfl (T.isx 35 (by decide)) (fun _ r => r) (pem_var (pv 0)) (pe_glob rfl (T.cls 35 _ rfl) rfl) rfl T.z_isinstance) (pam_cons (pem_isX (cx := V.ref (a.cs 36)) (cv := Value.ref (a.cs 36)) rfl (T.isx 36 (by decide)) (fun _ r => r) (pem_var (pv 0)) (pe_glob rfl (T.cls 36 _ rfl) rfl) rfl T.z_isinstance) (pam_cons (pem_isX (cx := V.ref (a.cs 37)) (cv := Value.ref (a.cs 37)) rfl (T.isx 37 (by decide)) (fun _ r => r) (pem_var (pv 0)) (pe_glob rfl (T.cls 37 _ rfl) rfl) rfl T.z_isinstance) (pam_cons (pem_isX (cx := V.ref (a.cs 38)) (cv := Value.ref (a.cs 38)) rfl (T.isx 38 (by decide)) (fun _ r => r) (pem_var (pv 0)) (pe_glob rfl (T.cls 38 _ rfl) rfl) rfl T.z_isinstance) (pam_cons (pem_isX (cx := V.ref (a.cs 39)) (cv := Value.ref (a.cs 39)) rfl (T.isx 39 (by decide)) (fun _ r => r) (pem_var (pv 0)) (pe_glob rfl (T.cls 39 _ rfl) rfl) rfl T.z_isinstance) (pam_cons (pem_isX (cx := V.ref (a.cs 40)) (cv := Value.ref (a.cs 40)) rfl (T.isx 40 (by decide)) (fun _ r => r) (pem_var (pv 0)) (pe_glob rfl (T.cls 40 _ rfl) rfl) rfl T.z_isinstance) (pam_cons (pem_isX (cx := V.ref (a.cs 41)) (cv := Value.ref (a.cs 41)) rfl (T.isx 41 (by decide)) (fun _ r => r) (pem_var (pv 0)) (pe_glob rfl (T.cls 41 _ rfl) rfl) rfl T.z_isinstance) (pam_cons (pem_isX (cx := V.ref (a.cs 42)) (cv := Value.ref (a.cs 42)) rfl (T.isx 42 (by decide)) (fun _ r => r) (pem_var (pv 0)) (pe_glob rfl (T.cls 42 _ rfl) rfl) rfl T.z_isinstance) (pam_cons (pem_isX (cx := V.ref (a.cs 43)) (cv := Value.ref (a.cs 43)) rfl (T.isx 43 (by decide)) (fun _ r => r) (pem_var (pv 0)) (pe_glob rfl (T.cls 43 _ rfl) rfl) rfl T.z_isinstance) (pam_cons (pem_isX (cx := V.ref (a.cs 44)) (cv := Value.ref (a.cs 44)) rfl (T.isx 44 (by decide)) (fun _ r => r) (pem_var (pv 0)) (pe_glob rfl (T.cls 44 _ rfl) rfl) rfl T.z_isinstance) (pam_cons (pem_isX (cx := V.ref (a.cs 45)) (cv := Value.ref (a.cs 45)) rfl (T.isx 45 (by decide)) (fun _ r => r) (pem_var (pv 0)) (pe_glob rfl (T.cls 45 _ rfl) rfl) rfl T.z_isinstance) (pam_cons (pem_isX (cx := V.ref (a.cs 46)) (cv := Value.ref (a.cs 46)) rfl (T.isx 46 (by decide)) (fun _ r => r) (pem_var (pv 0)) (pe_glob rfl (T.cls 46 _ rfl) rfl) rfl T.z_isinstance) (pam_cons (pem_isX (cx := V.ref (a.cs 47)) (cv := Value.ref (a.cs 47)) rfl (T.isx 47 (by decide)) (fun _ r => r) (pem_var (pv 0)) (pe_glob rfl (T.cls 47 _ rfl) rfl) rfl T.z_isinstance) (pam_cons (pem_isX (cx := V.ref (a.cs 48)) (cv := Value.ref (a.cs 48)) rfl (T.isx 48 (by decide)) (fun _ r => r) (pem_var (pv 0)) (pe_glob rfl (T.cls 48 _ rfl) rfl) rfl T.z_isinstance) (pam_cons (pem_isX (cx := V.ref (a.cs 49)) (cv := Value.ref (a.cs 49)) rfl (T.isx 49 (by decide)) (fun _ r => r) (pem_var (pv 0)) (pe_glob rfl (T.cls 49 _ rfl) rfl) rfl T.z_isinstance) (pam_cons (pem_isX (cx := V.ref (a.cs 50)) (cv := Value.ref (a.cs 50)) rfl (T.isx 50 (by decide)) (fun _ r => r) (pem_var (pv 0)) (pe_glob rfl (T.cls 50 _ rfl) rfl) rfl T.z_isinstance) (pam_cons (pem_isX (cx := V.ref (a.cs 51)) (cv := Value.ref (a.cs 51)) rfl (T.isx 51 (by decide)) (fun _ r => r) (pem_var (pv 0)) (pe_glob rfl (T.cls 51 _ rfl) rfl) rfl T.z_isinstance) (pam_cons (pem_isX (cx := V.ref (a.cs 52)) (cv := Value.ref (a.cs 52)) rfl (T.isx 52 (by decide)) (fun _ r => r) (pem_var (pv 0)) (pe_glob rfl (T.cls 52 _ rfl) rfl) rfl T.z_isinstance) (pam_cons (pem_isX (cx := V.ref (a.cs 53)) (cv := Value.ref (a.cs 53)) rfl (T.isx 53 (by decide)) (fun _ r => r) (pem_var (pv 0)) (pe_glob rfl (T.cls 53 _ rfl) rfl) rfl T.z_isinstance) pam_nil)))))))))))))))))))))))))))))))))))))))))))))))))))))))))
theorem sc_law : FnScope (["_law_script", "_law_hand_here", "_law_things", "_law_made_here", "_law_many", "_law_k", "_law_error", "_law_told", "_law_again", "_law_one", "_law_j"] : List Str) (["_law_script"] : List Str) (defScope s_law) := ⟨rfl, rfl, rfl, by decide +kernel, rfl, by decide +kernel, by decide +kernel⟩
theorem ok_law (T : Txt K mg a) : FnQ PW w K mg base (L2.CX PW w) 5 a.f_law a.d_law (["_law_script"] : List Str) (spOf (tb w K a) 1 m_law) :=
  fund_okmQ T.F_law sc_law fun cdv A outer s H E hq hr =>
    (pssm_cons (psm_set (i := 1) sc_law.nd rfl (Or.inr rfl) (pem_call (takes_of rfl rfl rfl rfl) (ok_u_law_hand T) (hr.mono (by decide)) rfl T.m_u_law_hand T.k_u_law_hand T.b_u_law_hand .nil (fun _ => .nil) rfl (pam_cons (pem_var (pv 0)) pam_nil)))
    (pssm_cons (psm_setLc (own := [("_law_k", 5)]) scope_hm rfl sc_law.nd rfl rfl rfl (pim_range1 rfl T.z_range (pam_cons pem_int pam_nil)) (show BlkOk (["_law_script", "_law_hand_here", "_law_things", "_law_made_here", "_law_many", "_law_k", "_law_error", "_law_told", "_law_again", "_law_one", "_law_j"] : List Str) (defScope s_law) _ [("_law_k", 5)] from ⟨rfl, by decide +kernel, by decide +kernel, by decide +kernel, by decide +kernel⟩) (fun _ _ _ _ _ => (pg_name (i := 5) sc_law.nd rfl (Or.inl rfl))) (gr_name rfl) (gw_name (by decide)) (fun _ _ _ _ _ => (ptsm_nil (σ := ()))) (fun _ _ _ _ _ => (pem_call takes0 (ok_u_law_thing T) (hr.mono (by decide)) rfl T.m_u_law_thing T.k_u_law_thing T.b_u_law_thing .nil (fun _ => .nil) rfl (pam_cons (pem_var (pv 1)) pam_nil))))
    (pssm_cons (psm_par (i := 3) (j := 4) rfl sc_law.nd rfl rfl (by decide) rfl rfl (pam_cons (pem_callQ (takes_of rfl rfl rfl rfl) (ok_u_law_made T) hq (hr.mono (by decide)) rfl T.m_u_law_made T.k_u_law_made T.b_u_law_made rfl (pam_cons (pem_var (pv 2)) pam_nil)) (pam_cons (pem_scope (pem_lst (pam_cons pem_int (pam_cons pem_int (pam_cons pem_int (pam_cons pem_int (pam_cons pem_int (pam_cons pem_int (pam_cons pem_int (pam_cons pem_int (pam_cons pem_int (pam_cons pem_int (pam_cons pem_int (pam_cons pem_int (pam_cons pem_int (pam_cons pem_int (pam_cons pem_int (pam_cons pem_int (pam_cons pem_int (pam_cons pem_int (pam_cons pem_int (pam_cons pem_int (pam_cons pem_int (pam_cons pem_int (pam_cons pem_int (pam_cons pem_int (pam_cons pem_int (pam_cons pem_int (pam_cons pem_int (pam_cons pem_int (pam_cons pem_int (pam_cons pem_int (pam_cons pem_int (pam_cons pem_int (pam_cons pem_int (pam_cons pem_int (pam_cons pem_int (pam_cons pem_int (pam_cons pem_int (pam_cons pem_int (pam_cons pem_int (pam_cons pem_int (pam_cons pem_int (pam_cons pem_int (pam_cons pem_int (pam_cons pem_int (pam_cons pem_int (pam_cons pem_int (pam_cons pem_int (pam_cons pem_int (pam_cons pem_int (pam_cons pem_int (pam_cons pem_int (pam_cons pem_int (pam_cons pem_int pam_nil))))))))))))))))))))))))))))))))))))))))))))))))))))))) pam_nil)) rfl)
    (pssm_cons (psm_for (passes_of rfl) rfl (pim_range1 rfl T.z_range (pam_cons (pem_callB call_len sim_len rfl T.z_len bt_len (pam_cons (pem_var (pv 3)) pam_nil)) pam_nil)) (pgm_name (pg_name (i := 5) sc_law.nd rfl (Or.inr rfl))) (pssm_cons (psm_set (i := 6) sc_law.nd rfl (Or.inl rfl) (pem_ix ix_seq sim_ix (pem_var (pv 3)) (pem_var (pv 5))))
    (pssm_one (psm_if (PWm.pt (pwm_or (ptm_not (ptm_tru rfl (pem_isX (cx := V.ref (a.cs 0)) (cv := Value.ref (a.cs 0)) rfl (T.isx 0 (by decide)) (fun _ r => r) (pem_var (pv 6)) (pe_glob rfl (T.cls 0 _ rfl) rfl) rfl T.z_isinstance))) (pwm_or (ptm_not (ptm_tru rfl (pem_isX (cx := V.ty "ValueError") (cv := Value.type "ValueError") rfl T.isv (fun _ r => r) (pem_var (pv 6)) (pe_bltn rfl T.z_ValueError PyProof.Rows.Boot.«ValueError» rfl) rfl T.z_isinstance))) (pwm_or1 (ptm_cmp (op_neD hr.units) sim_ne (pem_call (takes_of rfl rfl rfl rfl) (ok_u_law_kinds T) (hr.mono (by decide)) rfl T.m_u_law_kinds T.k_u_law_kinds T.b_u_law_kinds .nil (fun _ => .nil) rfl (pam_cons (pem_var (pv 6)) pam_nil)) (pem_scope (pem_comp (own := [("_law_j", 10)]) rfl sc_law.nd (pim_range1 rfl T.z_range (pam_cons (pem_callB call_len sim_len rfl T.z_len bt_len (pam_cons (pem_var (pv 3)) pam_nil)) pam_nil)) (show BlkOk (["_law_script", "_law_hand_here", "_law_things", "_law_made_here", "_law_many", "_law_k", "_law_error", "_law_told", "_law_again", "_law_one", "_law_j"] : List Str) (defScope s_law) _ [("_law_j", 10)] from ⟨rfl, by decide +kernel, by decide +kernel, by decide +kernel, by decide +kernel⟩) (fun _ _ _ _ _ => (pg_name (i := 10) sc_law.nd rfl (Or.inl rfl))) (gr_name rfl) (gw_name (by decide)) (fun _ _ _ _ _ => (ptsm_nil (σ := ()))) (fun _ _ _ _ _ => (pem_cmp (op_eqD hr.units) sim_eq (pem_var (pv 10)) (pem_var (pv 5)) (nomark _))))) (nomark _)))))) (pssm_one (psm_ret pem_bl)) pssm_nil))))
    (pssm_cons (psm_par (i := 7) (j := 8) rfl sc_law.nd rfl rfl (by decide) rfl rfl (pam_cons (pem_call (takes_of rfl rfl rfl rfl) (ok_u_law_fields T) (hr.mono (by decide)) rfl T.m_u_law_fields T.k_u_law_fields T.b_u_law_fields .nil (fun _ => .nil) rfl (pam_cons (pem_var (pv 3)) pam_nil)) (pam_cons (pem_call (takes_of rfl rfl rfl rfl) (ok_u_law_fields T) (hr.mono (by decide)) rfl T.m_u_law_fields T.k_u_law_fields T.b_u_law_fields .nil (fun _ => .nil) rfl (pam_cons (pem_callQ (takes_of rfl rfl rfl rfl) (ok_u_law_made T) hq (hr.mono (by decide)) rfl T.m_u_law_made T.k_u_law_made T.b_u_law_made rfl (pam_cons (pem_scope (pem_lst (pam_cons (pem_ix ix_seq sim_ix (pem_var (pv 2)) pem_int) (pam_cons (pem_ix ix_seq sim_ix (pem_var (pv 2)) pem_int) (pam_cons (pem_ix ix_seq sim_ix (pem_var (pv 2)) pem_int) pam_nil))))) pam_nil)) pam_nil)) pam_nil)) rfl)
    (pssm_cons (psm_for (passes_of rfl) rfl (pim_range1 rfl T.z_range (pam_cons (pem_callB call_len sim_len rfl T.z_len bt_len (pam_cons (pem_var (pv 3)) pam_nil)) pam_nil)) (pgm_name (pg_name (i := 5) sc_law.nd rfl (Or.inr rfl))) (pssm_one (psm_if (PWm.pt (pwm_or (ptm_cmp (op_neD hr.units) sim_ne (pem_ix ix_seq sim_ix (pem_var (pv 7)) (pem_var (pv 5))) (pem_scope (pem_sl rfl (pem_var (pv 2)) pom_none (pom_some (pem_ix ix_seq sim_ix (pem_var (pv 4)) (pem_var (pv 5)))))) (nomark _)) (pwm_or1 (ptm_cmp (op_neD hr.units) sim_ne (pem_ix ix_seq sim_ix (pem_var (pv 8)) (pem_var (pv 5))) (pem_scope (pem_sl rfl (pem_scope (pem_lst (pam_cons (pem_ix ix_seq sim_ix (pem_var (pv 2)) pem_int) (pam_cons (pem_ix ix_seq sim_ix (pem_var (pv 2)) pem_int) (pam_cons (pem_ix ix_seq sim_ix (pem_var (pv 2)) pem_int) pam_nil))))) pom_none (pom_some (pem_ix ix_seq sim_ix (pem_var (pv 4)) (pem_var (pv 5)))))) (nomark _))))) (pssm_one (psm_ret pem_bl)) pssm_nil)))
    (pssm_cons (psm_set (i := 9) sc_law.nd rfl (Or.inl rfl) (pem_mkx1 (k := 0) PySem.F.excBase_ValueError (T.x0 0 (by decide)).1 (T.cls 0 _ rfl) (T.x0 0 (by decide)).2 rfl pem_str))
    (pssm_one (psm_ret (pem_and (pem_isX (cx := V.ty "ValueError") (cv := Value.type "ValueError") rfl T.isv (fun _ r => r) (pem_var (pv 9)) (pe_bltn rfl T.z_ValueError PyProof.Rows.Boot.«ValueError» rfl) rfl T.z_isinstance) (pem_and (pem_cmp (op_eqD hr.units) sim_eq (pem_call (takes_of rfl rfl rfl rfl) (ok_u_law_kinds T) (hr.mono (by decide)) rfl T.m_u_law_kinds T.k_u_law_kinds T.b_u_law_kinds .nil (fun _ => .nil) rfl (pam_cons (pem_var (pv 9)) pam_nil)) (pem_scope (pem_op op_mulAll sim_mul (pem_scope (pem_lst (pam_cons pem_bl pam_nil))) (pem_callB call_len sim_len rfl T.z_len bt_len (pam_cons (pem_var (pv 3)) pam_nil)))) (nomark _)) (pem_one (pem_cmp op_isN sim_isN (pem_fldX (k := 40) (T.xi 39 _ rfl).xf rfl (show (fldN 40).Nodup by decide +kernel) ((T.xi 39 _ rfl).no _ (by decide)) (pem_mkx (k := 40) rfl hq (takes_of rfl rfl rfl rfl) (T.xi 39 _ rfl).oe (T.xi 39 _ rfl).ei (T.xi 39 _ rfl).et (ok_NotLet T) (hr.mono (by decide)) (bd_NotLet T) (.cons (show RelV V.non Value.none from rfl) .nil) (fun _ => .one .non) rfl (T.cls 40 _ rfl) rfl (by decide) (pam_cons (pem_ix ix_seq sim_ix (pem_var (pv 2)) pem_int) pam_nil))) pem_non (nomark _))))))))))))))
end
end G

namespace NK
open PySem L2 TL
theorem seq_n {a b : MS} {env env1 : NK.Env} {S S1 : Sto} {r : SO} (h1 : a env S = SO.next env1 S1) (h2 : b env1 S1 = r) : sSeq a b env S = r := by
  show SO.bind _ _ = _
  rw [h1]
  exact h2
theorem seq_r {a b : MS} {env : NK.Env} {S S1 : Sto} {u : U} (h1 : a env S = SO.ret u S1) : sSeq a b env S = SO.ret u S1 := by
  show SO.bind _ _ = _
  rw [h1]
  rfl
theorem asg_ok {m : ME} {i : Nat} {env : NK.Env} {S S1 : Sto} {u : U} (h : m env S = Out.ok u S1) : sAsg m (gN i) env S = SO.next (env.set i (some u)) S1 := by
  unfold sAsg
  rw [h]
  rfl
theorem ret_ok {m : ME} {env : NK.Env} {S S1 : Sto} {u : U} (h : m env S = Out.ok u S1) : sRet m env S = SO.ret u S1 := by
  unfold sRet
  rw [h]
  rfl
theorem ne_same {u : U} {S : Sto} (h : okU 12 u = true) : fNe u u S = Out.ok (U.bl false) S := by
  rw [fNe_ok h h, eqvU_same h]
  rfl
theorem eq_same {u : U} {S : Sto} (h : okU 12 u = true) : fEq u u S = Out.ok (U.bl true) S := by
  rw [fEq_ok h h, eqvU_same h]
section
variable {S : Sto} {a b c d e : U} {l : List U}
end
section
variable {k n : Nat} {mf : MF} {ma mk : MA} {env : NK.Env} {S : Sto} {us ws ks : List U} {x : Ex} {S2 : Sto} {gU : List U → List U → List U}
end
end NK

namespace NK
open PySem L2 TL
section
variable {α : Type} {g : Sto → Prop} {i : Nat} {mt : MT} {me : ME} {mi : MI} {env : Env} {st : Sto}
end
structure Lq (u : U) (S : Sto) (us : List U) : Prop where
  len : fLen [u] S = Out.ok (U.int (us.length : Nat)) S
  ix : ∀ (i : Nat) x, us[i]? = some x → fIx u (U.int (i : Int)) S = Out.ok x S
  it : items u S = some us
end NK

set_option maxHeartbeats 2000000
namespace NK
open PySem L2

section
variable {X : Cx} {T : Tb} {P : Pin} {Wx : WX} {o i e : Expr} {es : List Expr} {mo mi : ME} {mas : MA} {pos p apos : Pos}
end

section
variable {X : Cx} {T : Tb} {P : Pin} {Wx : WX} {e : Expr} {es : List Expr} {mo : ME} {mas : MA} {pos p : Pos} {kk k n : Nat} {f : Addr} {fd : FuncData} {ps : List Str} {mf : MF} {x : Str}
end
end NK

namespace NK
open PySem L2

structure SupM (P : Program) (K : PySem.W.Frag) (mg : Str → Option Value) (N ps : List Str) (sc : Scope) (D cda cc g : Addr) (m : Str) : Prop where
  kind : sc.kind = .function
  co : sc.isCoroutine = false
  gen : sc.isGenerator = false
  nd : N.Nodup
  pre : N.take ps.length = ps
  par : ∀ x ∈ ps, sc.names.lookup x = some .local
  nocell : ∀ y ∈ sc.names, y.2 ≠ .cell
  free : ∀ y, sc.names.lookup y = some .free → y = ("__class__" : Str)
  ksup : sc.names.lookup ("super" : Str) = some .globalImplicit
  kcls : sc.names.lookup ("__class__" : Str) = some .free
  code : ∃ ccl cdd vs ccs file tf, K.lookup cda = some ⟨ccl, cdd, .fields vs, ccs⟩ ∧ vs[2]? = some (.str file tf) ∧ ((P.main.file : Str) == file) = true
  cell : ∃ cl cld csl, K.lookup cc = some ⟨cl, cld, .cell (some (.ref D)), csl⟩
  sup : PySem.W.ks_superIn K D D m = some (some (.ref g))
  fn : PySem.W.isFn K (.ref g) = true
  fnI : PySem.W.fnIn K g = true
  self : PySem.W.mroIn K D (.ref D) = some true
  opq : PySem.W.nsIn K cStatics "thirdparty.any" = some none
  msup : mg "super" = none
  top : (P.main.scope.names.lookup ("super" : Str)).isSome = false
  nam : (m == ("__class__" : Str)) = false

section
variable {P : Program} {w : World} {K : PySem.W.Frag} {mg : Str → Option Value} {base : Heap} {N ps : List Str} {qual : Str} {scope : Scope} {f cda cc C g : Addr} {m : Str} {A : Around} {outer : List PySem.Env} {s : Shared} {H : Hp} {E : XK} {us : List Value} {vs : List V}
end

end NK

namespace NK
open PySem L2
open PySem.Spec PyProof.Rows

section
variable {X : Cx} {T : Tb} {P : Pin} {Wx : WX} {o i z e : Expr} {es : List Expr} {mo mi mz : ME} {mas : MA} {pos p apos : Pos}
end
section
variable {X : Cx} {T : Tb} {P : Pin} {Wx : WX} {kk k n : Nat} {f C : Addr} {mf : MF} {x : Str} {e : Expr} {es : List Expr} {m : ME} {mas : MA} {p pos sps : Pos} {sp : Sp}
end
end NK

namespace NK
open PySem L2
open PySem.Spec PyProof.Rows
section
variable {X : Cx} {T : Tb} {P : Pin} {Wx : WX} {o e : Expr} {mo me : ME} {pos apos : Pos}
end
section
variable {X : Cx} {T : Tb} {P : Pin} {Wx : WX} {kk n : Nat} {f : Addr} {fd : FuncData} {ps ks : List Str} {mf : MF} {x : Str} {kws : List Keyword} {mks : MA} {p pos : Pos}
end
end NK

namespace NK
open PySem L2
open PySem.Spec PyProof.Rows
section
variable {X : Cx} {T : Tb} {P : Pin} {Wx : WX} {pos : Pos}
end
end NK

namespace NK
open PySem L2
open PySem.Spec PyProof.Rows
section
variable {T : Tb}
end
open PySem.W (AlikeAll max_list_default maxD_ints)
section
variable {X : Cx} {T : Tb} {P : Pin} {Wx : WX}
end

section
variable {P : Program} {w : World} {K : PySem.W.Frag} {mg : Str → Option Value} {base : Heap} {T : Tb} {x qual : Str} {params : Arguments} {body : List Stmt} {scope : Scope} {dvs : List V} {kws : List (Str × V)} {f : Addr} {fd : FuncData} {N ps : List Str} {k : Nat} {mb : MS}
end
def KwTo {α : Type} (D : Addr) : List (Str × Value) → Sem α → Sem α → Prop
  | [], t, r => t = r
  | q :: l, t, r => ∃ (β γ : Type) (k1 : Option Value → Sem β) (k2 : β → Sem γ) (k3 : γ → Sem α) (a : β), t = ((nsGet D q.1 >>= k1) >>= k2) >>= k3 ∧ k1 (some q.2) = pure a ∧ KwTo D l (k2 a >>= k3) r
theorem KwTo.run {α : Type} {K : PySem.W.Frag} {M : Model} {A : Around} {Q : α → Shared → Prop} {Ex : Value → Shared → Prop} {s : Shared} {D : Addr} (X : K.In s.heap) : ∀ {l : List (Str × Value)} {t r : Sem α}, (∀ q ∈ l, PySem.W.nsIn K D q.1 = some (some q.2)) → KwTo D l t r → wpAny M A r Q Ex s → wpAny M A t Q Ex s
  | [], t, r, _, e, h => by rw [show t = r from e]; exact h
  | q :: l, t, r, hl, e, h => by
    obtain ⟨β, γ, k1, k2, k3, a, e1, e2, e3⟩ := e
    have l1 : PySem.W.Looks M s.heap (nsGet D q.1 >>= k1) a := (PySem.W.looks_nsIn X (hl q (List.mem_cons_self ..))).andThen (PySem.W.Looks.of_pure e2)
    rw [e1, bind_assoc]
    exact wpAny_bind (l1.here (KwTo.run X (fun p hp => hl p (List.mem_cons_of_mem _ hp)) e3 h))
section
variable {X : Cx} {T : Tb} {P : Pin} {Wx : WX} {kk n nk : Nat} {f : Addr} {fd : FuncData} {ps ks : List Str} {sel : List (Bool × Nat)} {dU : List U} {dV : List V} {mf : MF} {x : Str} {e : Expr} {es : List Expr} {kws : List Keyword} {mas mks : MA} {p pos : Pos}
end
end NK
namespace NK
end NK
namespace NK
open PySem L2
open PySem.Spec PyProof.Rows
end NK

set_option maxHeartbeats 800000
namespace NK
open PySem L2
section
variable {S : Sto}
end
section
variable {S : Sto}
theorem and_no {a b : ME} {env : NK.Env} (h : a env S = Out.ok (.bl false) S) : eAnd a b env S = Out.ok (.bl false) S := by
  unfold eAnd
  rw [h]
  rfl
end
section
variable {S : Sto}
theorem and_yes {a b : ME} {env : NK.Env} {r : Out U} (h : a env S = Out.ok (.bl true) S) (h2 : b env S = r) : eAnd a b env S = r := by
  unfold eAnd
  rw [h]
  exact h2
end
section
variable {S : Sto}
end
section
variable {S : Sto}
theorem beq_dec {α : Type} [DecidableEq α] [BEq α] [LawfulBEq α] (a b : α) : (a == b) = decide (a = b) := by
  by_cases h : a = b
  · subst h; simp
  · rw [beq_eq_false_iff_ne.mpr h, decide_eq_false h]
end
section
variable {S : Sto}
end
section
variable {S : Sto}
theorem fEq_int {i j : Int} : fEq (.int i) (.int j) S = Out.ok (.bl (decide (i = j))) S := by rw [fEq_ii, beq_dec]
end
section
variable {S : Sto}
end
section
variable {S : Sto}
end
section
variable {S : Sto}
end
section
variable {S : Sto} {x : Str}
end
section
variable {S : Sto} {m : ME} {env : NK.Env}
end
section
variable {S : Sto} {m : ME} {env : NK.Env}
end
section
variable {S : Sto} {e1 e2 e3 e4 e5 : U}
theorem call2 {k : Nat} {mf : MF} {a b : ME} {env : NK.Env} {x y : U} {r : Out U} (hk : k = 2) (ha : a env S = Out.ok x S) (hb : b env S = Out.ok y S) (h : mf [x, y] S = r) : eCall k mf [] (aCons a (aCons b aNil)) env S = r := by
  subst hk
  simp only [eCall, aCons, aNil, ha, hb, ob, List.append_nil]
  exact (if_pos rfl).trans h
end
section
variable {S : Sto} {e1 e2 e3 e4 e5 : U}
theorem call1 {k : Nat} {mf : MF} {a : ME} {env : NK.Env} {x : U} {r : Out U} (hk : k = 1) (ha : a env S = Out.ok x S) (h : mf [x] S = r) : eCall k mf [] (aCons a aNil) env S = r := by
  subst hk
  unfold eCall aCons
  rw [ha]
  exact h
end
section
variable {S : Sto} {e1 e2 e3 e4 e5 : U}
end
section
variable {S : Sto} {e1 e2 e3 e4 e5 : U}
theorem v_at {env : NK.Env} {i : Nat} {u : U} (h : env[i]? = some (some u)) : eVar i env S = Out.ok u S := by
  unfold eVar
  rw [h]
end
section
variable {st S : Sto} {w : Nat} {ss : List Str}
end
section
variable {st S : Sto} {w : Nat} {ss : List Str}
end
section
variable {st S : Sto} {w : Nat} {ss : List Str}
end
section
variable {st S : Sto} {w : Nat} {ss : List Str}
end
section
variable {st S : Sto} {w : Nat} {ss : List Str}
end
section
variable {st S : Sto} {w : Nat} {ss : List Str}
theorem lit_drw {S S' : Sto} {ma : MA} {env : NK.Env} {us : List U} (h : ma env S = Out.ok us S') (o : Old S S') (hl : us.length ≤ 1000) (hu : U.underL 0 us = true) : eScope (eLst ma) env S = Out.ok (.lst us) S' := by
  rw [esl, h]
  show scopeOut S (lstK us S') = _
  rw [lstK_ok hl, show U.loc S'.length = U.loc (S.length + 0) from by rw [o.1]; rfl]
  exact sc_loc (j := 0) [.lst us] o rfl hu
end
section
variable {st S : Sto} {w : Nat} {ss : List Str}
end
section
variable {S S1 S2 : Sto} {env : NK.Env} {m1 m2 : ME} {a b : U} {us ws : List U}
theorem op2 {f : U → U → Sto → Out U} {r : Out U} (h1 : m1 env S = Out.ok a S1) (h2 : m2 env S1 = Out.ok b S2) (h : f a b S2 = r) : eOp f m1 m2 env S = r := by
  simp only [eOp, h1, h2, ob]
  exact h
end
section
variable {S S1 S2 : Sto} {env : NK.Env} {m1 m2 : ME} {a b : U} {us ws : List U}
end
section
variable {S S1 S2 : Sto} {env : NK.Env} {m1 m2 : ME} {a b : U} {us ws : List U}
end
section
variable {S S1 S2 : Sto} {env : NK.Env} {m1 m2 : ME} {a b : U} {us ws : List U}
end
section
variable {S S1 S2 : Sto} {env : NK.Env} {m1 m2 : ME} {a b : U} {us ws : List U}
end
section
variable {S S1 S2 : Sto} {env : NK.Env} {m1 m2 : ME} {a b : U} {us ws : List U}
theorem if_yes {m : ME} {p q : MS} {r : SO} (h : m env S = Out.ok (.bl true) S1) (hp : p env S1 = r) : sIf (NK.tB m) p q env S = r := by
  simp only [sIf, NK.tB, h, ob]
  exact hp
end
section
variable {S S1 S2 : Sto} {env : NK.Env} {m1 m2 : ME} {a b : U} {us ws : List U}
theorem if_no {m : ME} {p q : MS} {r : SO} (h : m env S = Out.ok (.bl false) S1) (hq : q env S1 = r) : sIf (NK.tB m) p q env S = r := by
  simp only [sIf, NK.tB, h, ob]
  exact hq
end
section
variable {S S1 S2 : Sto} {env : NK.Env} {m1 m2 : ME} {a b : U} {us ws : List U}
end
section
variable {S S1 S2 : Sto} {env : NK.Env} {m1 m2 : ME} {a b : U} {us ws : List U}
end
section
variable {S S1 S2 S3 : Sto} {env : NK.Env} {m m1 m2 m3 : ME} {a b u x : U}
theorem cb1 {f : List U → Sto → Out U} {r : Out U} (h : m env S = Out.ok a S1) (hf : f [a] S1 = r) : eCB f (aCons m aNil) env S = r := by
  simp only [eCB, aCons, aNil, h, ob]
  exact hf
end
section
variable {S S1 S2 S3 : Sto} {env : NK.Env} {m m1 m2 m3 : ME} {a b u x : U}
end
section
variable {S S1 S2 S3 : Sto} {env : NK.Env} {m m1 m2 m3 : ME} {a b u x : U}
theorem tB_of {b : Bool} (h : m env S = Out.ok (.bl b) S1) : NK.tB m env S = Out.ok b S1 := by
  simp only [NK.tB, h, ob]
end
section
variable {S S1 S2 S3 : Sto} {env : NK.Env} {m m1 m2 m3 : ME} {a b u x : U}
theorem or_ff {t1 t2 : MT} (h1 : t1 env S = Out.ok false S1) (h2 : t2 env S1 = Out.ok false S2) : NK.tOr t1 t2 env S = Out.ok false S2 := by
  simp only [NK.tOr, h1, ob]
  exact h2
end
section
variable {S S1 S2 S3 : Sto} {env : NK.Env} {m m1 m2 m3 : ME} {a b u x : U}
theorem if_f {t : MT} {p q : MS} {r : SO} (h : t env S = Out.ok false S1) (hq : q env S1 = r) : sIf t p q env S = r := by
  simp only [sIf, h, ob]
  exact hq
end
section
variable {S S1 : Sto} {env : NK.Env} {m m1 m2 : ME} {a b u x : U} {n : Nat}
end
section
variable {S S1 : Sto} {env : NK.Env} {m m1 m2 : ME} {a b u x : U} {n : Nat}
end
section
variable {S S1 : Sto} {env : NK.Env} {m m1 m2 : ME} {a b u x : U} {n : Nat}
end
section
variable {S S1 : Sto} {e1 e2 e3 e4 e5 u : U} {n : Nat} {env : NK.Env}
end
section
variable {S S1 : Sto} {e1 e2 e3 e4 e5 u : U} {n : Nat} {env : NK.Env}
theorem and_at {a b : ME} {b1 b2 : Bool} (h1 : a env S = Out.ok (.bl b1) S) (h2 : b env S = Out.ok (.bl b2) S) : eAnd a b env S = Out.ok (.bl (b1 && b2)) S := by
  cases b1
  · exact and_no h1
  · exact and_yes h1 h2
end
section
variable {S S1 : Sto} {e1 e2 e3 e4 e5 u : U} {n : Nat} {env : NK.Env}
end
section
variable {S S1 S2 : Sto} {env : NK.Env} {m m1 m2 m3 : ME} {u v w : U} {r : Out U}
theorem ac1 (h1 : m1 env S = Out.ok u S1) : aCons m1 aNil env S = Out.ok [u] S1 := by
  simp only [aCons, aNil, h1, ob]
end
section
variable {S S1 S2 : Sto} {env : NK.Env} {m m1 m2 m3 : ME} {u v w : U} {r : Out U}
theorem acN {ma : MA} {us : List U} (h1 : m1 env S = Out.ok u S1) (h2 : ma env S1 = Out.ok us S2) : aCons m1 ma env S = Out.ok (u :: us) S2 := by
  simp only [aCons, h1, h2, ob]
end
section
variable {S : Sto} {env : NK.Env} {m m1 m2 : ME} {u v : U} {s : Str}
end
section
variable {S : Sto} {env : NK.Env} {m m1 m2 : ME} {u v : U} {s : Str}
end
section
variable {S : Sto} {env : NK.Env} {m m1 m2 : ME} {u v : U} {s : Str}
end
section
variable {S : Sto} {env : NK.Env} {m m1 m2 : ME} {u v : U} {s : Str}
theorem truK {m : ME} {b : Bool} {S1 : Sto} (h : m env S = Out.ok (.bl b) S1) : NK.tTru m env S = Out.ok b S1 := by
  simp only [NK.tTru, h, ob, truth_bl]
end
section
variable {S : Sto} {env : NK.Env} {m m1 m2 : ME} {u v : U} {s : Str}
theorem par_ok {i j : Nat} {ma : MA} {a b : U} {S1 : Sto} (h : ma env S = Out.ok [a, b] S1) : sPar i j ma env S = SO.next ((env.set i (some a)).set j (some b)) S1 := by
  unfold sPar
  rw [h]
  rfl
end
section
variable {S S1 : Sto} {env : NK.Env} {m m1 m2 : ME} {k : Str} {n : Nat}
end
section
variable {α : Type} {g : Sto → Prop} {gt : MGt} {mt : MT} {me : ME} {mi : MI} {env : NK.Env} {st : Sto} {vs : List Nat}
end
section
variable {α : Type} {g : Sto → Prop} {gt : MGt} {mt : MT} {me : ME} {mi : MI} {env : NK.Env} {st : Sto} {vs : List Nat}
end
section
variable {S S1 : Sto} {env : NK.Env} {m m1 m2 : ME}
end
section
variable {S S1 : Sto} {env : NK.Env} {m m1 m2 : ME} {xs ys : List Str} {u v w : U} {n : Nat}
end
section
variable {S S1 : Sto} {env : NK.Env} {m m1 m2 : ME} {xs ys : List Str} {u v w : U} {n : Nat} {zs : List Str}
end
section
variable {S S1 : Sto} {env : NK.Env} {m m1 m2 : ME} {xs ys : List Str} {u v w : U} {n : Nat} {zs : List Str}
end
section
variable {S S1 S2 : Sto} {env : NK.Env} {m m1 m2 : ME} {xs ys zs : List Str} {u u0 u1 u2 v w : U} {hs : Bool} {st : Sto}
end
section
variable {S S1 S2 : Sto} {env : NK.Env} {m m1 m2 : ME} {xs ys zs : List Str} {u u0 u1 u2 v w : U} {hs : Bool} {st : Sto}
end
section
variable {S S1 S2 : Sto} {env : NK.Env} {m m1 m2 : ME} {xs ys zs : List Str} {u u0 u1 u2 v w : U} {hs : Bool} {st : Sto}
end
section
variable {S S1 S2 S3 : Sto} {env env1 env2 : NK.Env} {m m1 m2 m3 : ME} {a b c u v w x y : U} {us ws : List U} {r : Out U} {so : SO}
end
section
variable {S : Sto} {a b c d e f : U} {l : List U}
end
end NK

set_option maxHeartbeats 2000000
namespace G
open PySem L2 NK
theorem mix_ok (n t : Int) (st : Sto) : ∃ k, m_u_law_mix [.int n, .int t] st = .ok (.int k) st := by
  have h1 : ∀ x : Int, 0 ≤ x % 2147483647 ∧ x % 2147483647 < 2147483647 := fun x => ⟨Int.emod_nonneg _ (by decide), Int.emod_lt_of_pos _ (by decide)⟩
  have h2 : ∀ x : Int, 0 ≤ x % 2147483399 ∧ x % 2147483399 < 2147483399 := fun x => ⟨Int.emod_nonneg _ (by decide), Int.emod_lt_of_pos _ (by decide)⟩
  suffices h : ∃ k, b_u_law_mix [some (.int n), some (.int t), none, none] st = .ret (.int k) st from let ⟨k, e⟩ := h; ⟨k, fs_same rfl e rfl⟩
  unfold b_u_law_mix
  simp (maxDischargeDepth := 8) -implicitDefEqProofs only [sSeq, sIf, sAsg, sRet, sRetN, sDrop, sSetIx, sNext, sCont, sBrk, NK.sFld, NK.sDPut, NK.tAnd, NK.tOr, NK.tNot, NK.tTru, NK.tB, eOp, eUn, eCB, eIf, eAnd, eOr, eNot, eVar, eC, aCons, aNil, eTup, eChain, eMeth, eBM, eFld, eCall, eIsi, sPar, sPar3, eDInT, eDGetT, sDPutT, keyT2, keyU, gN, ob, xb, NK.os, NK.xs, nb, rb, kb, eb, List.getElem?_cons_zero, List.getElem?_cons_succ, List.set_cons_zero, List.set_cons_succ, ↓reduceIte, Bool.false_eq_true, Bool.not_true, Bool.not_false, fAdd_i, fSub_i, fNeg_i, fInt_i, fAbs_i, fLt_i, fLe_i, fGt_i, fGe_i, fMin_i, fIsN_n, fNotN_n, fLen_lst, fLen_tup, fTuple_lst, fTuple_tup, non_non, non_bl, non_int, non_str, non_tup, non_lst, non_ins, non_loc, truth_bl, truth_non, truth_int, truth_tup, truth_lst, fMod_i, fDiv_i, fMul_i, Int.reduceLT, Int.reduceNeg, Int.reducePow, Int.reduceLE, Nat.reduceLeDiff, or_true, true_or, and_self, and_true, true_and, List.append_nil, List.length_cons, List.length_nil, Nat.reduceAdd, Nat.zero_add, fEq_ii, fNe_ii, beq_self_eq_true, decide_true, decide_false, Int.reduceBEq, Int.reduceBNe, String.reduceBEq, beq_lit, Bool.true_and, Bool.false_and, Bool.and_true, Bool.and_false, Bool.true_or, Bool.or_true, Bool.false_or, Bool.or_false, Bool.or_self, Bool.bne_true, Bool.bne_false, bne_self_eq_false, Option.isSome_some, Option.isSome_none]
  generalize he : (n * 48271 + t * 16807 + 11) % 2147483647 = e
  have b1 := h1 (n * 48271 + t * 16807 + 11)
  rw [he] at b1
  have c1 : -18446744073709551616 < e ∧ e < 18446744073709551616 := ⟨by omega, by omega⟩
  simp (maxDischargeDepth := 8) -implicitDefEqProofs only [sSeq, sIf, sAsg, sRet, sRetN, sDrop, sSetIx, sNext, sCont, sBrk, NK.sFld, NK.sDPut, NK.tAnd, NK.tOr, NK.tNot, NK.tTru, NK.tB, eOp, eUn, eCB, eIf, eAnd, eOr, eNot, eVar, eC, aCons, aNil, eTup, eChain, eMeth, eBM, eFld, eCall, eIsi, sPar, sPar3, eDInT, eDGetT, sDPutT, keyT2, keyU, gN, ob, xb, NK.os, NK.xs, nb, rb, kb, eb, List.getElem?_cons_zero, List.getElem?_cons_succ, List.set_cons_zero, List.set_cons_succ, ↓reduceIte, Bool.false_eq_true, Bool.not_true, Bool.not_false, fAdd_i, fSub_i, fNeg_i, fInt_i, fAbs_i, fLt_i, fLe_i, fGt_i, fGe_i, fMin_i, fIsN_n, fNotN_n, fLen_lst, fLen_tup, fTuple_lst, fTuple_tup, non_non, non_bl, non_int, non_str, non_tup, non_lst, non_ins, non_loc, truth_bl, truth_non, truth_int, truth_tup, truth_lst, fMod_i, fDiv_i, fMul_i, Int.reduceLT, Int.reduceNeg, Int.reducePow, Int.reduceLE, Nat.reduceLeDiff, or_true, true_or, and_self, and_true, true_and, List.append_nil, List.length_cons, List.length_nil, Nat.reduceAdd, Nat.zero_add, fEq_ii, fNe_ii, beq_self_eq_true, decide_true, decide_false, Int.reduceBEq, Int.reduceBNe, String.reduceBEq, beq_lit, Bool.true_and, Bool.false_and, Bool.and_true, Bool.and_false, Bool.true_or, Bool.or_true, Bool.false_or, Bool.or_false, Bool.or_self, Bool.bne_true, Bool.bne_false, bne_self_eq_false, Option.isSome_some, Option.isSome_none, c1]
  generalize hf : (e * e + e / 127 * 40692 + t * 69621) % 2147483399 = f
  have b2 := h2 (e * e + e / 127 * 40692 + t * 69621)
  rw [hf] at b2
  have c2 : -18446744073709551616 < f ∧ f < 18446744073709551616 := ⟨by omega, by omega⟩
  simp (maxDischargeDepth := 8) -implicitDefEqProofs only [sSeq, sIf, sAsg, sRet, sRetN, sDrop, sSetIx, sNext, sCont, sBrk, NK.sFld, NK.sDPut, NK.tAnd, NK.tOr, NK.tNot, NK.tTru, NK.tB, eOp, eUn, eCB, eIf, eAnd, eOr, eNot, eVar, eC, aCons, aNil, eTup, eChain, eMeth, eBM, eFld, eCall, eIsi, sPar, sPar3, eDInT, eDGetT, sDPutT, keyT2, keyU, gN, ob, xb, NK.os, NK.xs, nb, rb, kb, eb, List.getElem?_cons_zero, List.getElem?_cons_succ, List.set_cons_zero, List.set_cons_succ, ↓reduceIte, Bool.false_eq_true, Bool.not_true, Bool.not_false, fAdd_i, fSub_i, fNeg_i, fInt_i, fAbs_i, fLt_i, fLe_i, fGt_i, fGe_i, fMin_i, fIsN_n, fNotN_n, fLen_lst, fLen_tup, fTuple_lst, fTuple_tup, non_non, non_bl, non_int, non_str, non_tup, non_lst, non_ins, non_loc, truth_bl, truth_non, truth_int, truth_tup, truth_lst, fMod_i, fDiv_i, fMul_i, Int.reduceLT, Int.reduceNeg, Int.reducePow, Int.reduceLE, Nat.reduceLeDiff, or_true, true_or, and_self, and_true, true_and, List.append_nil, List.length_cons, List.length_nil, Nat.reduceAdd, Nat.zero_add, fEq_ii, fNe_ii, beq_self_eq_true, decide_true, decide_false, Int.reduceBEq, Int.reduceBNe, String.reduceBEq, beq_lit, Bool.true_and, Bool.false_and, Bool.and_true, Bool.and_false, Bool.true_or, Bool.or_true, Bool.false_or, Bool.or_false, Bool.or_self, Bool.bne_true, Bool.bne_false, bne_self_eq_false, Option.isSome_some, Option.isSome_none, c2]
  exact ⟨_, rfl⟩

def hob (cs : List Int) (i r t : Int) : Ob := .lst [.lst (cs.map U.int), .int i, .int r, .int t]
def HOb (o : Ob) : Prop := ∃ cs i r t, o = hob cs i r t ∧ 0 ≤ i ∧ 0 ≤ r
theorem ints_under : ∀ cs : List Int, U.underL 0 (cs.map U.int) = true
  | [] => rfl
  | c :: cs => by
    show U.underL 0 (U.int c :: cs.map U.int) = true
    unfold U.underL
    rw [ints_under cs]
    rfl
theorem HOb.under {o : Ob} (h : HOb o) : o.under 0 = true := by
  obtain ⟨cs, i, r, t, rfl, _, _⟩ := h
  show U.underL 0 [.lst (cs.map U.int), .int i, .int r, .int t] = true
  simp [U.underL, U.under, ints_under cs]
section
variable {cs : List Int} {i r t : Int} {st : Sto}
theorem ix0 : fIx (.loc 0) (.int 0) (hob cs i r t :: st) = .ok (.lst (cs.map U.int)) (hob cs i r t :: st) := rfl
theorem ix1 : fIx (.loc 0) (.int 1) (hob cs i r t :: st) = .ok (.int i) (hob cs i r t :: st) := rfl
theorem ix2 : fIx (.loc 0) (.int 2) (hob cs i r t :: st) = .ok (.int r) (hob cs i r t :: st) := rfl
theorem ix3 : fIx (.loc 0) (.int 3) (hob cs i r t :: st) = .ok (.int t) (hob cs i r t :: st) := rfl
theorem set1 {x : Int} : setIx (.loc 0) (.int 1) (.int x) (hob cs i r t :: st) = some (hob cs x r t :: st) := rfl
theorem set2 {x : Int} : setIx (.loc 0) (.int 2) (.int x) (hob cs i r t :: st) = some (hob cs i x t :: st) := rfl
theorem set3 {x : Int} : setIx (.loc 0) (.int 3) (.int x) (hob cs i r t :: st) = some (hob cs i r x :: st) := rfl
theorem cell_at (h0 : 0 ≤ i) (h1 : i < cs.length) : ∃ c : Int, fIx (.lst (cs.map U.int)) (.int i) st = .ok (.int c) st := by
  obtain ⟨k, rfl⟩ := Int.eq_ofNat_of_zero_le h0
  have hk : k < cs.length := by omega
  refine ⟨cs[k], fIx_lst ?_⟩
  rw [NK.atI_nat]
  simp [hk]
end
theorem draw_ok {h : Ob} {st : Sto} {m : Int} (H : HOb h) (hm : 0 < m) (hm2 : m < 1000000000000000000000000000000000000000000000000000000000000) : ∃ d h', HOb h' ∧ 0 ≤ d ∧ d < m ∧ m_u_law_draw [.loc 0, .int m] (h :: st) = .ok (.int d) (h' :: st) := by
  obtain ⟨cs, i, r, t, rfl, hi, hr⟩ := H
  have fin : ∀ {d : Int} {o : Ob}, HOb o → b_u_law_draw [some (.loc 0), some (.int m), none, none] (hob cs i r t :: st) = .ret (.int (d % m)) (o :: st) → ∃ d h', HOb h' ∧ 0 ≤ d ∧ d < m ∧ m_u_law_draw [.loc 0, .int m] (hob cs i r t :: st) = .ok (.int d) (h' :: st) := fun {d o} ho e =>
    ⟨d % m, o, ho, Int.emod_nonneg _ (by omega), Int.emod_lt_of_pos _ hm, fs_old rfl e (Old.hand ho.under) rfl⟩
  have hlen : ((cs.map U.int).length : Int) = cs.length := by simp
  -- the second half: r is above 0
  have big : ∀ (i r : Int) (e2 e3 : Option U), 0 ≤ i → 0 < r → (sSeq (sIf (NK.tB (eOp fGt (eOp fIx (eVar 0) (eC (.int 2))) (eC (.int 0)))) (sSeq (sAsg (eOp fIx (eVar 0) (eC (.int 2))) (gN 3))
    (sSeq (sSetIx (eVar 0) (eC (.int 2)) (eOp fDiv (eVar 3) (eVar 1)))
    (sRet (eOp fMod (eCB fInt (aCons (eVar 3) aNil)) (eVar 1))))) sNext)
    (sSeq (sSetIx (eVar 0) (eC (.int 3)) (eOp fMod (eCB fInt (aCons (eOp fAdd (eOp fIx (eVar 0) (eC (.int 3))) (eC (.int 1))) aNil)) (eC (.int 2147483629))))
    (sRet (eOp fMod (eCB fInt (aCons (eCall 2 m_u_law_mix [] (aCons (eOp fIx (eVar 0) (eC (.int 3))) (aCons (eOp fIx (eVar 0) (eC (.int 1))) aNil))) aNil)) (eVar 1))))) [some (.loc 0), some (.int m), e2, e3] (hob cs i r t :: st) = .ret (.int (r % m)) (hob cs i (r / m) t :: st) := by
    intro i r e2 e3 h0 h1
    simp (maxDischargeDepth := 8) -implicitDefEqProofs only [sSeq, sIf, sAsg, sRet, sRetN, sDrop, sSetIx, sNext, sCont, sBrk, NK.sFld, NK.sDPut, NK.tAnd, NK.tOr, NK.tNot, NK.tTru, NK.tB, eOp, eUn, eCB, eIf, eAnd, eOr, eNot, eVar, eC, aCons, aNil, eTup, eChain, eMeth, eBM, eFld, eCall, eIsi, sPar, sPar3, eDInT, eDGetT, sDPutT, keyT2, keyU, gN, ob, xb, NK.os, NK.xs, nb, rb, kb, eb, List.getElem?_cons_zero, List.getElem?_cons_succ, List.set_cons_zero, List.set_cons_succ, ↓reduceIte, Bool.false_eq_true, Bool.not_true, Bool.not_false, fAdd_i, fSub_i, fNeg_i, fInt_i, fAbs_i, fLt_i, fLe_i, fGt_i, fGe_i, fMin_i, fIsN_n, fNotN_n, fLen_lst, fLen_tup, fTuple_lst, fTuple_tup, non_non, non_bl, non_int, non_str, non_tup, non_lst, non_ins, non_loc, truth_bl, truth_non, truth_int, truth_tup, truth_lst, fMod_i, fDiv_i, fMul_i, Int.reduceLT, Int.reduceNeg, Int.reducePow, Int.reduceLE, Nat.reduceLeDiff, or_true, true_or, and_self, and_true, true_and, List.append_nil, List.length_cons, List.length_nil, Nat.reduceAdd, Nat.zero_add, fEq_ii, fNe_ii, beq_self_eq_true, decide_true, decide_false, Int.reduceBEq, Int.reduceBNe, String.reduceBEq, beq_lit, Bool.true_and, Bool.false_and, Bool.and_true, Bool.and_false, Bool.true_or, Bool.or_true, Bool.false_or, Bool.or_false, Bool.or_self, Bool.bne_true, Bool.bne_false, bne_self_eq_false, Option.isSome_some, Option.isSome_none, hm, hm2, ix2, decide_eq_true h1, set2]
  by_cases hr0 : r = 0
  · subst hr0
    by_cases hl : i < cs.length
    · obtain ⟨c, hc⟩ := cell_at (st := hob cs i 0 t :: st) hi hl
      by_cases hb : c < 1000000000000000000
      · obtain ⟨k, hk⟩ := mix_ok (c % 2147483647) (i + 1) (hob cs (i + 1) 0 t :: st)
        refine fin (d := k) (o := hob cs (i + 1) 0 t) ⟨_, _, _, _, rfl, by omega, by omega⟩ ?_
        unfold b_u_law_draw
        simp (maxDischargeDepth := 8) -implicitDefEqProofs only [sSeq, sIf, sAsg, sRet, sRetN, sDrop, sSetIx, sNext, sCont, sBrk, NK.sFld, NK.sDPut, NK.tAnd, NK.tOr, NK.tNot, NK.tTru, NK.tB, eOp, eUn, eCB, eIf, eAnd, eOr, eNot, eVar, eC, aCons, aNil, eTup, eChain, eMeth, eBM, eFld, eCall, eIsi, sPar, sPar3, eDInT, eDGetT, sDPutT, keyT2, keyU, gN, ob, xb, NK.os, NK.xs, nb, rb, kb, eb, List.getElem?_cons_zero, List.getElem?_cons_succ, List.set_cons_zero, List.set_cons_succ, ↓reduceIte, Bool.false_eq_true, Bool.not_true, Bool.not_false, fAdd_i, fSub_i, fNeg_i, fInt_i, fAbs_i, fLt_i, fLe_i, fGt_i, fGe_i, fMin_i, fIsN_n, fNotN_n, fLen_lst, fLen_tup, fTuple_lst, fTuple_tup, non_non, non_bl, non_int, non_str, non_tup, non_lst, non_ins, non_loc, truth_bl, truth_non, truth_int, truth_tup, truth_lst, fMod_i, fDiv_i, fMul_i, Int.reduceLT, Int.reduceNeg, Int.reducePow, Int.reduceLE, Nat.reduceLeDiff, or_true, true_or, and_self, and_true, true_and, List.append_nil, List.length_cons, List.length_nil, Nat.reduceAdd, Nat.zero_add, fEq_ii, fNe_ii, beq_self_eq_true, decide_true, decide_false, Int.reduceBEq, Int.reduceBNe, String.reduceBEq, beq_lit, Bool.true_and, Bool.false_and, Bool.and_true, Bool.and_false, Bool.true_or, Bool.or_true, Bool.false_or, Bool.or_false, Bool.or_self, Bool.bne_true, Bool.bne_false, bne_self_eq_false, Option.isSome_some, Option.isSome_none, hm, hm2, ix0, ix1, ix2, fEq_ii, beq_self_eq_true, hlen, decide_eq_true hl, hc, set1, pow18, decide_eq_true hb, hk]
      · refine fin (d := c) (o := hob cs (i + 1) (c / m) t) ⟨_, _, _, _, rfl, by omega, Int.ediv_nonneg (by omega) (by omega)⟩ ?_
        have hb2 : decide (c < 1000000000000000000) = false := decide_eq_false hb
        have bg := big (i + 1) c (some (.int c)) none (by omega) (by omega)
        unfold b_u_law_draw
        show SO.bind _ _ = _
        rw [show (sIf (NK.tAnd (NK.tB (eOp fEq (eOp fIx (eVar 0) (eC (.int 2))) (eC (.int 0)))) (NK.tB (eOp fLt (eOp fIx (eVar 0) (eC (.int 1))) (eCB fLen (aCons (eOp fIx (eVar 0) (eC (.int 0))) aNil))))) (sSeq (sAsg (eOp fIx (eOp fIx (eVar 0) (eC (.int 0))) (eOp fIx (eVar 0) (eC (.int 1)))) (gN 2))
    (sSeq (sSetIx (eVar 0) (eC (.int 1)) (eOp fAdd (eOp fIx (eVar 0) (eC (.int 1))) (eC (.int 1))))
    (sSeq (sIf (NK.tB (eOp fLt (eVar 2) (eOp fPow (eC (.int 10)) (eC (.int 18))))) (sRet (eOp fMod (eCB fInt (aCons (eCall 2 m_u_law_mix [] (aCons (eOp fMod (eCB fInt (aCons (eVar 2) aNil)) (eC (.int 2147483647))) (aCons (eOp fIx (eVar 0) (eC (.int 1))) aNil))) aNil)) (eVar 1))) sNext)
    (sSetIx (eVar 0) (eC (.int 2)) (eVar 2))))) sNext) [some (.loc 0), some (.int m), none, none] (hob cs i 0 t :: st) = .next [some (.loc 0), some (.int m), some (.int c), none] (hob cs (i + 1) c t :: st) from by
          simp (maxDischargeDepth := 8) -implicitDefEqProofs only [sSeq, sIf, sAsg, sRet, sRetN, sDrop, sSetIx, sNext, sCont, sBrk, NK.sFld, NK.sDPut, NK.tAnd, NK.tOr, NK.tNot, NK.tTru, NK.tB, eOp, eUn, eCB, eIf, eAnd, eOr, eNot, eVar, eC, aCons, aNil, eTup, eChain, eMeth, eBM, eFld, eCall, eIsi, sPar, sPar3, eDInT, eDGetT, sDPutT, keyT2, keyU, gN, ob, xb, NK.os, NK.xs, nb, rb, kb, eb, List.getElem?_cons_zero, List.getElem?_cons_succ, List.set_cons_zero, List.set_cons_succ, ↓reduceIte, Bool.false_eq_true, Bool.not_true, Bool.not_false, fAdd_i, fSub_i, fNeg_i, fInt_i, fAbs_i, fLt_i, fLe_i, fGt_i, fGe_i, fMin_i, fIsN_n, fNotN_n, fLen_lst, fLen_tup, fTuple_lst, fTuple_tup, non_non, non_bl, non_int, non_str, non_tup, non_lst, non_ins, non_loc, truth_bl, truth_non, truth_int, truth_tup, truth_lst, fMod_i, fDiv_i, fMul_i, Int.reduceLT, Int.reduceNeg, Int.reducePow, Int.reduceLE, Nat.reduceLeDiff, or_true, true_or, and_self, and_true, true_and, List.append_nil, List.length_cons, List.length_nil, Nat.reduceAdd, Nat.zero_add, fEq_ii, fNe_ii, beq_self_eq_true, decide_true, decide_false, Int.reduceBEq, Int.reduceBNe, String.reduceBEq, beq_lit, Bool.true_and, Bool.false_and, Bool.and_true, Bool.and_false, Bool.true_or, Bool.or_true, Bool.false_or, Bool.or_false, Bool.or_self, Bool.bne_true, Bool.bne_false, bne_self_eq_false, Option.isSome_some, Option.isSome_none, ix0, ix1, ix2, fEq_ii, beq_self_eq_true, hlen, decide_eq_true hl, hc, set1, pow18, hb2, set2]]
        exact bg
    · have hl2 : decide (i < (cs.length : Int)) = false := decide_eq_false hl
      obtain ⟨k, hk⟩ := mix_ok ((t + 1) % 2147483629) i (hob cs i 0 ((t + 1) % 2147483629) :: st)
      refine fin (d := k) (o := hob cs i 0 ((t + 1) % 2147483629)) ⟨_, _, _, _, rfl, hi, by omega⟩ ?_
      unfold b_u_law_draw
      simp (maxDischargeDepth := 8) -implicitDefEqProofs only [sSeq, sIf, sAsg, sRet, sRetN, sDrop, sSetIx, sNext, sCont, sBrk, NK.sFld, NK.sDPut, NK.tAnd, NK.tOr, NK.tNot, NK.tTru, NK.tB, eOp, eUn, eCB, eIf, eAnd, eOr, eNot, eVar, eC, aCons, aNil, eTup, eChain, eMeth, eBM, eFld, eCall, eIsi, sPar, sPar3, eDInT, eDGetT, sDPutT, keyT2, keyU, gN, ob, xb, NK.os, NK.xs, nb, rb, kb, eb, List.getElem?_cons_zero, List.getElem?_cons_succ, List.set_cons_zero, List.set_cons_succ, ↓reduceIte, Bool.false_eq_true, Bool.not_true, Bool.not_false, fAdd_i, fSub_i, fNeg_i, fInt_i, fAbs_i, fLt_i, fLe_i, fGt_i, fGe_i, fMin_i, fIsN_n, fNotN_n, fLen_lst, fLen_tup, fTuple_lst, fTuple_tup, non_non, non_bl, non_int, non_str, non_tup, non_lst, non_ins, non_loc, truth_bl, truth_non, truth_int, truth_tup, truth_lst, fMod_i, fDiv_i, fMul_i, Int.reduceLT, Int.reduceNeg, Int.reducePow, Int.reduceLE, Nat.reduceLeDiff, or_true, true_or, and_self, and_true, true_and, List.append_nil, List.length_cons, List.length_nil, Nat.reduceAdd, Nat.zero_add, fEq_ii, fNe_ii, beq_self_eq_true, decide_true, decide_false, Int.reduceBEq, Int.reduceBNe, String.reduceBEq, beq_lit, Bool.true_and, Bool.false_and, Bool.and_true, Bool.and_false, Bool.true_or, Bool.or_true, Bool.false_or, Bool.or_false, Bool.or_self, Bool.bne_true, Bool.bne_false, bne_self_eq_false, Option.isSome_some, Option.isSome_none, hm, hm2, ix0, ix1, ix2, ix3, fEq_ii, beq_self_eq_true, hlen, hl2, Int.lt_irrefl, decide_false, set3, hk]
  · have hr1 : 0 < r := by omega
    refine fin (d := r) (o := hob cs i (r / m) t) ⟨_, _, _, _, rfl, hi, Int.ediv_nonneg hr (by omega)⟩ ?_
    have bg := big i r none none hi hr1
    have hz : (r == 0) = false := by simpa using hr0
    unfold b_u_law_draw
    show SO.bind _ _ = _
    rw [show (sIf (NK.tAnd (NK.tB (eOp fEq (eOp fIx (eVar 0) (eC (.int 2))) (eC (.int 0)))) (NK.tB (eOp fLt (eOp fIx (eVar 0) (eC (.int 1))) (eCB fLen (aCons (eOp fIx (eVar 0) (eC (.int 0))) aNil))))) (sSeq (sAsg (eOp fIx (eOp fIx (eVar 0) (eC (.int 0))) (eOp fIx (eVar 0) (eC (.int 1)))) (gN 2))
    (sSeq (sSetIx (eVar 0) (eC (.int 1)) (eOp fAdd (eOp fIx (eVar 0) (eC (.int 1))) (eC (.int 1))))
    (sSeq (sIf (NK.tB (eOp fLt (eVar 2) (eOp fPow (eC (.int 10)) (eC (.int 18))))) (sRet (eOp fMod (eCB fInt (aCons (eCall 2 m_u_law_mix [] (aCons (eOp fMod (eCB fInt (aCons (eVar 2) aNil)) (eC (.int 2147483647))) (aCons (eOp fIx (eVar 0) (eC (.int 1))) aNil))) aNil)) (eVar 1))) sNext)
    (sSetIx (eVar 0) (eC (.int 2)) (eVar 2))))) sNext) [some (.loc 0), some (.int m), none, none] (hob cs i r t :: st) = .next [some (.loc 0), some (.int m), none, none] (hob cs i r t :: st) from by
      simp (maxDischargeDepth := 8) -implicitDefEqProofs only [sSeq, sIf, sAsg, sRet, sRetN, sDrop, sSetIx, sNext, sCont, sBrk, NK.sFld, NK.sDPut, NK.tAnd, NK.tOr, NK.tNot, NK.tTru, NK.tB, eOp, eUn, eCB, eIf, eAnd, eOr, eNot, eVar, eC, aCons, aNil, eTup, eChain, eMeth, eBM, eFld, eCall, eIsi, sPar, sPar3, eDInT, eDGetT, sDPutT, keyT2, keyU, gN, ob, xb, NK.os, NK.xs, nb, rb, kb, eb, List.getElem?_cons_zero, List.getElem?_cons_succ, List.set_cons_zero, List.set_cons_succ, ↓reduceIte, Bool.false_eq_true, Bool.not_true, Bool.not_false, fAdd_i, fSub_i, fNeg_i, fInt_i, fAbs_i, fLt_i, fLe_i, fGt_i, fGe_i, fMin_i, fIsN_n, fNotN_n, fLen_lst, fLen_tup, fTuple_lst, fTuple_tup, non_non, non_bl, non_int, non_str, non_tup, non_lst, non_ins, non_loc, truth_bl, truth_non, truth_int, truth_tup, truth_lst, fMod_i, fDiv_i, fMul_i, Int.reduceLT, Int.reduceNeg, Int.reducePow, Int.reduceLE, Nat.reduceLeDiff, or_true, true_or, and_self, and_true, true_and, List.append_nil, List.length_cons, List.length_nil, Nat.reduceAdd, Nat.zero_add, fEq_ii, fNe_ii, beq_self_eq_true, decide_true, decide_false, Int.reduceBEq, Int.reduceBNe, String.reduceBEq, beq_lit, Bool.true_and, Bool.false_and, Bool.and_true, Bool.and_false, Bool.true_or, Bool.or_true, Bool.false_or, Bool.or_false, Bool.or_self, Bool.bne_true, Bool.bne_false, bne_self_eq_false, Option.isSome_some, Option.isSome_none, ix2, fEq_ii, hz]]
    exact bg
theorem pick_body {md : MF} {things u : U} {n k : Int} {S S1 : Sto} (hl : fLen [things] S = Out.ok (U.int n) S) (hd : md [U.loc 0, U.int n] S = Out.ok (U.int k) S1) (hx : fIx things (U.int k) S1 = Out.ok u S1) :
    (sRet (eOp fIx (eVar 1) (eCall 2 md [] (aCons (eVar 0) (aCons (eCB fLen (aCons (eVar 1) aNil)) aNil))))) [some (U.loc 0), some things] S = SO.ret u S1 := by
  simp (maxDischargeDepth := 8) -implicitDefEqProofs only [sSeq, sIf, sAsg, sRet, sRetN, sDrop, sSetIx, sNext, sCont, sBrk, NK.sFld, NK.sDPut, NK.tAnd, NK.tOr, NK.tNot, NK.tTru, NK.tB, eOp, eUn, eCB, eIf, eAnd, eOr, eNot, eVar, eC, aCons, aNil, eTup, eChain, eMeth, eBM, eFld, eCall, eIsi, sPar, sPar3, eDInT, eDGetT, sDPutT, keyT2, keyU, gN, ob, xb, NK.os, NK.xs, nb, rb, kb, eb, List.getElem?_cons_zero, List.getElem?_cons_succ, List.set_cons_zero, List.set_cons_succ, ↓reduceIte, Bool.false_eq_true, Bool.not_true, Bool.not_false, fAdd_i, fSub_i, fNeg_i, fInt_i, fAbs_i, fLt_i, fLe_i, fGt_i, fGe_i, fMin_i, fIsN_n, fNotN_n, fLen_lst, fLen_tup, fTuple_lst, fTuple_tup, non_non, non_bl, non_int, non_str, non_tup, non_lst, non_ins, non_loc, truth_bl, truth_non, truth_int, truth_tup, truth_lst, fMod_i, fDiv_i, fMul_i, Int.reduceLT, Int.reduceNeg, Int.reducePow, Int.reduceLE, Nat.reduceLeDiff, or_true, true_or, and_self, and_true, true_and, List.append_nil, List.length_cons, List.length_nil, Nat.reduceAdd, Nat.zero_add, fEq_ii, fNe_ii, beq_self_eq_true, decide_true, decide_false, Int.reduceBEq, Int.reduceBNe, String.reduceBEq, beq_lit, Bool.true_and, Bool.false_and, Bool.and_true, Bool.and_false, Bool.true_or, Bool.or_true, Bool.false_or, Bool.or_false, Bool.or_self, Bool.bne_true, Bool.bne_false, bne_self_eq_false, Option.isSome_some, Option.isSome_none, hl, hd, hx]
theorem pick_gen {h : Ob} {st : Sto} {things : U} {n : Nat} {P : U → Prop} (H : HOb h) (hn : 0 < n) (hn2 : n ≤ 1000) (hl : fLen [things] (h :: st) = Out.ok (U.int (n : Int)) (h :: st))
    (hx : ∀ (h' : Ob) (k : Nat), k < n → ∃ u, P u ∧ fIx things (U.int (k : Int)) (h' :: st) = Out.ok u (h' :: st)) : ∃ u h', P u ∧ HOb h' ∧ m_u_law_pick [U.loc 0, things] (h :: st) = Out.ok u (h' :: st) := by
  obtain ⟨d, h', H', d0, d1, e⟩ := draw_ok (st := st) (m := (n : Int)) H (by omega) (by omega)
  obtain ⟨k, rfl⟩ := Int.eq_ofNat_of_zero_le d0
  obtain ⟨u, pu, eu⟩ := hx h' k (by omega)
  exact ⟨u, h', pu, H', run_ret (n := 2) (mb := b_u_law_pick) (env := [some (U.loc 0), some things]) rfl (pick_body hl e eu)⟩
theorem pick_ok {h : Ob} {st : Sto} {us : List U} (H : HOb h) (hne : us ≠ []) (hl : us.length ≤ 1000) : ∃ u h', u ∈ us ∧ HOb h' ∧ m_u_law_pick [U.loc 0, U.lst us] (h :: st) = Out.ok u (h' :: st) :=
  pick_gen (P := (· ∈ us)) H (List.length_pos_iff.mpr hne) hl rfl fun h' k hk => ⟨us[k], List.getElem_mem hk, fIx_lst (by rw [NK.atI_nat]; simp [hk])⟩
def absU : U → U | .int i => .int (if i < 0 then -i else i) | u => u
theorem abs_map (ns : List Int) : ((ns.map U.int).filter fun _ => true).map absU = (ns.map fun i => if i < 0 then -i else i).map U.int := by
  rw [filter_all, List.map_map, List.map_map]
  rfl
theorem hand_ok (ns : List Int) (hl : ns.length ≤ 63) : ∃ h, HOb h ∧ m_u_law_hand [.scr (ns.map U.int)] [] = .ok (.loc 0) [h] := by
  have loop : ∀ (ns : List Int) (k : Nat) (s : Option U) (t : Int) (e2 e3 : Option U), k + ns.length ≤ 1000 → ∃ t' e2' e3', forM (fun _ => True) (gT [2, 3]) l_u_law_hand_1
      (enumFrom k (ns.map U.int)) [s, some (.int t), e2, e3] [] = .next [s, some (.int t'), e2', e3'] [] := by
    intro ns
    induction ns with
    | nil => intro k s t e2 e3 _; exact ⟨t, e2, e3, forM_nil True.intro⟩
    | cons n ns ih =>
      intro k s t e2 e3 hk
      simp only [List.length_cons] at hk
      obtain ⟨t', e2', e3', h⟩ := ih (k + 1) s ((t * 31 + n * ((k : Int) + 7)) % 2147483629) (some (.int (k : Int))) (some (.int n)) (by omega)
      refine ⟨t', e2', e3', Eq.trans (forM_n (env1 := [s, some (.int t), some (.int (k : Int)), some (.int n)]) True.intro rfl ?_) h⟩
      have c : -18446744073709551616 < (k : Int) + 7 ∧ (k : Int) + 7 < 18446744073709551616 := ⟨by omega, by omega⟩
      unfold l_u_law_hand_1
      simp (maxDischargeDepth := 8) -implicitDefEqProofs only [sSeq, sIf, sAsg, sRet, sRetN, sDrop, sSetIx, sNext, sCont, sBrk, NK.sFld, NK.sDPut, NK.tAnd, NK.tOr, NK.tNot, NK.tTru, NK.tB, eOp, eUn, eCB, eIf, eAnd, eOr, eNot, eVar, eC, aCons, aNil, eTup, eChain, eMeth, eBM, eFld, eCall, eIsi, sPar, sPar3, eDInT, eDGetT, sDPutT, keyT2, keyU, gN, ob, xb, NK.os, NK.xs, nb, rb, kb, eb, List.getElem?_cons_zero, List.getElem?_cons_succ, List.set_cons_zero, List.set_cons_succ, ↓reduceIte, Bool.false_eq_true, Bool.not_true, Bool.not_false, fAdd_i, fSub_i, fNeg_i, fInt_i, fAbs_i, fLt_i, fLe_i, fGt_i, fGe_i, fMin_i, fIsN_n, fNotN_n, fLen_lst, fLen_tup, fTuple_lst, fTuple_tup, non_non, non_bl, non_int, non_str, non_tup, non_lst, non_ins, non_loc, truth_bl, truth_non, truth_int, truth_tup, truth_lst, fMod_i, fDiv_i, fMul_i, Int.reduceLT, Int.reduceNeg, Int.reducePow, Int.reduceLE, Nat.reduceLeDiff, or_true, true_or, and_self, and_true, true_and, List.append_nil, List.length_cons, List.length_nil, Nat.reduceAdd, Nat.zero_add, fEq_ii, fNe_ii, beq_self_eq_true, decide_true, decide_false, Int.reduceBEq, Int.reduceBNe, String.reduceBEq, beq_lit, Bool.true_and, Bool.false_and, Bool.and_true, Bool.and_false, Bool.true_or, Bool.or_true, Bool.false_or, Bool.or_false, Bool.or_self, Bool.bne_true, Bool.bne_false, bne_self_eq_false, Option.isSome_some, Option.isSome_none, c]
  obtain ⟨t', e2', e3', hloop⟩ := loop ns 0 (some (.scr (ns.map U.int))) 0 none none (by omega)
  have hc := comp_scope (i := 3) (mt := NK.tYes) (me := eCB fAbs (aCons (eCB fInt (aCons (eVar 3) aNil)) aNil)) (mi := iSeq (eVar 0)) (env := [some (.scr (ns.map U.int)), some (.int t'), e2', e3']) (st := []) (g := fun _ => True)
    absU (fun _ => true) (us := ns.map U.int) (by simp only [iSeq, sSeq, sIf, sAsg, sRet, eCB, eVar, eC, aCons, aNil, ob, List.getElem?_cons_zero, List.getElem?_cons_succ, src]) (fun _ => True.intro) (by simp; omega)
    (fun u hu acc => by
      obtain ⟨n, _, rfl⟩ := List.mem_map.mp hu
      refine ⟨rfl, fun _ => ?_⟩
      simp (maxDischargeDepth := 8) -implicitDefEqProofs only [sSeq, sIf, sAsg, sRet, sRetN, sDrop, sSetIx, sNext, sCont, sBrk, NK.sFld, NK.sDPut, NK.tAnd, NK.tOr, NK.tNot, NK.tTru, NK.tB, eOp, eUn, eCB, eIf, eAnd, eOr, eNot, eVar, eC, aCons, aNil, eTup, eChain, eMeth, eBM, eFld, eCall, eIsi, sPar, sPar3, eDInT, eDGetT, sDPutT, keyT2, keyU, gN, ob, xb, NK.os, NK.xs, nb, rb, kb, eb, List.getElem?_cons_zero, List.getElem?_cons_succ, List.set_cons_zero, List.set_cons_succ, ↓reduceIte, Bool.false_eq_true, Bool.not_true, Bool.not_false, fAdd_i, fSub_i, fNeg_i, fInt_i, fAbs_i, fLt_i, fLe_i, fGt_i, fGe_i, fMin_i, fIsN_n, fNotN_n, fLen_lst, fLen_tup, fTuple_lst, fTuple_tup, non_non, non_bl, non_int, non_str, non_tup, non_lst, non_ins, non_loc, truth_bl, truth_non, truth_int, truth_tup, truth_lst, fMod_i, fDiv_i, fMul_i, Int.reduceLT, Int.reduceNeg, Int.reducePow, Int.reduceLE, Nat.reduceLeDiff, or_true, true_or, and_self, and_true, true_and, List.append_nil, List.length_cons, List.length_nil, Nat.reduceAdd, Nat.zero_add, fEq_ii, fNe_ii, beq_self_eq_true, decide_true, decide_false, Int.reduceBEq, Int.reduceBNe, String.reduceBEq, beq_lit, Bool.true_and, Bool.false_and, Bool.and_true, Bool.and_false, Bool.true_or, Bool.or_true, Bool.false_or, Bool.or_false, Bool.or_self, Bool.bne_true, Bool.bne_false, bne_self_eq_false, Option.isSome_some, Option.isSome_none, absU]) (by
      refine underL_all fun u hu => ?_
      obtain ⟨w, hw, rfl⟩ := List.mem_map.mp hu
      obtain ⟨n, _, rfl⟩ := List.mem_map.mp (List.mem_filter.mp hw).1
      rfl)
  rw [abs_map] at hc
  refine ⟨hob (ns.map fun i => if i < 0 then -i else i) 0 0 t', ⟨_, _, _, _, rfl, by decide, by decide⟩, ?_⟩
  show runF 4 b_u_law_hand [.scr (ns.map U.int)] [] = _
  refine run_ret (env := [some (.scr (ns.map U.int)), none, none, none]) rfl ?_
  unfold b_u_law_hand
  simp (maxDischargeDepth := 8) -implicitDefEqProofs only [sSeq, sIf, sAsg, sRet, sRetN, sDrop, sSetIx, sNext, sCont, sBrk, NK.sFld, NK.sDPut, NK.tAnd, NK.tOr, NK.tNot, NK.tTru, NK.tB, eOp, eUn, eCB, eIf, eAnd, eOr, eNot, eVar, eC, aCons, aNil, eTup, eChain, eMeth, eBM, eFld, eCall, eIsi, sPar, sPar3, eDInT, eDGetT, sDPutT, keyT2, keyU, gN, ob, xb, NK.os, NK.xs, nb, rb, kb, eb, List.getElem?_cons_zero, List.getElem?_cons_succ, List.set_cons_zero, List.set_cons_succ, ↓reduceIte, Bool.false_eq_true, Bool.not_true, Bool.not_false, fAdd_i, fSub_i, fNeg_i, fInt_i, fAbs_i, fLt_i, fLe_i, fGt_i, fGe_i, fMin_i, fIsN_n, fNotN_n, fLen_lst, fLen_tup, fTuple_lst, fTuple_tup, non_non, non_bl, non_int, non_str, non_tup, non_lst, non_ins, non_loc, truth_bl, truth_non, truth_int, truth_tup, truth_lst, fMod_i, fDiv_i, fMul_i, Int.reduceLT, Int.reduceNeg, Int.reducePow, Int.reduceLE, Nat.reduceLeDiff, or_true, true_or, and_self, and_true, true_and, List.append_nil, List.length_cons, List.length_nil, Nat.reduceAdd, Nat.zero_add, fEq_ii, fNe_ii, beq_self_eq_true, decide_true, decide_false, Int.reduceBEq, Int.reduceBNe, String.reduceBEq, beq_lit, Bool.true_and, Bool.false_and, Bool.and_true, Bool.and_false, Bool.true_or, Bool.or_true, Bool.false_or, Bool.or_false, Bool.or_self, Bool.bne_true, Bool.bne_false, bne_self_eq_false, Option.isSome_some, Option.isSome_none, sFor, iEnumA, hloop, hc, eLst, Nat.reduceLeDiff]
  rfl
end G

set_option maxHeartbeats 4000000
namespace G
open PySem L2 NK
section
variable {S S1 : Sto} {env : NK.Env} {m m1 m2 m3 : ME} {x y z : U}
theorem mk1 {k n : Nat} {Gs : List Nat} (h1 : m1 env S = Out.ok x S) (hn : n = 1) (hs : okSh Gs [x] S = true) : eMkX k n Gs [] (aCons m1 aNil) env S = Out.ok (.exn k [x]) S := by
  subst hn
  simp only [eMkX, aCons, aNil, h1, ob, List.append_nil]
  exact if_pos ⟨rfl, hs⟩
theorem mk2 {k n : Nat} {Gs : List Nat} (h1 : m1 env S = Out.ok x S) (h2 : m2 env S = Out.ok y S) (hn : n = 2) (hs : okSh Gs [x, y] S = true) : eMkX k n Gs [] (aCons m1 (aCons m2 aNil)) env S = Out.ok (.exn k [x, y]) S := by
  subst hn
  simp only [eMkX, aCons, aNil, h1, h2, ob, List.append_nil]
  exact if_pos ⟨rfl, hs⟩
theorem mk3 {k n : Nat} {Gs : List Nat} (h1 : m1 env S = Out.ok x S) (h2 : m2 env S = Out.ok y S) (h3 : m3 env S = Out.ok z S) (hn : n = 3) (hs : okSh Gs [x, y, z] S = true) : eMkX k n Gs [] (aCons m1 (aCons m2 (aCons m3 aNil))) env S = Out.ok (.exn k [x, y, z]) S := by
  subst hn
  simp only [eMkX, aCons, aNil, h1, h2, h3, ob, List.append_nil]
  exact if_pos ⟨rfl, hs⟩
structure Th (u : U) : Prop where
  und : u.under 0 = true
  sh : ∀ st, shU u st = true
  ok : okU 11 u = true
theorem okA {us : List U} (h : Th x) : okSh [0] (x :: us) S = true := by
  simp [okSh, h.sh]
theorem okB {us : List U} (h : Th y) : okSh [1] (x :: y :: us) S = true := by
  simp [okSh, h.sh]
theorem ixn {i : Nat} {us : List U} (h0 : env[0]? = some (some (.lst us))) (h : us[i]? = some x) : eOp fIx (eVar 0) (eC (.int (i : Int))) env S = Out.ok x S :=
  op2 (S1 := S) (S2 := S) (v_at h0) rfl (fIx_lst (by rw [NK.atI_nat]; exact h))
theorem fldx {k j i : Nat} {ms us : List U} {w : U} (h0 : env[0]? = some (some (.lst ms))) (hi : ms[i]? = some (.exn k us)) (hj : us[j]? = some w) : eFldX k j (eOp fIx (eVar 0) (eC (.int (i : Int)))) env S = Out.ok w S := by
  unfold eFldX
  rw [ixn h0 hi, ob]
  dsimp only
  rw [if_pos rfl, hj]
theorem isx1 {k c : Nat} {us : List U} {i : Nat} (h0 : env[i]? = some (some (.exn k us))) (hk : k < 54) (hc : c ≠ 0) : eIsX (isT c) (eVar i) env S = Out.ok (.bl (k == c)) S := by
  unfold eIsX isT
  rw [v_at h0, ob]
  dsimp only
  rw [if_pos hk, beq_eq_false_iff_ne.mpr hc, Bool.or_false]
theorem isx0 {k : Nat} {us : List U} {i : Nat} (h0 : env[i]? = some (some (.exn k us))) (hk : k < 54) : eIsX (isT 0) (eVar i) env S = Out.ok (.bl true) S := by
  unfold eIsX isT
  rw [v_at h0, ob]
  dsimp only
  rw [if_pos hk, beq_self_eq_true, Bool.or_true]
theorem isxv {k : Nat} {us : List U} {i : Nat} (h0 : env[i]? = some (some (.exn k us))) (hk : k < 54) : eIsX isV (eVar i) env S = Out.ok (.bl true) S := by
  unfold eIsX isV
  rw [v_at h0, ob]
  dsimp only
  rw [if_pos hk]
end

def mn : List Nat := [2, 1, 1, 1, 1, 2, 1, 1, 2, 3, 1, 1, 3, 2, 1, 1, 2, 2, 2, 2, 1, 1, 1, 1, 2, 1, 1, 1, 2, 1, 1, 1, 1, 1, 1, 1, 1, 1, 1, 2, 1, 2, 1, 0, 2, 1, 2, 2, 2, 1, 1, 2, 1]
def madeL (ts : List U) : List U := (List.range 53).map fun k => U.exn (k + 1) (ts.take (mn.getD k 0))
def fldL (ts : List U) : List U := (List.range 53).map fun k => U.lst (ts.take (mn.getD k 0))
def kndL (k : Nat) : List U := (List.range 53).map fun j => U.bl (k == j + 1)
def madeX (x y z : U) : List U := [U.exn 1 [x, y], U.exn 2 [x], U.exn 3 [x], U.exn 4 [x], U.exn 5 [x], U.exn 6 [x, y], U.exn 7 [x], U.exn 8 [x], U.exn 9 [x, y], U.exn 10 [x, y, z], U.exn 11 [x], U.exn 12 [x], U.exn 13 [x, y, z], U.exn 14 [x, y], U.exn 15 [x], U.exn 16 [x], U.exn 17 [x, y], U.exn 18 [x, y], U.exn 19 [x, y], U.exn 20 [x, y], U.exn 21 [x], U.exn 22 [x], U.exn 23 [x], U.exn 24 [x], U.exn 25 [x, y], U.exn 26 [x], U.exn 27 [x], U.exn 28 [x], U.exn 29 [x, y], U.exn 30 [x], U.exn 31 [x], U.exn 32 [x], U.exn 33 [x], U.exn 34 [x], U.exn 35 [x], U.exn 36 [x], U.exn 37 [x], U.exn 38 [x], U.exn 39 [x], U.exn 40 [x, y], U.exn 41 [x], U.exn 42 [x, y], U.exn 43 [x], U.exn 44 [], U.exn 45 [x, y], U.exn 46 [x], U.exn 47 [x, y], U.exn 48 [x, y], U.exn 49 [x, y], U.exn 50 [x], U.exn 51 [x], U.exn 52 [x, y], U.exn 53 [x]]
theorem madeX_eq (x y z : U) : madeX x y z = madeL [x, y, z] := rfl
theorem made_len (ts : List U) : (madeL ts).length = 53 := by
  unfold madeL
  rw [List.length_map, List.length_range]
theorem made_und {x y z : U} (hx : Th x) (hy : Th y) (hz : Th z) : U.underL 0 (madeL [x, y, z]) = true := underL_all fun u hu => by
  obtain ⟨k, _, rfl⟩ := List.mem_map.mp hu
  show U.underL 0 (List.take _ [x, y, z]) = true
  refine underL_all fun w hw => ?_
  have hw2 := List.mem_of_mem_take hw
  simp only [List.mem_cons, List.not_mem_nil, or_false] at hw2
  rcases hw2 with rfl | rfl | rfl
  · exact hx.und
  · exact hy.und
  · exact hz.und
theorem fld_und {x y z : U} (hx : Th x) (hy : Th y) (hz : Th z) : U.underL 0 (fldL [x, y, z]) = true := underL_all fun u hu => by
  obtain ⟨k, _, rfl⟩ := List.mem_map.mp hu
  show U.underL 0 (List.take _ [x, y, z]) = true
  refine underL_all fun w hw => ?_
  have hw2 := List.mem_of_mem_take hw
  simp only [List.mem_cons, List.not_mem_nil, or_false] at hw2
  rcases hw2 with rfl | rfl | rfl
  · exact hx.und
  · exact hy.und
  · exact hz.und
theorem knd_und (k : Nat) : U.underL 0 (kndL k) = true := underL_all fun u hu => by
  obtain ⟨j, _, rfl⟩ := List.mem_map.mp hu
  rfl
theorem made_ok {x y z : U} (hx : Th x) (hy : Th y) (hz : Th z) (S : Sto) : m_u_law_made [.lst [x, y, z]] S = Out.ok (.lst (madeL [x, y, z])) S := by
  refine fs_same (n := 1) (mb := b_u_law_made) (env := [some (.lst [x, y, z])]) rfl ?_ (made_und hx hy hz)
  have i0 : eOp fIx (eVar 0) (eC (.int 0)) [some (.lst [x, y, z])] S = Out.ok x S := ixn (i := 0) rfl rfl
  have i1 : eOp fIx (eVar 0) (eC (.int 1)) [some (.lst [x, y, z])] S = Out.ok y S := ixn (i := 1) rfl rfl
  have i2 : eOp fIx (eVar 0) (eC (.int 2)) [some (.lst [x, y, z])] S = Out.ok z S := ixn (i := 2) rfl rfl
  have e0 : (eMkX 1 2 [0] [] (aCons (eOp fIx (eVar 0) (eC (.int 0))) (aCons (eOp fIx (eVar 0) (eC (.int 1))) aNil))) [some (.lst [x, y, z])] S = Out.ok (.exn 1 [x, y]) S := mk2 i0 i1 rfl (okA hx)
  have e1 : (eMkX 2 1 [] [] (aCons (eOp fIx (eVar 0) (eC (.int 0))) aNil)) [some (.lst [x, y, z])] S = Out.ok (.exn 2 [x]) S := mk1 i0 rfl rfl
  have e2 : (eMkX 3 1 [] [] (aCons (eOp fIx (eVar 0) (eC (.int 0))) aNil)) [some (.lst [x, y, z])] S = Out.ok (.exn 3 [x]) S := mk1 i0 rfl rfl
  have e3 : (eMkX 4 1 [] [] (aCons (eOp fIx (eVar 0) (eC (.int 0))) aNil)) [some (.lst [x, y, z])] S = Out.ok (.exn 4 [x]) S := mk1 i0 rfl rfl
  have e4 : (eMkX 5 1 [] [] (aCons (eOp fIx (eVar 0) (eC (.int 0))) aNil)) [some (.lst [x, y, z])] S = Out.ok (.exn 5 [x]) S := mk1 i0 rfl rfl
  have e5 : (eMkX 6 2 [0] [] (aCons (eOp fIx (eVar 0) (eC (.int 0))) (aCons (eOp fIx (eVar 0) (eC (.int 1))) aNil))) [some (.lst [x, y, z])] S = Out.ok (.exn 6 [x, y]) S := mk2 i0 i1 rfl (okA hx)
  have e6 : (eMkX 7 1 [] [] (aCons (eOp fIx (eVar 0) (eC (.int 0))) aNil)) [some (.lst [x, y, z])] S = Out.ok (.exn 7 [x]) S := mk1 i0 rfl rfl
  have e7 : (eMkX 8 1 [] [] (aCons (eOp fIx (eVar 0) (eC (.int 0))) aNil)) [some (.lst [x, y, z])] S = Out.ok (.exn 8 [x]) S := mk1 i0 rfl rfl
  have e8 : (eMkX 9 2 [] [] (aCons (eOp fIx (eVar 0) (eC (.int 0))) (aCons (eOp fIx (eVar 0) (eC (.int 1))) aNil))) [some (.lst [x, y, z])] S = Out.ok (.exn 9 [x, y]) S := mk2 i0 i1 rfl rfl
  have e9 : (eMkX 10 3 [] [] (aCons (eOp fIx (eVar 0) (eC (.int 0))) (aCons (eOp fIx (eVar 0) (eC (.int 1))) (aCons (eOp fIx (eVar 0) (eC (.int 2))) aNil)))) [some (.lst [x, y, z])] S = Out.ok (.exn 10 [x, y, z]) S := mk3 i0 i1 i2 rfl rfl
  have e10 : (eMkX 11 1 [] [] (aCons (eOp fIx (eVar 0) (eC (.int 0))) aNil)) [some (.lst [x, y, z])] S = Out.ok (.exn 11 [x]) S := mk1 i0 rfl rfl
  have e11 : (eMkX 12 1 [] [] (aCons (eOp fIx (eVar 0) (eC (.int 0))) aNil)) [some (.lst [x, y, z])] S = Out.ok (.exn 12 [x]) S := mk1 i0 rfl rfl
  have e12 : (eMkX 13 3 [0] [] (aCons (eOp fIx (eVar 0) (eC (.int 0))) (aCons (eOp fIx (eVar 0) (eC (.int 1))) (aCons (eOp fIx (eVar 0) (eC (.int 2))) aNil)))) [some (.lst [x, y, z])] S = Out.ok (.exn 13 [x, y, z]) S := mk3 i0 i1 i2 rfl (okA hx)
  have e13 : (eMkX 14 2 [] [] (aCons (eOp fIx (eVar 0) (eC (.int 0))) (aCons (eOp fIx (eVar 0) (eC (.int 1))) aNil))) [some (.lst [x, y, z])] S = Out.ok (.exn 14 [x, y]) S := mk2 i0 i1 rfl rfl
  have e14 : (eMkX 15 1 [] [] (aCons (eOp fIx (eVar 0) (eC (.int 0))) aNil)) [some (.lst [x, y, z])] S = Out.ok (.exn 15 [x]) S := mk1 i0 rfl rfl
  have e15 : (eMkX 16 1 [] [] (aCons (eOp fIx (eVar 0) (eC (.int 0))) aNil)) [some (.lst [x, y, z])] S = Out.ok (.exn 16 [x]) S := mk1 i0 rfl rfl
  have e16 : (eMkX 17 2 [1] [] (aCons (eOp fIx (eVar 0) (eC (.int 0))) (aCons (eOp fIx (eVar 0) (eC (.int 1))) aNil))) [some (.lst [x, y, z])] S = Out.ok (.exn 17 [x, y]) S := mk2 i0 i1 rfl (okB hy)
  have e17 : (eMkX 18 2 [] [] (aCons (eOp fIx (eVar 0) (eC (.int 0))) (aCons (eOp fIx (eVar 0) (eC (.int 1))) aNil))) [some (.lst [x, y, z])] S = Out.ok (.exn 18 [x, y]) S := mk2 i0 i1 rfl rfl
  have e18 : (eMkX 19 2 [] [] (aCons (eOp fIx (eVar 0) (eC (.int 0))) (aCons (eOp fIx (eVar 0) (eC (.int 1))) aNil))) [some (.lst [x, y, z])] S = Out.ok (.exn 19 [x, y]) S := mk2 i0 i1 rfl rfl
  have e19 : (eMkX 20 2 [] [] (aCons (eOp fIx (eVar 0) (eC (.int 0))) (aCons (eOp fIx (eVar 0) (eC (.int 1))) aNil))) [some (.lst [x, y, z])] S = Out.ok (.exn 20 [x, y]) S := mk2 i0 i1 rfl rfl
  have e20 : (eMkX 21 1 [] [] (aCons (eOp fIx (eVar 0) (eC (.int 0))) aNil)) [some (.lst [x, y, z])] S = Out.ok (.exn 21 [x]) S := mk1 i0 rfl rfl
  have e21 : (eMkX 22 1 [] [] (aCons (eOp fIx (eVar 0) (eC (.int 0))) aNil)) [some (.lst [x, y, z])] S = Out.ok (.exn 22 [x]) S := mk1 i0 rfl rfl
  have e22 : (eMkX 23 1 [] [] (aCons (eOp fIx (eVar 0) (eC (.int 0))) aNil)) [some (.lst [x, y, z])] S = Out.ok (.exn 23 [x]) S := mk1 i0 rfl rfl
  have e23 : (eMkX 24 1 [] [] (aCons (eOp fIx (eVar 0) (eC (.int 0))) aNil)) [some (.lst [x, y, z])] S = Out.ok (.exn 24 [x]) S := mk1 i0 rfl rfl
  have e24 : (eMkX 25 2 [] [] (aCons (eOp fIx (eVar 0) (eC (.int 0))) (aCons (eOp fIx (eVar 0) (eC (.int 1))) aNil))) [some (.lst [x, y, z])] S = Out.ok (.exn 25 [x, y]) S := mk2 i0 i1 rfl rfl
  have e25 : (eMkX 26 1 [] [] (aCons (eOp fIx (eVar 0) (eC (.int 0))) aNil)) [some (.lst [x, y, z])] S = Out.ok (.exn 26 [x]) S := mk1 i0 rfl rfl
  have e26 : (eMkX 27 1 [] [] (aCons (eOp fIx (eVar 0) (eC (.int 0))) aNil)) [some (.lst [x, y, z])] S = Out.ok (.exn 27 [x]) S := mk1 i0 rfl rfl
  have e27 : (eMkX 28 1 [] [] (aCons (eOp fIx (eVar 0) (eC (.int 0))) aNil)) [some (.lst [x, y, z])] S = Out.ok (.exn 28 [x]) S := mk1 i0 rfl rfl
  have e28 : (eMkX 29 2 [] [] (aCons (eOp fIx (eVar 0) (eC (.int 0))) (aCons (eOp fIx (eVar 0) (eC (.int 1))) aNil))) [some (.lst [x, y, z])] S = Out.ok (.exn 29 [x, y]) S := mk2 i0 i1 rfl rfl
  have e29 : (eMkX 30 1 [] [] (aCons (eOp fIx (eVar 0) (eC (.int 0))) aNil)) [some (.lst [x, y, z])] S = Out.ok (.exn 30 [x]) S := mk1 i0 rfl rfl
  have e30 : (eMkX 31 1 [] [] (aCons (eOp fIx (eVar 0) (eC (.int 0))) aNil)) [some (.lst [x, y, z])] S = Out.ok (.exn 31 [x]) S := mk1 i0 rfl rfl
  have e31 : (eMkX 32 1 [] [] (aCons (eOp fIx (eVar 0) (eC (.int 0))) aNil)) [some (.lst [x, y, z])] S = Out.ok (.exn 32 [x]) S := mk1 i0 rfl rfl
  have e32 : (eMkX 33 1 [] [] (aCons (eOp fIx (eVar 0) (eC (.int 0))) aNil)) [some (.lst [x, y, z])] S = Out.ok (.exn 33 [x]) S := mk1 i0 rfl rfl
  have e33 : (eMkX 34 1 [] [] (aCons (eOp fIx (eVar 0) (eC (.int 0))) aNil)) [some (.lst [x, y, z])] S = Out.ok (.exn 34 [x]) S := mk1 i0 rfl rfl
  have e34 : (eMkX 35 1 [] [] (aCons (eOp fIx (eVar 0) (eC (.int 0))) aNil)) [some (.lst [x, y, z])] S = Out.ok (.exn 35 [x]) S := mk1 i0 rfl rfl
  have e35 : (eMkX 36 1 [] [] (aCons (eOp fIx (eVar 0) (eC (.int 0))) aNil)) [some (.lst [x, y, z])] S = Out.ok (.exn 36 [x]) S := mk1 i0 rfl rfl
  have e36 : (eMkX 37 1 [] [] (aCons (eOp fIx (eVar 0) (eC (.int 0))) aNil)) [some (.lst [x, y, z])] S = Out.ok (.exn 37 [x]) S := mk1 i0 rfl rfl
  have e37 : (eMkX 38 1 [] [] (aCons (eOp fIx (eVar 0) (eC (.int 0))) aNil)) [some (.lst [x, y, z])] S = Out.ok (.exn 38 [x]) S := mk1 i0 rfl rfl
  have e38 : (eMkX 39 1 [] [] (aCons (eOp fIx (eVar 0) (eC (.int 0))) aNil)) [some (.lst [x, y, z])] S = Out.ok (.exn 39 [x]) S := mk1 i0 rfl rfl
  have e39 : (eMkX 40 2 [] [] (aCons (eOp fIx (eVar 0) (eC (.int 0))) (aCons (eOp fIx (eVar 0) (eC (.int 1))) aNil))) [some (.lst [x, y, z])] S = Out.ok (.exn 40 [x, y]) S := mk2 i0 i1 rfl rfl
  have e40 : (eMkX 41 1 [] [] (aCons (eOp fIx (eVar 0) (eC (.int 0))) aNil)) [some (.lst [x, y, z])] S = Out.ok (.exn 41 [x]) S := mk1 i0 rfl rfl
  have e41 : (eMkX 42 2 [] [] (aCons (eOp fIx (eVar 0) (eC (.int 0))) (aCons (eOp fIx (eVar 0) (eC (.int 1))) aNil))) [some (.lst [x, y, z])] S = Out.ok (.exn 42 [x, y]) S := mk2 i0 i1 rfl rfl
  have e42 : (eMkX 43 1 [] [] (aCons (eOp fIx (eVar 0) (eC (.int 0))) aNil)) [some (.lst [x, y, z])] S = Out.ok (.exn 43 [x]) S := mk1 i0 rfl rfl
  have e43 : (eMkX0 44) [some (.lst [x, y, z])] S = Out.ok (.exn 44 []) S := rfl
  have e44 : (eMkX 45 2 [0] [] (aCons (eOp fIx (eVar 0) (eC (.int 0))) (aCons (eOp fIx (eVar 0) (eC (.int 1))) aNil))) [some (.lst [x, y, z])] S = Out.ok (.exn 45 [x, y]) S := mk2 i0 i1 rfl (okA hx)
  have e45 : (eMkX 46 1 [] [] (aCons (eOp fIx (eVar 0) (eC (.int 0))) aNil)) [some (.lst [x, y, z])] S = Out.ok (.exn 46 [x]) S := mk1 i0 rfl rfl
  have e46 : (eMkX 47 2 [0] [] (aCons (eOp fIx (eVar 0) (eC (.int 0))) (aCons (eOp fIx (eVar 0) (eC (.int 1))) aNil))) [some (.lst [x, y, z])] S = Out.ok (.exn 47 [x, y]) S := mk2 i0 i1 rfl (okA hx)
  have e47 : (eMkX 48 2 [] [] (aCons (eOp fIx (eVar 0) (eC (.int 0))) (aCons (eOp fIx (eVar 0) (eC (.int 1))) aNil))) [some (.lst [x, y, z])] S = Out.ok (.exn 48 [x, y]) S := mk2 i0 i1 rfl rfl
  have e48 : (eMkX 49 2 [] [] (aCons (eOp fIx (eVar 0) (eC (.int 0))) (aCons (eOp fIx (eVar 0) (eC (.int 1))) aNil))) [some (.lst [x, y, z])] S = Out.ok (.exn 49 [x, y]) S := mk2 i0 i1 rfl rfl
  have e49 : (eMkX 50 1 [] [] (aCons (eOp fIx (eVar 0) (eC (.int 0))) aNil)) [some (.lst [x, y, z])] S = Out.ok (.exn 50 [x]) S := mk1 i0 rfl rfl
  have e50 : (eMkX 51 1 [] [] (aCons (eOp fIx (eVar 0) (eC (.int 0))) aNil)) [some (.lst [x, y, z])] S = Out.ok (.exn 51 [x]) S := mk1 i0 rfl rfl
  have e51 : (eMkX 52 2 [0] [] (aCons (eOp fIx (eVar 0) (eC (.int 0))) (aCons (eOp fIx (eVar 0) (eC (.int 1))) aNil))) [some (.lst [x, y, z])] S = Out.ok (.exn 52 [x, y]) S := mk2 i0 i1 rfl (okA hx)
  have e52 : (eMkX 53 1 [0] [] (aCons (eOp fIx (eVar 0) (eC (.int 0))) aNil)) [some (.lst [x, y, z])] S = Out.ok (.exn 53 [x]) S := mk1 i0 rfl (okA hx)
  unfold b_u_law_made
  rw [← madeX_eq]
  refine ret_ok (lit_drw (S' := S) (acN e0 (acN e1 (acN e2 (acN e3 (acN e4 (acN e5 (acN e6 (acN e7 (acN e8 (acN e9 (acN e10 (acN e11 (acN e12 (acN e13 (acN e14 (acN e15 (acN e16 (acN e17 (acN e18 (acN e19 (acN e20 (acN e21 (acN e22 (acN e23 (acN e24 (acN e25 (acN e26 (acN e27 (acN e28 (acN e29 (acN e30 (acN e31 (acN e32 (acN e33 (acN e34 (acN e35 (acN e36 (acN e37 (acN e38 (acN e39 (acN e40 (acN e41 (acN e42 (acN e43 (acN e44 (acN e45 (acN e46 (acN e47 (acN e48 (acN e49 (acN e50 (acN e51 (ac1 e52))))))))))))))))))))))))))))))))))))))))))))))))))))) (Old.refl _) (show 53 ≤ 1000 by decide) (by rw [madeX_eq]; exact made_und hx hy hz))
def fldX (x y z : U) : List U := [U.lst [x, y], U.lst [x], U.lst [x], U.lst [x], U.lst [x], U.lst [x, y], U.lst [x], U.lst [x], U.lst [x, y], U.lst [x, y, z], U.lst [x], U.lst [x], U.lst [x, y, z], U.lst [x, y], U.lst [x], U.lst [x], U.lst [x, y], U.lst [x, y], U.lst [x, y], U.lst [x, y], U.lst [x], U.lst [x], U.lst [x], U.lst [x], U.lst [x, y], U.lst [x], U.lst [x], U.lst [x], U.lst [x, y], U.lst [x], U.lst [x], U.lst [x], U.lst [x], U.lst [x], U.lst [x], U.lst [x], U.lst [x], U.lst [x], U.lst [x], U.lst [x, y], U.lst [x], U.lst [x, y], U.lst [x], U.lst [], U.lst [x, y], U.lst [x], U.lst [x, y], U.lst [x, y], U.lst [x, y], U.lst [x], U.lst [x], U.lst [x, y], U.lst [x]]
theorem fldX_eq (x y z : U) : fldX x y z = fldL [x, y, z] := rfl
theorem fields_ok {x y z : U} (hx : Th x) (hy : Th y) (hz : Th z) (S : Sto) : m_u_law_fields [.lst (madeL [x, y, z])] S = Out.ok (.lst (fldL [x, y, z])) S := by
  rw [← madeX_eq]
  refine fs_same (n := 1) (mb := b_u_law_fields) (env := [some (.lst (madeX x y z))]) rfl ?_ (fld_und hx hy hz)
  have g0_0 : (eFldX 1 0 (eOp fIx (eVar 0) (eC (.int 0)))) [some (.lst (madeX x y z))] S = Out.ok x S := fldx (i := 0) rfl rfl rfl
  have g0_1 : (eFldX 1 1 (eOp fIx (eVar 0) (eC (.int 0)))) [some (.lst (madeX x y z))] S = Out.ok y S := fldx (i := 0) rfl rfl rfl
  have e0 : (eScope (eLst (aCons (eFldX 1 0 (eOp fIx (eVar 0) (eC (.int 0)))) (aCons (eFldX 1 1 (eOp fIx (eVar 0) (eC (.int 0)))) aNil)))) [some (.lst (madeX x y z))] S = Out.ok (.lst [x, y]) S := lit_drw (S' := S) (acN g0_0 (ac1 g0_1)) (Old.refl _) (show 2 ≤ 1000 by decide) (by simp [U.underL, hx.und, hy.und])
  have g1_0 : (eFldX 2 0 (eOp fIx (eVar 0) (eC (.int 1)))) [some (.lst (madeX x y z))] S = Out.ok x S := fldx (i := 1) rfl rfl rfl
  have e1 : (eScope (eLst (aCons (eFldX 2 0 (eOp fIx (eVar 0) (eC (.int 1)))) aNil))) [some (.lst (madeX x y z))] S = Out.ok (.lst [x]) S := lit_drw (S' := S) (ac1 g1_0) (Old.refl _) (show 1 ≤ 1000 by decide) (by simp [U.underL, hx.und])
  have g2_0 : (eFldX 3 0 (eOp fIx (eVar 0) (eC (.int 2)))) [some (.lst (madeX x y z))] S = Out.ok x S := fldx (i := 2) rfl rfl rfl
  have e2 : (eScope (eLst (aCons (eFldX 3 0 (eOp fIx (eVar 0) (eC (.int 2)))) aNil))) [some (.lst (madeX x y z))] S = Out.ok (.lst [x]) S := lit_drw (S' := S) (ac1 g2_0) (Old.refl _) (show 1 ≤ 1000 by decide) (by simp [U.underL, hx.und])
  have g3_0 : (eFldX 4 0 (eOp fIx (eVar 0) (eC (.int 3)))) [some (.lst (madeX x y z))] S = Out.ok x S := fldx (i := 3) rfl rfl rfl
  have e3 : (eScope (eLst (aCons (eFldX 4 0 (eOp fIx (eVar 0) (eC (.int 3)))) aNil))) [some (.lst (madeX x y z))] S = Out.ok (.lst [x]) S := lit_drw (S' := S) (ac1 g3_0) (Old.refl _) (show 1 ≤ 1000 by decide) (by simp [U.underL, hx.und])
  have g4_0 : (eFldX 5 0 (eOp fIx (eVar 0) (eC (.int 4)))) [some (.lst (madeX x y z))] S = Out.ok x S := fldx (i := 4) rfl rfl rfl
  have e4 : (eScope (eLst (aCons (eFldX 5 0 (eOp fIx (eVar 0) (eC (.int 4)))) aNil))) [some (.lst (madeX x y z))] S = Out.ok (.lst [x]) S := lit_drw (S' := S) (ac1 g4_0) (Old.refl _) (show 1 ≤ 1000 by decide) (by simp [U.underL, hx.und])
  have g5_0 : (eFldX 6 0 (eOp fIx (eVar 0) (eC (.int 5)))) [some (.lst (madeX x y z))] S = Out.ok x S := fldx (i := 5) rfl rfl rfl
  have g5_1 : (eFldX 6 1 (eOp fIx (eVar 0) (eC (.int 5)))) [some (.lst (madeX x y z))] S = Out.ok y S := fldx (i := 5) rfl rfl rfl
  have e5 : (eScope (eLst (aCons (eFldX 6 0 (eOp fIx (eVar 0) (eC (.int 5)))) (aCons (eFldX 6 1 (eOp fIx (eVar 0) (eC (.int 5)))) aNil)))) [some (.lst (madeX x y z))] S = Out.ok (.lst [x, y]) S := lit_drw (S' := S) (acN g5_0 (ac1 g5_1)) (Old.refl _) (show 2 ≤ 1000 by decide) (by simp [U.underL, hx.und, hy.und])
  have g6_0 : (eFldX 7 0 (eOp fIx (eVar 0) (eC (.int 6)))) [some (.lst (madeX x y z))] S = Out.ok x S := fldx (i := 6) rfl rfl rfl
  have e6 : (eScope (eLst (aCons (eFldX 7 0 (eOp fIx (eVar 0) (eC (.int 6)))) aNil))) [some (.lst (madeX x y z))] S = Out.ok (.lst [x]) S := lit_drw (S' := S) (ac1 g6_0) (Old.refl _) (show 1 ≤ 1000 by decide) (by simp [U.underL, hx.und])
  have g7_0 : (eFldX 8 0 (eOp fIx (eVar 0) (eC (.int 7)))) [some (.lst (madeX x y z))] S = Out.ok x S := fldx (i := 7) rfl rfl rfl
  have e7 : (eScope (eLst (aCons (eFldX 8 0 (eOp fIx (eVar 0) (eC (.int 7)))) aNil))) [some (.lst (madeX x y z))] S = Out.ok (.lst [x]) S := lit_drw (S' := S) (ac1 g7_0) (Old.refl _) (show 1 ≤ 1000 by decide) (by simp [U.underL, hx.und])
  have g8_0 : (eFldX 9 0 (eOp fIx (eVar 0) (eC (.int 8)))) [some (.lst (madeX x y z))] S = Out.ok x S := fldx (i := 8) rfl rfl rfl
  have g8_1 : (eFldX 9 1 (eOp fIx (eVar 0) (eC (.int 8)))) [some (.lst (madeX x y z))] S = Out.ok y S := fldx (i := 8) rfl rfl rfl
  have e8 : (eScope (eLst (aCons (eFldX 9 0 (eOp fIx (eVar 0) (eC (.int 8)))) (aCons (eFldX 9 1 (eOp fIx (eVar 0) (eC (.int 8)))) aNil)))) [some (.lst (madeX x y z))] S = Out.ok (.lst [x, y]) S := lit_drw (S' := S) (acN g8_0 (ac1 g8_1)) (Old.refl _) (show 2 ≤ 1000 by decide) (by simp [U.underL, hx.und, hy.und])
  have g9_0 : (eFldX 10 0 (eOp fIx (eVar 0) (eC (.int 9)))) [some (.lst (madeX x y z))] S = Out.ok x S := fldx (i := 9) rfl rfl rfl
  have g9_1 : (eFldX 10 1 (eOp fIx (eVar 0) (eC (.int 9)))) [some (.lst (madeX x y z))] S = Out.ok y S := fldx (i := 9) rfl rfl rfl
  have g9_2 : (eFldX 10 2 (eOp fIx (eVar 0) (eC (.int 9)))) [some (.lst (madeX x y z))] S = Out.ok z S := fldx (i := 9) rfl rfl rfl
  have e9 : (eScope (eLst (aCons (eFldX 10 0 (eOp fIx (eVar 0) (eC (.int 9)))) (aCons (eFldX 10 1 (eOp fIx (eVar 0) (eC (.int 9)))) (aCons (eFldX 10 2 (eOp fIx (eVar 0) (eC (.int 9)))) aNil))))) [some (.lst (madeX x y z))] S = Out.ok (.lst [x, y, z]) S := lit_drw (S' := S) (acN g9_0 (acN g9_1 (ac1 g9_2))) (Old.refl _) (show 3 ≤ 1000 by decide) (by simp [U.underL, hx.und, hy.und, hz.und])
  have g10_0 : (eFldX 11 0 (eOp fIx (eVar 0) (eC (.int 10)))) [some (.lst (madeX x y z))] S = Out.ok x S := fldx (i := 10) rfl rfl rfl
  have e10 : (eScope (eLst (aCons (eFldX 11 0 (eOp fIx (eVar 0) (eC (.int 10)))) aNil))) [some (.lst (madeX x y z))] S = Out.ok (.lst [x]) S := lit_drw (S' := S) (ac1 g10_0) (Old.refl _) (show 1 ≤ 1000 by decide) (by simp [U.underL, hx.und])
  have g11_0 : (eFldX 12 0 (eOp fIx (eVar 0) (eC (.int 11)))) [some (.lst (madeX x y z))] S = Out.ok x S := fldx (i := 11) rfl rfl rfl
  have e11 : (eScope (eLst (aCons (eFldX 12 0 (eOp fIx (eVar 0) (eC (.int 11)))) aNil))) [some (.lst (madeX x y z))] S = Out.ok (.lst [x]) S := lit_drw (S' := S) (ac1 g11_0) (Old.refl _) (show 1 ≤ 1000 by decide) (by simp [U.underL, hx.und])
  have g12_0 : (eFldX 13 0 (eOp fIx (eVar 0) (eC (.int 12)))) [some (.lst (madeX x y z))] S = Out.ok x S := fldx (i := 12) rfl rfl rfl
  have g12_1 : (eFldX 13 1 (eOp fIx (eVar 0) (eC (.int 12)))) [some (.lst (madeX x y z))] S = Out.ok y S := fldx (i := 12) rfl rfl rfl
  have g12_2 : (eFldX 13 2 (eOp fIx (eVar 0) (eC (.int 12)))) [some (.lst (madeX x y z))] S = Out.ok z S := fldx (i := 12) rfl rfl rfl
  have e12 : (eScope (eLst (aCons (eFldX 13 0 (eOp fIx (eVar 0) (eC (.int 12)))) (aCons (eFldX 13 1 (eOp fIx (eVar 0) (eC (.int 12)))) (aCons (eFldX 13 2 (eOp fIx (eVar 0) (eC (.int 12)))) aNil))))) [some (.lst (madeX x y z))] S = Out.ok (.lst [x, y, z]) S := lit_drw (S' := S) (acN g12_0 (acN g12_1 (ac1 g12_2))) (Old.refl _) (show 3 ≤ 1000 by decide) (by simp [U.underL, hx.und, hy.und, hz.und])
  have g13_0 : (eFldX 14 0 (eOp fIx (eVar 0) (eC (.int 13)))) [some (.lst (madeX x y z))] S = Out.ok x S := fldx (i := 13) rfl rfl rfl
  have g13_1 : (eFldX 14 1 (eOp fIx (eVar 0) (eC (.int 13)))) [some (.lst (madeX x y z))] S = Out.ok y S := fldx (i := 13) rfl rfl rfl
  have e13 : (eScope (eLst (aCons (eFldX 14 0 (eOp fIx (eVar 0) (eC (.int 13)))) (aCons (eFldX 14 1 (eOp fIx (eVar 0) (eC (.int 13)))) aNil)))) [some (.lst (madeX x y z))] S = Out.ok (.lst [x, y]) S := lit_drw (S' := S) (acN g13_0 (ac1 g13_1)) (Old.refl _) (show 2 ≤ 1000 by decide) (by simp [U.underL, hx.und, hy.und])
  have g14_0 : (eFldX 15 0 (eOp fIx (eVar 0) (eC (.int 14)))) [some (.lst (madeX x y z))] S = Out.ok x S := fldx (i := 14) rfl rfl rfl
  have e14 : (eScope (eLst (aCons (eFldX 15 0 (eOp fIx (eVar 0) (eC (.int 14)))) aNil))) [some (.lst (madeX x y z))] S = Out.ok (.lst [x]) S := lit_drw (S' := S) (ac1 g14_0) (Old.refl _) (show 1 ≤ 1000 by decide) (by simp [U.underL, hx.und])
  have g15_0 : (eFldX 16 0 (eOp fIx (eVar 0) (eC (.int 15)))) [some (.lst (madeX x y z))] S = Out.ok x S := fldx (i := 15) rfl rfl rfl
  have e15 : (eScope (eLst (aCons (eFldX 16 0 (eOp fIx (eVar 0) (eC (.int 15)))) aNil))) [some (.lst (madeX x y z))] S = Out.ok (.lst [x]) S := lit_drw (S' := S) (ac1 g15_0) (Old.refl _) (show 1 ≤ 1000 by decide) (by simp [U.underL, hx.und])
  have g16_0 : (eFldX 17 0 (eOp fIx (eVar 0) (eC (.int 16)))) [some (.lst (madeX x y z))] S = Out.ok x S := fldx (i := 16) rfl rfl rfl
  have g16_1 : (eFldX 17 1 (eOp fIx (eVar 0) (eC (.int 16)))) [some (.lst (madeX x y z))] S = Out.ok y S := fldx (i := 16) rfl rfl rfl
  have e16 : (eScope (eLst (aCons (eFldX 17 0 (eOp fIx (eVar 0) (eC (.int 16)))) (aCons (eFldX 17 1 (eOp fIx (eVar 0) (eC (.int 16)))) aNil)))) [some (.lst (madeX x y z))] S = Out.ok (.lst [x, y]) S := lit_drw (S' := S) (acN g16_0 (ac1 g16_1)) (Old.refl _) (show 2 ≤ 1000 by decide) (by simp [U.underL, hx.und, hy.und])
  have g17_0 : (eFldX 18 0 (eOp fIx (eVar 0) (eC (.int 17)))) [some (.lst (madeX x y z))] S = Out.ok x S := fldx (i := 17) rfl rfl rfl
  have g17_1 : (eFldX 18 1 (eOp fIx (eVar 0) (eC (.int 17)))) [some (.lst (madeX x y z))] S = Out.ok y S := fldx (i := 17) rfl rfl rfl
  have e17 : (eScope (eLst (aCons (eFldX 18 0 (eOp fIx (eVar 0) (eC (.int 17)))) (aCons (eFldX 18 1 (eOp fIx (eVar 0) (eC (.int 17)))) aNil)))) [some (.lst (madeX x y z))] S = Out.ok (.lst [x, y]) S := lit_drw (S' := S) (acN g17_0 (ac1 g17_1)) (Old.refl _) (show 2 ≤ 1000 by decide) (by simp [U.underL, hx.und, hy.und])
  have g18_0 : (eFldX 19 0 (eOp fIx (eVar 0) (eC (.int 18)))) [some (.lst (madeX x y z))] S = Out.ok x S := fldx (i := 18) rfl rfl rfl
  have g18_1 : (eFldX 19 1 (eOp fIx (eVar 0) (eC (.int 18)))) [some (.lst (madeX x y z))] S = Out.ok y S := fldx (i := 18) rfl rfl rfl
  have e18 : (eScope (eLst (aCons (eFldX 19 0 (eOp fIx (eVar 0) (eC (.int 18)))) (aCons (eFldX 19 1 (eOp fIx (eVar 0) (eC (.int 18)))) aNil)))) [some (.lst (madeX x y z))] S = Out.ok (.lst [x, y]) S := lit_drw (S' := S) (acN g18_0 (ac1 g18_1)) (Old.refl _) (show 2 ≤ 1000 by decide) (by simp [U.underL, hx.und, hy.und])
  have g19_0 : (eFldX 20 0 (eOp fIx (eVar 0) (eC (.int 19)))) [some (.lst (madeX x y z))] S = Out.ok x S := fldx (i := 19) rfl rfl rfl
  have g19_1 : (eFldX 20 1 (eOp fIx (eVar 0) (eC (.int 19)))) [some (.lst (madeX x y z))] S = Out.ok y S := fldx (i := 19) rfl rfl rfl
  have e19 : (eScope (eLst (aCons (eFldX 20 0 (eOp fIx (eVar 0) (eC (.int 19)))) (aCons (eFldX 20 1 (eOp fIx (eVar 0) (eC (.int 19)))) aNil)))) [some (.lst (madeX x y z))] S = Out.ok (.lst [x, y]) S := lit_drw (S' := S) (acN g19_0 (ac1 g19_1)) (Old.refl _) (show 2 ≤ 1000 by decide) (by simp [U.underL, hx.und, hy.und])
  have g20_0 : (eFldX 21 0 (eOp fIx (eVar 0) (eC (.int 20)))) [some (.lst (madeX x y z))] S = Out.ok x S := fldx (i := 20) rfl rfl rfl
  have e20 : (eScope (eLst (aCons (eFldX 21 0 (eOp fIx (eVar 0) (eC (.int 20)))) aNil))) [some (.lst (madeX x y z))] S = Out.ok (.lst [x]) S := lit_drw (S' := S) (ac1 g20_0) (Old.refl _) (show 1 ≤ 1000 by decide) (by simp [U.underL, hx.und])
  have g21_0 : (eFldX 22 0 (eOp fIx (eVar 0) (eC (.int 21)))) [some (.lst (madeX x y z))] S = Out.ok x S := fldx (i := 21) rfl rfl rfl
  have e21 : (eScope (eLst (aCons (eFldX 22 0 (eOp fIx (eVar 0) (eC (.int 21)))) aNil))) [some (.lst (madeX x y z))] S = Out.ok (.lst [x]) S := lit_drw (S' := S) (ac1 g21_0) (Old.refl _) (show 1 ≤ 1000 by decide) (by simp [U.underL, hx.und])
  have g22_0 : (eFldX 23 0 (eOp fIx (eVar 0) (eC (.int 22)))) [some (.lst (madeX x y z))] S = Out.ok x S := fldx (i := 22) rfl rfl rfl
  have e22 : (eScope (eLst (aCons (eFldX 23 0 (eOp fIx (eVar 0) (eC (.int 22)))) aNil))) [some (.lst (madeX x y z))] S = Out.ok (.lst [x]) S := lit_drw (S' := S) (ac1 g22_0) (Old.refl _) (show 1 ≤ 1000 by decide) (by simp [U.underL, hx.und])
  have g23_0 : (eFldX 24 0 (eOp fIx (eVar 0) (eC (.int 23)))) [some (.lst (madeX x y z))] S = Out.ok x S := fldx (i := 23) rfl rfl rfl
  have e23 : (eScope (eLst (aCons (eFldX 24 0 (eOp fIx (eVar 0) (eC (.int 23)))) aNil))) [some (.lst (madeX x y z))] S = Out.ok (.lst [x]) S := lit_drw (S' := S) (ac1 g23_0) (Old.refl _) (show 1 ≤ 1000 by decide) (by simp [U.underL, hx.und])
  have g24_0 : (eFldX 25 0 (eOp fIx (eVar 0) (eC (.int 24)))) [some (.lst (madeX x y z))] S = Out.ok x S := fldx (i := 24) rfl rfl rfl
  have g24_1 : (eFldX 25 1 (eOp fIx (eVar 0) (eC (.int 24)))) [some (.lst (madeX x y z))] S = Out.ok y S := fldx (i := 24) rfl rfl rfl
  have e24 : (eScope (eLst (aCons (eFldX 25 0 (eOp fIx (eVar 0) (eC (.int 24)))) (aCons (eFldX 25 1 (eOp fIx (eVar 0) (eC (.int 24)))) aNil)))) [some (.lst (madeX x y z))] S = Out.ok (.lst [x, y]) S := lit_drw (S' := S) (acN g24_0 (ac1 g24_1)) (Old.refl _) (show 2 ≤ 1000 by decide) (by simp [U.underL, hx.und, hy.und])
  have g25_0 : (eFldX 26 0 (eOp fIx (eVar 0) (eC (.int 25)))) [some (.lst (madeX x y z))] S = Out.ok x S := fldx (i := 25) rfl rfl rfl
  have e25 : (eScope (eLst (aCons (eFldX 26 0 (eOp fIx (eVar 0) (eC (.int 25)))) aNil))) [some (.lst (madeX x y z))] S = Out.ok (.lst [x]) S := lit_drw (S' := S) (ac1 g25_0) (Old.refl _) (show 1 ≤ 1000 by decide) (by simp [U.underL, hx.und])
  have g26_0 : (eFldX 27 0 (eOp fIx (eVar 0) (eC (.int 26)))) [some (.lst (madeX x y z))] S = Out.ok x S := fldx (i := 26) rfl rfl rfl
  have e26 : (eScope (eLst (aCons (eFldX 27 0 (eOp fIx (eVar 0) (eC (.int 26)))) aNil))) [some (.lst (madeX x y z))] S = Out.ok (.lst [x]) S := lit_drw (S' := S) (ac1 g26_0) (Old.refl _) (show 1 ≤ 1000 by decide) (by simp [U.underL, hx.und])
  have g27_0 : (eFldX 28 0 (eOp fIx (eVar 0) (eC (.int 27)))) [some (.lst (madeX x y z))] S = Out.ok x S := fldx (i := 27) rfl rfl rfl
  have e27 : (eScope (eLst (aCons (eFldX 28 0 (eOp fIx (eVar 0) (eC (.int 27)))) aNil))) [some (.lst (madeX x y z))] S = Out.ok (.lst [x]) S := lit_drw (S' := S) (ac1 g27_0) (Old.refl _) (show 1 ≤ 1000 by decide) (by simp [U.underL, hx.und])
  have g28_0 : (eFldX 29 0 (eOp fIx (eVar 0) (eC (.int 28)))) [some (.lst (madeX x y z))] S = Out.ok x S := fldx (i := 28) rfl rfl rfl
  have g28_1 : (eFldX 29 1 (eOp fIx (eVar 0) (eC (.int 28)))) [some (.lst (madeX x y z))] S = Out.ok y S := fldx (i := 28) rfl rfl rfl
  have e28 : (eScope (eLst (aCons (eFldX 29 0 (eOp fIx (eVar 0) (eC (.int 28)))) (aCons (eFldX 29 1 (eOp fIx (eVar 0) (eC (.int 28)))) aNil)))) [some (.lst (madeX x y z))] S = Out.ok (.lst [x, y]) S := lit_drw (S' := S) (acN g28_0 (ac1 g28_1)) (Old.refl _) (show 2 ≤ 1000 by decide) (by simp [U.underL, hx.und, hy.und])
  have g29_0 : (eFldX 30 0 (eOp fIx (eVar 0) (eC (.int 29)))) [some (.lst (madeX x y z))] S = Out.ok x S := fldx (i := 29) rfl rfl rfl
  have e29 : (eScope (eLst (aCons (eFldX 30 0 (eOp fIx (eVar 0) (eC (.int 29)))) aNil))) [some (.lst (madeX x y z))] S = Out.ok (.lst [x]) S := lit_drw (S' := S) (ac1 g29_0) (Old.refl _) (show 1 ≤ 1000 by decide) (by simp [U.underL, hx.und])
  have g30_0 : (eFldX 31 0 (eOp fIx (eVar 0) (eC (.int 30)))) [some (.lst (madeX x y z))] S = Out.ok x S := fldx (i := 30) rfl rfl rfl
  have e30 : (eScope (eLst (aCons (eFldX 31 0 (eOp fIx (eVar 0) (eC (.int 30)))) aNil))) [some (.lst (madeX x y z))] S = Out.ok (.lst [x]) S := lit_drw (S' := S) (ac1 g30_0) (Old.refl _) (show 1 ≤ 1000 by decide) (by simp [U.underL, hx.und])
  have g31_0 : (eFldX 32 0 (eOp fIx (eVar 0) (eC (.int 31)))) [some (.lst (madeX x y z))] S = Out.ok x S := fldx (i := 31) rfl rfl rfl
  have e31 : (eScope (eLst (aCons (eFldX 32 0 (eOp fIx (eVar 0) (eC (.int 31)))) aNil))) [some (.lst (madeX x y z))] S = Out.ok (.lst [x]) S := lit_drw (S' := S) (ac1 g31_0) (Old.refl _) (show 1 ≤ 1000 by decide) (by simp [U.underL, hx.und])
  have g32_0 : (eFldX 33 0 (eOp fIx (eVar 0) (eC (.int 32)))) [some (.lst (madeX x y z))] S = Out.ok x S := fldx (i := 32) rfl rfl rfl
  have e32 : (eScope (eLst (aCons (eFldX 33 0 (eOp fIx (eVar 0) (eC (.int 32)))) aNil))) [some (.lst (madeX x y z))] S = Out.ok (.lst [x]) S := lit_drw (S' := S) (ac1 g32_0) (Old.refl _) (show 1 ≤ 1000 by decide) (by simp [U.underL, hx.und])
  have g33_0 : (eFldX 34 0 (eOp fIx (eVar 0) (eC (.int 33)))) [some (.lst (madeX x y z))] S = Out.ok x S := fldx (i := 33) rfl rfl rfl
  have e33 : (eScope (eLst (aCons (eFldX 34 0 (eOp fIx (eVar 0) (eC (.int 33)))) aNil))) [some (.lst (madeX x y z))] S = Out.ok (.lst [x]) S := lit_drw (S' := S) (ac1 g33_0) (Old.refl _) (show 1 ≤ 1000 by decide) (by simp [U.underL, hx.und])
  have g34_0 : (eFldX 35 0 (eOp fIx (eVar 0) (eC (.int 34)))) [some (.lst (madeX x y z))] S = Out.ok x S := fldx (i := 34) rfl rfl rfl
  have e34 : (eScope (eLst (aCons (eFldX 35 0 (eOp fIx (eVar 0) (eC (.int 34)))) aNil))) [some (.lst (madeX x y z))] S = Out.ok (.lst [x]) S := lit_drw (S' := S) (ac1 g34_0) (Old.refl _) (show 1 ≤ 1000 by decide) (by simp [U.underL, hx.und])
  have g35_0 : (eFldX 36 0 (eOp fIx (eVar 0) (eC (.int 35)))) [some (.lst (madeX x y z))] S = Out.ok x S := fldx (i := 35) rfl rfl rfl
  have e35 : (eScope (eLst (aCons (eFldX 36 0 (eOp fIx (eVar 0) (eC (.int 35)))) aNil))) [some (.lst (madeX x y z))] S = Out.ok (.lst [x]) S := lit_drw (S' := S) (ac1 g35_0) (Old.refl _) (show 1 ≤ 1000 by decide) (by simp [U.underL, hx.und])
  have g36_0 : (eFldX 37 0 (eOp fIx (eVar 0) (eC (.int 36)))) [some (.lst (madeX x y z))] S = Out.ok x S := fldx (i := 36) rfl rfl rfl
  have e36 : (eScope (eLst (aCons (eFldX 37 0 (eOp fIx (eVar 0) (eC (.int 36)))) aNil))) [some (.lst (madeX x y z))] S = Out.ok (.lst [x]) S := lit_drw (S' := S) (ac1 g36_0) (Old.refl _) (show 1 ≤ 1000 by decide) (by simp [U.underL, hx.und])
  have g37_0 : (eFldX 38 0 (eOp fIx (eVar 0) (eC (.int 37)))) [some (.lst (madeX x y z))] S = Out.ok x S := fldx (i := 37) rfl rfl rfl
  have e37 : (eScope (eLst (aCons (eFldX 38 0 (eOp fIx (eVar 0) (eC (.int 37)))) aNil))) [some (.lst (madeX x y z))] S = Out.ok (.lst [x]) S := lit_drw (S' := S) (ac1 g37_0) (Old.refl _) (show 1 ≤ 1000 by decide) (by simp [U.underL, hx.und])
  have g38_0 : (eFldX 39 0 (eOp fIx (eVar 0) (eC (.int 38)))) [some (.lst (madeX x y z))] S = Out.ok x S := fldx (i := 38) rfl rfl rfl
  have e38 : (eScope (eLst (aCons (eFldX 39 0 (eOp fIx (eVar 0) (eC (.int 38)))) aNil))) [some (.lst (madeX x y z))] S = Out.ok (.lst [x]) S := lit_drw (S' := S) (ac1 g38_0) (Old.refl _) (show 1 ≤ 1000 by decide) (by simp [U.underL, hx.und])
  have g39_0 : (eFldX 40 0 (eOp fIx (eVar 0) (eC (.int 39)))) [some (.lst (madeX x y z))] S = Out.ok x S := fldx (i := 39) rfl rfl rfl
  have g39_1 : (eFldX 40 1 (eOp fIx (eVar 0) (eC (.int 39)))) [some (.lst (madeX x y z))] S = Out.ok y S := fldx (i := 39) rfl rfl rfl
  have e39 : (eScope (eLst (aCons (eFldX 40 0 (eOp fIx (eVar 0) (eC (.int 39)))) (aCons (eFldX 40 1 (eOp fIx (eVar 0) (eC (.int 39)))) aNil)))) [some (.lst (madeX x y z))] S = Out.ok (.lst [x, y]) S := lit_drw (S' := S) (acN g39_0 (ac1 g39_1)) (Old.refl _) (show 2 ≤ 1000 by decide) (by simp [U.underL, hx.und, hy.und])
  have g40_0 : (eFldX 41 0 (eOp fIx (eVar 0) (eC (.int 40)))) [some (.lst (madeX x y z))] S = Out.ok x S := fldx (i := 40) rfl rfl rfl
  have e40 : (eScope (eLst (aCons (eFldX 41 0 (eOp fIx (eVar 0) (eC (.int 40)))) aNil))) [some (.lst (madeX x y z))] S = Out.ok (.lst [x]) S := lit_drw (S' := S) (ac1 g40_0) (Old.refl _) (show 1 ≤ 1000 by decide) (by simp [U.underL, hx.und])
  have g41_0 : (eFldX 42 0 (eOp fIx (eVar 0) (eC (.int 41)))) [some (.lst (madeX x y z))] S = Out.ok x S := fldx (i := 41) rfl rfl rfl
  have g41_1 : (eFldX 42 1 (eOp fIx (eVar 0) (eC (.int 41)))) [some (.lst (madeX x y z))] S = Out.ok y S := fldx (i := 41) rfl rfl rfl
  have e41 : (eScope (eLst (aCons (eFldX 42 0 (eOp fIx (eVar 0) (eC (.int 41)))) (aCons (eFldX 42 1 (eOp fIx (eVar 0) (eC (.int 41)))) aNil)))) [some (.lst (madeX x y z))] S = Out.ok (.lst [x, y]) S := lit_drw (S' := S) (acN g41_0 (ac1 g41_1)) (Old.refl _) (show 2 ≤ 1000 by decide) (by simp [U.underL, hx.und, hy.und])
  have g42_0 : (eFldX 43 0 (eOp fIx (eVar 0) (eC (.int 42)))) [some (.lst (madeX x y z))] S = Out.ok x S := fldx (i := 42) rfl rfl rfl
  have e42 : (eScope (eLst (aCons (eFldX 43 0 (eOp fIx (eVar 0) (eC (.int 42)))) aNil))) [some (.lst (madeX x y z))] S = Out.ok (.lst [x]) S := lit_drw (S' := S) (ac1 g42_0) (Old.refl _) (show 1 ≤ 1000 by decide) (by simp [U.underL, hx.und])
  have e43 : (eScope (eLst aNil)) [some (.lst (madeX x y z))] S = Out.ok (.lst []) S := lit_drw (S' := S) (rfl) (Old.refl _) (show 0 ≤ 1000 by decide) (by simp [U.underL, hx.und])
  have g44_0 : (eFldX 45 0 (eOp fIx (eVar 0) (eC (.int 44)))) [some (.lst (madeX x y z))] S = Out.ok x S := fldx (i := 44) rfl rfl rfl
  have g44_1 : (eFldX 45 1 (eOp fIx (eVar 0) (eC (.int 44)))) [some (.lst (madeX x y z))] S = Out.ok y S := fldx (i := 44) rfl rfl rfl
  have e44 : (eScope (eLst (aCons (eFldX 45 0 (eOp fIx (eVar 0) (eC (.int 44)))) (aCons (eFldX 45 1 (eOp fIx (eVar 0) (eC (.int 44)))) aNil)))) [some (.lst (madeX x y z))] S = Out.ok (.lst [x, y]) S := lit_drw (S' := S) (acN g44_0 (ac1 g44_1)) (Old.refl _) (show 2 ≤ 1000 by decide) (by simp [U.underL, hx.und, hy.und])
  have g45_0 : (eFldX 46 0 (eOp fIx (eVar 0) (eC (.int 45)))) [some (.lst (madeX x y z))] S = Out.ok x S := fldx (i := 45) rfl rfl rfl
  have e45 : (eScope (eLst (aCons (eFldX 46 0 (eOp fIx (eVar 0) (eC (.int 45)))) aNil))) [some (.lst (madeX x y z))] S = Out.ok (.lst [x]) S := lit_drw (S' := S) (ac1 g45_0) (Old.refl _) (show 1 ≤ 1000 by decide) (by simp [U.underL, hx.und])
  have g46_0 : (eFldX 47 0 (eOp fIx (eVar 0) (eC (.int 46)))) [some (.lst (madeX x y z))] S = Out.ok x S := fldx (i := 46) rfl rfl rfl
  have g46_1 : (eFldX 47 1 (eOp fIx (eVar 0) (eC (.int 46)))) [some (.lst (madeX x y z))] S = Out.ok y S := fldx (i := 46) rfl rfl rfl
  have e46 : (eScope (eLst (aCons (eFldX 47 0 (eOp fIx (eVar 0) (eC (.int 46)))) (aCons (eFldX 47 1 (eOp fIx (eVar 0) (eC (.int 46)))) aNil)))) [some (.lst (madeX x y z))] S = Out.ok (.lst [x, y]) S := lit_drw (S' := S) (acN g46_0 (ac1 g46_1)) (Old.refl _) (show 2 ≤ 1000 by decide) (by simp [U.underL, hx.und, hy.und])
  have g47_0 : (eFldX 48 0 (eOp fIx (eVar 0) (eC (.int 47)))) [some (.lst (madeX x y z))] S = Out.ok x S := fldx (i := 47) rfl rfl rfl
  have g47_1 : (eFldX 48 1 (eOp fIx (eVar 0) (eC (.int 47)))) [some (.lst (madeX x y z))] S = Out.ok y S := fldx (i := 47) rfl rfl rfl
  have e47 : (eScope (eLst (aCons (eFldX 48 0 (eOp fIx (eVar 0) (eC (.int 47)))) (aCons (eFldX 48 1 (eOp fIx (eVar 0) (eC (.int 47)))) aNil)))) [some (.lst (madeX x y z))] S = Out.ok (.lst [x, y]) S := lit_drw (S' := S) (acN g47_0 (ac1 g47_1)) (Old.refl _) (show 2 ≤ 1000 by decide) (by simp [U.underL, hx.und, hy.und])
  have g48_0 : (eFldX 49 0 (eOp fIx (eVar 0) (eC (.int 48)))) [some (.lst (madeX x y z))] S = Out.ok x S := fldx (i := 48) rfl rfl rfl
  have g48_1 : (eFldX 49 1 (eOp fIx (eVar 0) (eC (.int 48)))) [some (.lst (madeX x y z))] S = Out.ok y S := fldx (i := 48) rfl rfl rfl
  have e48 : (eScope (eLst (aCons (eFldX 49 0 (eOp fIx (eVar 0) (eC (.int 48)))) (aCons (eFldX 49 1 (eOp fIx (eVar 0) (eC (.int 48)))) aNil)))) [some (.lst (madeX x y z))] S = Out.ok (.lst [x, y]) S := lit_drw (S' := S) (acN g48_0 (ac1 g48_1)) (Old.refl _) (show 2 ≤ 1000 by decide) (by simp [U.underL, hx.und, hy.und])
  have g49_0 : (eFldX 50 0 (eOp fIx (eVar 0) (eC (.int 49)))) [some (.lst (madeX x y z))] S = Out.ok x S := fldx (i := 49) rfl rfl rfl
  have e49 : (eScope (eLst (aCons (eFldX 50 0 (eOp fIx (eVar 0) (eC (.int 49)))) aNil))) [some (.lst (madeX x y z))] S = Out.ok (.lst [x]) S := lit_drw (S' := S) (ac1 g49_0) (Old.refl _) (show 1 ≤ 1000 by decide) (by simp [U.underL, hx.und])
  have g50_0 : (eFldX 51 0 (eOp fIx (eVar 0) (eC (.int 50)))) [some (.lst (madeX x y z))] S = Out.ok x S := fldx (i := 50) rfl rfl rfl
  have e50 : (eScope (eLst (aCons (eFldX 51 0 (eOp fIx (eVar 0) (eC (.int 50)))) aNil))) [some (.lst (madeX x y z))] S = Out.ok (.lst [x]) S := lit_drw (S' := S) (ac1 g50_0) (Old.refl _) (show 1 ≤ 1000 by decide) (by simp [U.underL, hx.und])
  have g51_0 : (eFldX 52 0 (eOp fIx (eVar 0) (eC (.int 51)))) [some (.lst (madeX x y z))] S = Out.ok x S := fldx (i := 51) rfl rfl rfl
  have g51_1 : (eFldX 52 1 (eOp fIx (eVar 0) (eC (.int 51)))) [some (.lst (madeX x y z))] S = Out.ok y S := fldx (i := 51) rfl rfl rfl
  have e51 : (eScope (eLst (aCons (eFldX 52 0 (eOp fIx (eVar 0) (eC (.int 51)))) (aCons (eFldX 52 1 (eOp fIx (eVar 0) (eC (.int 51)))) aNil)))) [some (.lst (madeX x y z))] S = Out.ok (.lst [x, y]) S := lit_drw (S' := S) (acN g51_0 (ac1 g51_1)) (Old.refl _) (show 2 ≤ 1000 by decide) (by simp [U.underL, hx.und, hy.und])
  have g52_0 : (eFldX 53 0 (eOp fIx (eVar 0) (eC (.int 52)))) [some (.lst (madeX x y z))] S = Out.ok x S := fldx (i := 52) rfl rfl rfl
  have e52 : (eScope (eLst (aCons (eFldX 53 0 (eOp fIx (eVar 0) (eC (.int 52)))) aNil))) [some (.lst (madeX x y z))] S = Out.ok (.lst [x]) S := lit_drw (S' := S) (ac1 g52_0) (Old.refl _) (show 1 ≤ 1000 by decide) (by simp [U.underL, hx.und])
  unfold b_u_law_fields
  rw [← fldX_eq]
  refine ret_ok (lit_drw (S' := S) (acN e0 (acN e1 (acN e2 (acN e3 (acN e4 (acN e5 (acN e6 (acN e7 (acN e8 (acN e9 (acN e10 (acN e11 (acN e12 (acN e13 (acN e14 (acN e15 (acN e16 (acN e17 (acN e18 (acN e19 (acN e20 (acN e21 (acN e22 (acN e23 (acN e24 (acN e25 (acN e26 (acN e27 (acN e28 (acN e29 (acN e30 (acN e31 (acN e32 (acN e33 (acN e34 (acN e35 (acN e36 (acN e37 (acN e38 (acN e39 (acN e40 (acN e41 (acN e42 (acN e43 (acN e44 (acN e45 (acN e46 (acN e47 (acN e48 (acN e49 (acN e50 (acN e51 (ac1 e52))))))))))))))))))))))))))))))))))))))))))))))))))))) (Old.refl _) (show 53 ≤ 1000 by decide) (by rw [fldX_eq]; exact fld_und hx hy hz))
def kndX (k : Nat) : List U := [U.bl (k == 1), U.bl (k == 2), U.bl (k == 3), U.bl (k == 4), U.bl (k == 5), U.bl (k == 6), U.bl (k == 7), U.bl (k == 8), U.bl (k == 9), U.bl (k == 10), U.bl (k == 11), U.bl (k == 12), U.bl (k == 13), U.bl (k == 14), U.bl (k == 15), U.bl (k == 16), U.bl (k == 17), U.bl (k == 18), U.bl (k == 19), U.bl (k == 20), U.bl (k == 21), U.bl (k == 22), U.bl (k == 23), U.bl (k == 24), U.bl (k == 25), U.bl (k == 26), U.bl (k == 27), U.bl (k == 28), U.bl (k == 29), U.bl (k == 30), U.bl (k == 31), U.bl (k == 32), U.bl (k == 33), U.bl (k == 34), U.bl (k == 35), U.bl (k == 36), U.bl (k == 37), U.bl (k == 38), U.bl (k == 39), U.bl (k == 40), U.bl (k == 41), U.bl (k == 42), U.bl (k == 43), U.bl (k == 44), U.bl (k == 45), U.bl (k == 46), U.bl (k == 47), U.bl (k == 48), U.bl (k == 49), U.bl (k == 50), U.bl (k == 51), U.bl (k == 52), U.bl (k == 53)]
theorem kndX_eq (k : Nat) : kndX k = kndL k := rfl
theorem kinds_ok {k : Nat} {us : List U} (hk : k < 54) (S : Sto) : m_u_law_kinds [.exn k us] S = Out.ok (.lst (kndL k)) S := by
  refine fs_same (n := 1) (mb := b_u_law_kinds) (env := [some (.exn k us)]) rfl ?_ (knd_und k)
  have e0 : (eIsX (isT 1) (eVar 0)) [some (.exn k us)] S = Out.ok (.bl (k == 1)) S := isx1 rfl hk (by decide)
  have e1 : (eIsX (isT 2) (eVar 0)) [some (.exn k us)] S = Out.ok (.bl (k == 2)) S := isx1 rfl hk (by decide)
  have e2 : (eIsX (isT 3) (eVar 0)) [some (.exn k us)] S = Out.ok (.bl (k == 3)) S := isx1 rfl hk (by decide)
  have e3 : (eIsX (isT 4) (eVar 0)) [some (.exn k us)] S = Out.ok (.bl (k == 4)) S := isx1 rfl hk (by decide)
  have e4 : (eIsX (isT 5) (eVar 0)) [some (.exn k us)] S = Out.ok (.bl (k == 5)) S := isx1 rfl hk (by decide)
  have e5 : (eIsX (isT 6) (eVar 0)) [some (.exn k us)] S = Out.ok (.bl (k == 6)) S := isx1 rfl hk (by decide)
  have e6 : (eIsX (isT 7) (eVar 0)) [some (.exn k us)] S = Out.ok (.bl (k == 7)) S := isx1 rfl hk (by decide)
  have e7 : (eIsX (isT 8) (eVar 0)) [some (.exn k us)] S = Out.ok (.bl (k == 8)) S := isx1 rfl hk (by decide)
  have e8 : (eIsX (isT 9) (eVar 0)) [some (.exn k us)] S = Out.ok (.bl (k == 9)) S := isx1 rfl hk (by decide)
  have e9 : (eIsX (isT 10) (eVar 0)) [some (.exn k us)] S = Out.ok (.bl (k == 10)) S := isx1 rfl hk (by decide)
  have e10 : (eIsX (isT 11) (eVar 0)) [some (.exn k us)] S = Out.ok (.bl (k == 11)) S := isx1 rfl hk (by decide)
  have e11 : (eIsX (isT 12) (eVar 0)) [some (.exn k us)] S = Out.ok (.bl (k == 12)) S := isx1 rfl hk (by decide)
  have e12 : (eIsX (isT 13) (eVar 0)) [some (.exn k us)] S = Out.ok (.bl (k == 13)) S := isx1 rfl hk (by decide)
  have e13 : (eIsX (isT 14) (eVar 0)) [some (.exn k us)] S = Out.ok (.bl (k == 14)) S := isx1 rfl hk (by decide)
  have e14 : (eIsX (isT 15) (eVar 0)) [some (.exn k us)] S = Out.ok (.bl (k == 15)) S := isx1 rfl hk (by decide)
  have e15 : (eIsX (isT 16) (eVar 0)) [some (.exn k us)] S = Out.ok (.bl (k == 16)) S := isx1 rfl hk (by decide)
  have e16 : (eIsX (isT 17) (eVar 0)) [some (.exn k us)] S = Out.ok (.bl (k == 17)) S := isx1 rfl hk (by decide)
  have e17 : (eIsX (isT 18) (eVar 0)) [some (.exn k us)] S = Out.ok (.bl (k == 18)) S := isx1 rfl hk (by decide)
  have e18 : (eIsX (isT 19) (eVar 0)) [some (.exn k us)] S = Out.ok (.bl (k == 19)) S := isx1 rfl hk (by decide)
  have e19 : (eIsX (isT 20) (eVar 0)) [some (.exn k us)] S = Out.ok (.bl (k == 20)) S := isx1 rfl hk (by decide)
  have e20 : (eIsX (isT 21) (eVar 0)) [some (.exn k us)] S = Out.ok (.bl (k == 21)) S := isx1 rfl hk (by decide)
  have e21 : (eIsX (isT 22) (eVar 0)) [some (.exn k us)] S = Out.ok (.bl (k == 22)) S := isx1 rfl hk (by decide)
  have e22 : (eIsX (isT 23) (eVar 0)) [some (.exn k us)] S = Out.ok (.bl (k == 23)) S := isx1 rfl hk (by decide)
  have e23 : (eIsX (isT 24) (eVar 0)) [some (.exn k us)] S = Out.ok (.bl (k == 24)) S := isx1 rfl hk (by decide)
  have e24 : (eIsX (isT 25) (eVar 0)) [some (.exn k us)] S = Out.ok (.bl (k == 25)) S := isx1 rfl hk (by decide)
  have e25 : (eIsX (isT 26) (eVar 0)) [some (.exn k us)] S = Out.ok (.bl (k == 26)) S := isx1 rfl hk (by decide)
  have e26 : (eIsX (isT 27) (eVar 0)) [some (.exn k us)] S = Out.ok (.bl (k == 27)) S := isx1 rfl hk (by decide)
  have e27 : (eIsX (isT 28) (eVar 0)) [some (.exn k us)] S = Out.ok (.bl (k == 28)) S := isx1 rfl hk (by decide)
  have e28 : (eIsX (isT 29) (eVar 0)) [some (.exn k us)] S = Out.ok (.bl (k == 29)) S := isx1 rfl hk (by decide)
  have e29 : (eIsX (isT 30) (eVar 0)) [some (.exn k us)] S = Out.ok (.bl (k == 30)) S := isx1 rfl hk (by decide)
  have e30 : (eIsX (isT 31) (eVar 0)) [some (.exn k us)] S = Out.ok (.bl (k == 31)) S := isx1 rfl hk (by decide)
  have e31 : (eIsX (isT 32) (eVar 0)) [some (.exn k us)] S = Out.ok (.bl (k == 32)) S := isx1 rfl hk (by decide)
  have e32 : (eIsX (isT 33) (eVar 0)) [some (.exn k us)] S = Out.ok (.bl (k == 33)) S := isx1 rfl hk (by decide)
  have e33 : (eIsX (isT 34) (eVar 0)) [some (.exn k us)] S = Out.ok (.bl (k == 34)) S := isx1 rfl hk (by decide)
  have e34 : (eIsX (isT 35) (eVar 0)) [some (.exn k us)] S = Out.ok (.bl (k == 35)) S := isx1 rfl hk (by decide)
  have e35 : (eIsX (isT 36) (eVar 0)) [some (.exn k us)] S = Out.ok (.bl (k == 36)) S := isx1 rfl hk (by decide)
  have e36 : (eIsX (isT 37) (eVar 0)) [some (.exn k us)] S = Out.ok (.bl (k == 37)) S := isx1 rfl hk (by decide)
  have e37 : (eIsX (isT 38) (eVar 0)) [some (.exn k us)] S = Out.ok (.bl (k == 38)) S := isx1 rfl hk (by decide)
  have e38 : (eIsX (isT 39) (eVar 0)) [some (.exn k us)] S = Out.ok (.bl (k == 39)) S := isx1 rfl hk (by decide)
  have e39 : (eIsX (isT 40) (eVar 0)) [some (.exn k us)] S = Out.ok (.bl (k == 40)) S := isx1 rfl hk (by decide)
  have e40 : (eIsX (isT 41) (eVar 0)) [some (.exn k us)] S = Out.ok (.bl (k == 41)) S := isx1 rfl hk (by decide)
  have e41 : (eIsX (isT 42) (eVar 0)) [some (.exn k us)] S = Out.ok (.bl (k == 42)) S := isx1 rfl hk (by decide)
  have e42 : (eIsX (isT 43) (eVar 0)) [some (.exn k us)] S = Out.ok (.bl (k == 43)) S := isx1 rfl hk (by decide)
  have e43 : (eIsX (isT 44) (eVar 0)) [some (.exn k us)] S = Out.ok (.bl (k == 44)) S := isx1 rfl hk (by decide)
  have e44 : (eIsX (isT 45) (eVar 0)) [some (.exn k us)] S = Out.ok (.bl (k == 45)) S := isx1 rfl hk (by decide)
  have e45 : (eIsX (isT 46) (eVar 0)) [some (.exn k us)] S = Out.ok (.bl (k == 46)) S := isx1 rfl hk (by decide)
  have e46 : (eIsX (isT 47) (eVar 0)) [some (.exn k us)] S = Out.ok (.bl (k == 47)) S := isx1 rfl hk (by decide)
  have e47 : (eIsX (isT 48) (eVar 0)) [some (.exn k us)] S = Out.ok (.bl (k == 48)) S := isx1 rfl hk (by decide)
  have e48 : (eIsX (isT 49) (eVar 0)) [some (.exn k us)] S = Out.ok (.bl (k == 49)) S := isx1 rfl hk (by decide)
  have e49 : (eIsX (isT 50) (eVar 0)) [some (.exn k us)] S = Out.ok (.bl (k == 50)) S := isx1 rfl hk (by decide)
  have e50 : (eIsX (isT 51) (eVar 0)) [some (.exn k us)] S = Out.ok (.bl (k == 51)) S := isx1 rfl hk (by decide)
  have e51 : (eIsX (isT 52) (eVar 0)) [some (.exn k us)] S = Out.ok (.bl (k == 52)) S := isx1 rfl hk (by decide)
  have e52 : (eIsX (isT 53) (eVar 0)) [some (.exn k us)] S = Out.ok (.bl (k == 53)) S := isx1 rfl hk (by decide)
  unfold b_u_law_kinds
  rw [← kndX_eq]
  refine ret_ok (lit_drw (S' := S) (acN e0 (acN e1 (acN e2 (acN e3 (acN e4 (acN e5 (acN e6 (acN e7 (acN e8 (acN e9 (acN e10 (acN e11 (acN e12 (acN e13 (acN e14 (acN e15 (acN e16 (acN e17 (acN e18 (acN e19 (acN e20 (acN e21 (acN e22 (acN e23 (acN e24 (acN e25 (acN e26 (acN e27 (acN e28 (acN e29 (acN e30 (acN e31 (acN e32 (acN e33 (acN e34 (acN e35 (acN e36 (acN e37 (acN e38 (acN e39 (acN e40 (acN e41 (acN e42 (acN e43 (acN e44 (acN e45 (acN e46 (acN e47 (acN e48 (acN e49 (acN e50 (acN e51 (ac1 e52))))))))))))))))))))))))))))))))))))))))))))))))))))) (Old.refl _) (show 53 ≤ 1000 by decide) (by rw [kndX_eq]; exact knd_und k))
end G

namespace G
open PySem L2 NK
section
variable {S S1 S' : Sto} {env : NK.Env} {m m1 m2 m3 : ME} {x y z : U}
theorem rngat {n : Nat} (h : m env S = Out.ok (.int (n : Nat)) S) (hn : n ≤ 10000) : NK.iRng1 (aCons m aNil) env S = Out.ok ⟨(List.range n).map fun (i : Nat) => U.int (i : Nat), fun _ => True⟩ S := by
  unfold NK.iRng1
  rw [ac1 h, ob]
  dsimp only
  rw [if_pos (by omega), Int.toNat_natCast]
  congr 3
  funext i
  rw [Int.zero_add]
theorem cut_upto {us : List U} {d : Nat} : cutU us none (some (d : Int)) = us.take d := by
  unfold cutU
  rw [HT.sIx_none, HT.sIx_nat, List.drop_zero, List.take_eq_take_iff]
  omega
theorem sl_upto {mh : ME} {us : List U} {d : Nat} (hm : m env S = Out.ok (.lst us) S) (hh : mh env S = Out.ok (.int (d : Int)) S) (hu : U.underL 0 (us.take d) = true) : eScope (eSl m none (some mh)) env S = Out.ok (.lst (us.take d)) S := by
  have e : eSl m none (some mh) env S = Out.ok (.loc (S.length + 0)) (S ++ [.lst (us.take d)]) := by
    unfold eSl
    rw [hm, ob]
    show ((mh env S).bind fun i s => _).bind _ = _
    rw [hh]
    show Out.ok (U.loc S.length) (S ++ [.lst (cutU us none (some (d : Int)))]) = _
    rw [cut_upto]
    rfl
  unfold eScope
  rw [e]
  exact sc_loc (j := 0) [.lst _] (Old.refl _) rfl hu
theorem ix_at {i j k : Nat} {us : List U} (h0 : env[i]? = some (some (.lst us))) (h1 : env[j]? = some (some (.int (k : Nat)))) (h : us[k]? = some x) : eOp fIx (eVar i) (eVar j) env S = Out.ok x S :=
  op2 (S1 := S) (S2 := S) (v_at h0) (v_at h1) (fIx_lst (by rw [NK.atI_nat]; exact h))
theorem ix_no {i : Nat} {k : Nat} {us : List U} (h0 : env[i]? = some (some (.lst us))) (h : us[k]? = some x) : eOp fIx (eVar i) (eC (.int (k : Nat))) env S = Out.ok x S :=
  op2 (S1 := S) (S2 := S) (v_at h0) rfl (fIx_lst (by rw [NK.atI_nat]; exact h))
theorem not_at {t : MT} {b : Bool} (h : t env S = Out.ok b S) : NK.tNot t env S = Out.ok (!b) S := by
  unfold NK.tNot
  rw [h]
  rfl
theorem par_ok {i j : Nat} {ma : MA} {u w : U} (h : ma env S = Out.ok [u, w] S1) : sPar i j ma env S = SO.next ((env.set i (some u)).set j (some w)) S1 := by
  unfold sPar
  rw [h]
  rfl
theorem mulL {us : List U} {k : Nat} (h1 : m1 env S = Out.ok (.lst us) S) (h2 : m2 env S = Out.ok (.int (k : Nat)) S) (hz : us.length * k ≤ 1000) (hk : k ≤ 1000) (hu : U.underL 0 (List.replicate k us).flatten = true) : eScope (eOp fMul m1 m2) env S = Out.ok (.lst (List.replicate k us).flatten) S := by
  have e : eOp fMul m1 m2 env S = Out.ok (.loc (S.length + 0)) (S ++ [.lst (List.replicate k us).flatten]) := op2 (S1 := S) (S2 := S) h1 h2 (by
    dsimp only [fMul, asLst]
    rw [Int.toNat_natCast, if_pos ⟨by omega, by omega, by omega⟩]
    rfl)
  unfold eScope
  rw [e]
  exact sc_loc (j := 0) [.lst _] (Old.refl _) rfl hu
end
theorem th_int {i : Int} (h : i.natAbs.log2 < 1920) : Th (.int i) := ⟨rfl, fun _ => decide_eq_true h, rfl⟩
theorem th_big {d : Int} (h0 : 0 ≤ d) (h1 : d < 10 ^ 31) : Th (.int (d - 10 ^ 30)) := th_int (by
  have h : (d - 10 ^ 30).natAbs < 2 ^ 1920 := Nat.lt_of_lt_of_le (show (d - 10 ^ 30).natAbs < 10 ^ 31 by omega) (by decide +kernel)
  by_cases hz : (d - 10 ^ 30).natAbs = 0
  · rw [hz]
    decide
  · exact (Nat.log2_lt hz).mpr h)
theorem th_small {i : Int} (h : i.natAbs < 1000) : Th (.int i) := th_int (by
  by_cases hz : i.natAbs = 0
  · rw [hz]
    decide
  · exact (Nat.log2_lt hz).mpr (Nat.lt_of_lt_of_le h (by decide +kernel)))
theorem th_a {u : U} (h : u ∈ [U.str "", U.str "row", U.str "a b", U.str "width", U.str "s"]) : Th u := by
  simp only [List.mem_cons, List.not_mem_nil, or_false] at h
  rcases h with rfl | rfl | rfl | rfl | rfl
  · exact ⟨rfl, fun st => (show shU (.str "") ([] : Sto) = true by decide +kernel), by decide +kernel⟩
  · exact ⟨rfl, fun st => (show shU (.str "row") ([] : Sto) = true by decide +kernel), by decide +kernel⟩
  · exact ⟨rfl, fun st => (show shU (.str "a b") ([] : Sto) = true by decide +kernel), by decide +kernel⟩
  · exact ⟨rfl, fun st => (show shU (.str "width") ([] : Sto) = true by decide +kernel), by decide +kernel⟩
  · exact ⟨rfl, fun st => (show shU (.str "s") ([] : Sto) = true by decide +kernel), by decide +kernel⟩
theorem th_b {u : U} (h : u ∈ [U.non, U.bl true, U.tup [], U.tup [.int 1, .str "a"], U.int 0, U.int (-1), U.tup [.str "a", .tup [.int 2, .int 3]]]) : Th u := by
  simp only [List.mem_cons, List.not_mem_nil, or_false] at h
  rcases h with rfl | rfl | rfl | rfl | rfl | rfl | rfl
  · exact ⟨rfl, fun _ => rfl, rfl⟩
  · exact ⟨rfl, fun _ => rfl, rfl⟩
  · exact ⟨rfl, fun st => (show shU (.tup []) ([] : Sto) = true by decide +kernel), by decide +kernel⟩
  · exact ⟨rfl, fun st => (show shU (.tup [.int 1, .str "a"]) ([] : Sto) = true by decide +kernel), by decide +kernel⟩
  · exact th_small (by decide)
  · exact th_small (by decide)
  · exact ⟨rfl, fun st => (show shU (.tup [.str "a", .tup [.int 2, .int 3]]) ([] : Sto) = true by decide +kernel), by decide +kernel⟩
theorem draw_v {h : Ob} {st : Sto} {env : NK.Env} {k : Int} {m : ME} (H : HOb h) (h0 : env[0]? = some (some (.loc 0))) (hm : m env (h :: st) = Out.ok (.int k) (h :: st)) (hk : 0 < k) (hk2 : k < 1000000000000000000000000000000000000000000000000000000000000) :
    ∃ d h', HOb h' ∧ 0 ≤ d ∧ d < k ∧ eCall 2 m_u_law_draw [] (aCons (eVar 0) (aCons m aNil)) env (h :: st) = Out.ok (.int d) (h' :: st) := by
  obtain ⟨d, h', H', d0, d1, e⟩ := draw_ok (st := st) H hk hk2
  exact ⟨d, h', H', d0, d1, call2 rfl (v_at h0) hm e⟩
theorem thing_ok {h : Ob} (H : HOb h) (st : Sto) : ∃ u h', Th u ∧ HOb h' ∧ m_u_law_thing [.loc 0] (h :: st) = Out.ok u (h' :: st) := by
  have fin : ∀ {u : U} {h' : Ob}, Th u → HOb h' → b_u_law_thing [some (.loc 0), none] (h :: st) = SO.ret u (h' :: st) → ∃ u h', Th u ∧ HOb h' ∧ m_u_law_thing [.loc 0] (h :: st) = Out.ok u (h' :: st) := fun {u h'} t H' e =>
    ⟨u, h', t, H', fs_old (n := 2) (mb := b_u_law_thing) (env := [some (.loc 0), none]) rfl e (Old.hand H'.under) t.und⟩
  obtain ⟨d, h1, H1, d0, d1, e1⟩ := draw_v (st := st) (env := [some (.loc 0), none]) (m := eC (.int 4)) (k := 4) H rfl rfl (by decide) (by decide)
  have q : ∀ n : Int, eOp fEq (eVar 1) (eC (.int n)) [some (.loc 0), some (.int d)] (h1 :: st) = Out.ok (.bl (decide (d = n))) (h1 :: st) := fun n => op2 (S1 := h1 :: st) (S2 := h1 :: st) (v_at (i := 1) rfl) rfl fEq_int
  have q0 := q 0
  have q1 := q 1
  by_cases z0 : d = 0
  · rw [decide_eq_true z0] at q0
    obtain ⟨n, h2, H2, n0, n1, e2⟩ := draw_v (st := st) (env := [some (.loc 0), some (.int d)]) (m := eOp fPow (eC (.int 10)) (eC (.int 31))) (k := 10 ^ 31) H1 rfl (op2 (S1 := h1 :: st) (S2 := h1 :: st) rfl rfl rfl) (by decide) (by decide)
    have e3 : eOp fPow (eC (.int 10)) (eC (.int 30)) [some (.loc 0), some (.int d)] (h2 :: st) = Out.ok (.int (10 ^ 30)) (h2 :: st) := op2 (S1 := h2 :: st) (S2 := h2 :: st) rfl rfl rfl
    have e4 := op2 (S1 := h2 :: st) (S2 := h2 :: st) (f := fSub) e2 e3 rfl
    refine fin (th_big n0 n1) H2 ?_
    unfold b_u_law_thing
    exact seq_n (asg_ok (i := 1) e1) (seq_r (if_yes q0 (ret_ok e4)))
  · rw [decide_eq_false z0] at q0
    by_cases z1 : d = 1
    · rw [decide_eq_true z1] at q1
      obtain ⟨u, h2, hu, H2, e2⟩ := pick_ok (st := st) H1 (us := [U.str "", U.str "row", U.str "a b", U.str "width", U.str "s"]) (by simp) (by decide)
      have lt : eScope (eLst (aCons (eC (.str "")) (aCons (eC (.str "row")) (aCons (eC (.str "a b")) (aCons (eC (.str "width")) (aCons (eC (.str "s")) aNil)))))) [some (.loc 0), some (.int d)] (h1 :: st) = Out.ok (.lst [U.str "", U.str "row", U.str "a b", U.str "width", U.str "s"]) (h1 :: st) := lit_drw (S' := h1 :: st) rfl (Old.refl _) (by decide) rfl
      have e3 := call2 (k := 2) rfl (v_at (env := [some (.loc 0), some (.int d)]) (i := 0) rfl) lt e2
      refine fin (th_a hu) H2 ?_
      unfold b_u_law_thing
      exact seq_n (asg_ok (i := 1) e1) (seq_n (if_no q0 rfl) (seq_r (if_yes q1 (ret_ok e3))))
    · rw [decide_eq_false z1] at q1
      obtain ⟨u, h2, hu, H2, e2⟩ := pick_ok (st := st) H1 (us := [U.non, U.bl true, U.tup [], U.tup [.int 1, .str "a"], U.int 0, U.int (-1), U.tup [.str "a", .tup [.int 2, .int 3]]]) (by simp) (by decide)
      have lt : eScope (eLst (aCons (eC .non) (aCons (eC (.bl true)) (aCons (eTup aNil) (aCons (eTup (aCons (eC (.int 1)) (aCons (eC (.str "a")) aNil))) (aCons (eC (.int 0)) (aCons (eUn fNeg (eC (.int 1))) (aCons (eTup (aCons (eC (.str "a")) (aCons (eTup (aCons (eC (.int 2)) (aCons (eC (.int 3)) aNil))) aNil))) aNil)))))))) [some (.loc 0), some (.int d)] (h1 :: st) = Out.ok (.lst [U.non, U.bl true, U.tup [], U.tup [.int 1, .str "a"], U.int 0, U.int (-1), U.tup [.str "a", .tup [.int 2, .int 3]]]) (h1 :: st) := lit_drw (S' := h1 :: st) rfl (Old.refl _) (by decide) rfl
      have e3 := call2 (k := 2) rfl (v_at (env := [some (.loc 0), some (.int d)]) (i := 0) rfl) lt e2
      refine fin (th_b hu) H2 ?_
      unfold b_u_law_thing
      exact seq_n (asg_ok (i := 1) e1) (seq_n (if_no q0 rfl) (seq_n (if_no q1 rfl) (ret_ok e3)))
def mnU : List U := mn.map fun n => U.int (n : Nat)
theorem ok_bls (l : List Bool) : okU 12 (.lst (l.map U.bl)) = true := by
  show (l.map U.bl).all (okU 11) = true
  rw [List.all_map]
  exact List.all_eq_true.mpr fun _ _ => rfl
theorem knd_bls (k : Nat) : kndL k = ((List.range 53).map fun j => k == j + 1).map U.bl := by
  unfold kndL
  rw [List.map_map]
  rfl
theorem ok_things {x y z : U} (hx : Th x) (hy : Th y) (hz : Th z) (n : Nat) : okU 12 (.lst ([x, y, z].take n)) = true := by
  show (([x, y, z].take n)).all (okU 11) = true
  refine List.all_eq_true.mpr fun u hu => ?_
  have hu2 := List.mem_of_mem_take hu
  simp only [List.mem_cons, List.not_mem_nil, or_false] at hu2
  rcases hu2 with rfl | rfl | rfl
  · exact hx.ok
  · exact hy.ok
  · exact hz.ok
theorem made_at {ts : List U} {k : Nat} (h : k < 53) : (madeL ts)[k]? = some (.exn (k + 1) (ts.take (mn.getD k 0))) := by
  unfold madeL
  rw [List.getElem?_map, List.getElem?_range h]
  rfl
theorem fld_at2 {ts : List U} {k : Nat} (h : k < 53) : (fldL ts)[k]? = some (.lst (ts.take (mn.getD k 0))) := by
  unfold fldL
  rw [List.getElem?_map, List.getElem?_range h]
  rfl
theorem mn_at {k : Nat} (h : k < 53) : mnU[k]? = some (.int ((mn.getD k 0 : Nat) : Int)) := by
  have h2 : k < mn.length := h
  unfold mnU
  rw [List.getElem?_map, List.getD_eq_getElem?_getD, List.getElem?_eq_getElem h2]
  rfl
section
variable {S : Sto} {x y z e0 e1 : Option U} {ts : List U}
theorem loop1 {e7 e8 e9 e10 e2 e4 : Option U} : ∀ (n j : Nat) (e5 e6 : Option U), j + n ≤ 53 → ∃ f5 f6, NK.forM (fun _ => True) (gN 5) l_law_1 ((List.range' j n).map fun (i : Nat) => U.int (i : Nat)) [e0, e1, e2, some (.lst (madeL ts)), e4, e5, e6, e7, e8, e9, e10] S = SO.next [e0, e1, e2, some (.lst (madeL ts)), e4, f5, f6, e7, e8, e9, e10] S
  | 0, j, e5, e6, _ => ⟨e5, e6, forM_nil True.intro⟩
  | n + 1, j, e5, e6, hj => by
    obtain ⟨f5, f6, ih⟩ := loop1 (e7 := e7) (e8 := e8) (e9 := e9) (e10 := e10) (e2 := e2) (e4 := e4) n (j + 1) (some (.int (j : Nat))) (some (.exn (j + 1) (ts.take (mn.getD j 0)))) (by omega)
    refine ⟨f5, f6, ?_⟩
    rw [List.range'_succ, List.map_cons]
    have hj' : j < 53 := by omega
    have a1 : eOp fIx (eVar 3) (eVar 5) [e0, e1, e2, some (.lst (madeL ts)), e4, some (.int (j : Nat)), e6, e7, e8, e9, e10] S = Out.ok (.exn (j + 1) (ts.take (mn.getD j 0))) S := ix_at (i := 3) (j := 5) rfl rfl (made_at hj')
    have b1 := truK (isx0 (S := S) (env := [e0, e1, e2, some (.lst (madeL ts)), e4, some (.int (j : Nat)), some (.exn (j + 1) (ts.take (mn.getD j 0))), e7, e8, e9, e10]) (i := 6) rfl (show j + 1 < 54 by omega))
    have b2 := truK (isxv (S := S) (env := [e0, e1, e2, some (.lst (madeL ts)), e4, some (.int (j : Nat)), some (.exn (j + 1) (ts.take (mn.getD j 0))), e7, e8, e9, e10]) (i := 6) rfl (show j + 1 < 54 by omega))
    have b3 := call1 (k := 1) rfl (v_at (S := S) (env := [e0, e1, e2, some (.lst (madeL ts)), e4, some (.int (j : Nat)), some (.exn (j + 1) (ts.take (mn.getD j 0))), e7, e8, e9, e10]) (i := 6) rfl) (kinds_ok (us := ts.take (mn.getD j 0)) (show j + 1 < 54 by omega) S)
    have rg : iRng1 (aCons (eCB fLen (aCons (eVar 3) aNil)) aNil) [e0, e1, e2, some (.lst (madeL ts)), e4, some (.int (j : Nat)), some (.exn (j + 1) (ts.take (mn.getD j 0))), e7, e8, e9, e10] S = Out.ok ⟨(List.range 53).map fun (i : Nat) => U.int (i : Nat), fun _ => True⟩ S := rngat (cb1 (S1 := S) (v_at (i := 3) rfl) (by rw [fLen_lst, made_len])) (by decide)
    have b4 := comp_scope (i := 10) (mt := NK.tYes) (me := eOp fEq (eVar 10) (eVar 5)) (mi := iRng1 (aCons (eCB fLen (aCons (eVar 3) aNil)) aNil)) (env := [e0, e1, e2, some (.lst (madeL ts)), e4, some (.int (j : Nat)), some (.exn (j + 1) (ts.take (mn.getD j 0))), e7, e8, e9, e10]) (st := S) (g := fun _ => True)
      (fun u => match u with | .int i => .bl (decide (i = (j : Nat))) | u => u) (fun _ => true) (us := (List.range 53).map fun (i : Nat) => U.int (i : Nat)) rg (fun _ => True.intro) (by rw [List.length_map, List.length_range]; decide) (fun u hu acc => by
        obtain ⟨i, _, rfl⟩ := List.mem_map.mp hu
        refine ⟨rfl, fun _ => ?_⟩
        exact op2 (S1 := S ++ [.lst acc]) (S2 := S ++ [.lst acc]) (v_at (i := 10) rfl) (v_at (i := 5) rfl) fEq_int) (by
        refine underL_all fun u hu => ?_
        obtain ⟨w, hw, rfl⟩ := List.mem_map.mp hu
        obtain ⟨i, _, rfl⟩ := List.mem_map.mp (List.mem_filter.mp hw).1
        rfl)
    rw [filter_all, List.map_map] at b4
    have same : (List.range 53).map ((fun u : U => match u with | .int i => U.bl (decide (i = (j : Nat))) | u => u) ∘ fun (i : Nat) => U.int (i : Nat)) = kndL (j + 1) := by
      unfold kndL
      refine List.map_congr_left fun i _ => ?_
      have e : decide ((i : Int) = (j : Int)) = (j + 1 == i + 1) := by
        rw [beq_dec]
        exact decide_eq_decide.mpr ⟨fun e => by omega, fun e => by omega⟩
      exact congrArg U.bl e
    rw [same] at b4
    have b5 := op2 (f := fNe) b3 b4 (ne_same (by rw [knd_bls]; exact ok_bls _))
    refine Eq.trans (forM_n (env1 := [e0, e1, e2, some (.lst (madeL ts)), e4, some (.int (j : Nat)), e6, e7, e8, e9, e10]) True.intro rfl ?_) ih
    unfold l_law_1
    exact seq_n (asg_ok (i := 6) a1) (if_f (or_ff (not_at b1) (or_ff (not_at b2) (tB_of b5))) rfl)
theorem loop2 {x y z : U} (hx : Th x) (hy : Th y) (hz : Th z) {e3 e6 e9 e10 : Option U} : ∀ (n j : Nat) (e5 : Option U), j + n ≤ 53 → ∃ f5, NK.forM (fun _ => True) (gN 5) l_law_2 ((List.range' j n).map fun (i : Nat) => U.int (i : Nat)) [e0, e1, some (.lst [x, y, z]), e3, some (.lst mnU), e5, e6, some (.lst (fldL [x, y, z])), some (.lst (fldL [y, z, x])), e9, e10] S = SO.next [e0, e1, some (.lst [x, y, z]), e3, some (.lst mnU), f5, e6, some (.lst (fldL [x, y, z])), some (.lst (fldL [y, z, x])), e9, e10] S
  | 0, j, e5, _ => ⟨e5, forM_nil True.intro⟩
  | n + 1, j, e5, hj => by
    obtain ⟨f5, ih⟩ := loop2 hx hy hz (e3 := e3) (e6 := e6) (e9 := e9) (e10 := e10) n (j + 1) (some (.int (j : Nat))) (by omega)
    refine ⟨f5, ?_⟩
    rw [List.range'_succ, List.map_cons]
    have hj' : j < 53 := by omega
    have und : ∀ {a b c : U}, Th a → Th b → Th c → U.underL 0 ([a, b, c].take (mn.getD j 0)) = true := fun {a b c} ha hb hc => underL_all fun u hu => by
      have hu2 := List.mem_of_mem_take hu
      simp only [List.mem_cons, List.not_mem_nil, or_false] at hu2
      rcases hu2 with rfl | rfl | rfl
      · exact ha.und
      · exact hb.und
      · exact hc.und
    have t1 : eOp fIx (eVar 7) (eVar 5) [e0, e1, some (.lst [x, y, z]), e3, some (.lst mnU), some (.int (j : Nat)), e6, some (.lst (fldL [x, y, z])), some (.lst (fldL [y, z, x])), e9, e10] S = Out.ok (.lst ([x, y, z].take (mn.getD j 0))) S := ix_at (i := 7) (j := 5) rfl rfl (fld_at2 hj')
    have t2 : eOp fIx (eVar 8) (eVar 5) [e0, e1, some (.lst [x, y, z]), e3, some (.lst mnU), some (.int (j : Nat)), e6, some (.lst (fldL [x, y, z])), some (.lst (fldL [y, z, x])), e9, e10] S = Out.ok (.lst ([y, z, x].take (mn.getD j 0))) S := ix_at (i := 8) (j := 5) rfl rfl (fld_at2 hj')
    have mm : eOp fIx (eVar 4) (eVar 5) [e0, e1, some (.lst [x, y, z]), e3, some (.lst mnU), some (.int (j : Nat)), e6, some (.lst (fldL [x, y, z])), some (.lst (fldL [y, z, x])), e9, e10] S = Out.ok (.int ((mn.getD j 0 : Nat) : Int)) S := ix_at (i := 4) (j := 5) rfl rfl (mn_at hj')
    have i0 : eOp fIx (eVar 2) (eC (.int 0)) [e0, e1, some (.lst [x, y, z]), e3, some (.lst mnU), some (.int (j : Nat)), e6, some (.lst (fldL [x, y, z])), some (.lst (fldL [y, z, x])), e9, e10] S = Out.ok x S := ix_no (k := 0) rfl rfl
    have i1 : eOp fIx (eVar 2) (eC (.int 1)) [e0, e1, some (.lst [x, y, z]), e3, some (.lst mnU), some (.int (j : Nat)), e6, some (.lst (fldL [x, y, z])), some (.lst (fldL [y, z, x])), e9, e10] S = Out.ok y S := ix_no (k := 1) rfl rfl
    have i2 : eOp fIx (eVar 2) (eC (.int 2)) [e0, e1, some (.lst [x, y, z]), e3, some (.lst mnU), some (.int (j : Nat)), e6, some (.lst (fldL [x, y, z])), some (.lst (fldL [y, z, x])), e9, e10] S = Out.ok z S := ix_no (k := 2) rfl rfl
    have s1 := sl_upto (S := S) (m := eVar 2) (v_at (env := [e0, e1, some (.lst [x, y, z]), e3, some (.lst mnU), some (.int (j : Nat)), e6, some (.lst (fldL [x, y, z])), some (.lst (fldL [y, z, x])), e9, e10]) (i := 2) rfl) mm (und hx hy hz)
    have lt : eScope (eLst (aCons (eOp fIx (eVar 2) (eC (.int 1))) (aCons (eOp fIx (eVar 2) (eC (.int 2))) (aCons (eOp fIx (eVar 2) (eC (.int 0))) aNil)))) [e0, e1, some (.lst [x, y, z]), e3, some (.lst mnU), some (.int (j : Nat)), e6, some (.lst (fldL [x, y, z])), some (.lst (fldL [y, z, x])), e9, e10] S = Out.ok (.lst [y, z, x]) S := lit_drw (S' := S) (acN i1 (acN i2 (ac1 i0))) (Old.refl _) (show 3 ≤ 1000 by decide) (by simp [U.underL, hx.und, hy.und, hz.und])
    have s2 := sl_upto (S := S) lt mm (und hy hz hx)
    have n1 := op2 (f := fNe) t1 s1 (ne_same (ok_things hx hy hz _))
    have n2 := op2 (f := fNe) t2 s2 (ne_same (ok_things hy hz hx _))
    refine Eq.trans (forM_n (env1 := [e0, e1, some (.lst [x, y, z]), e3, some (.lst mnU), some (.int (j : Nat)), e6, some (.lst (fldL [x, y, z])), some (.lst (fldL [y, z, x])), e9, e10]) True.intro rfl ?_) ih
    unfold l_law_2
    exact if_f (or_ff (tB_of n1) (tB_of n2)) rfl
end
theorem things_ok {h : Ob} {st : Sto} {env : NK.Env} (H : HOb h) (h1 : env[1]? = some (some (.loc 0))) (hl : 5 < env.length) : ∃ x y z h', Th x ∧ Th y ∧ Th z ∧ HOb h' ∧
    eScope (eComp (iRng1 (aCons (eC (.int 3)) aNil)) (gN 5) NK.tYes (eCall 1 m_u_law_thing [] (aCons (eVar 1) aNil)) [5]) env (h :: st) = Out.ok (.lst [x, y, z]) (h' :: st) := by
  have one : ∀ {h : Ob} (H : HOb h) (u : U) (X : Sto), ∃ w h', Th w ∧ HOb h' ∧ eCall 1 m_u_law_thing [] (aCons (eVar 1) aNil) (env.set 5 (some u)) (h :: X) = Out.ok w (h' :: X) := fun {h} H u X => by
    obtain ⟨w, h', t, H', e⟩ := thing_ok H X
    refine ⟨w, h', t, H', call1 rfl (v_at (i := 1) ?_) e⟩
    rw [List.getElem?_set_ne (by decide)]
    exact h1
  have step : ∀ (u : U) (us acc : List U) (h : Ob), HOb h → acc.length ≤ 3 → ∃ w h', Th w ∧ HOb h' ∧ compM (fun _ => True) (gN 5) NK.tYes (eCall 1 m_u_law_thing [] (aCons (eVar 1) aNil)) (st.length + 1) (wipeE env [5]) (u :: us) ((h :: st) ++ [.lst acc]) = compM (fun _ => True) (gN 5) NK.tYes (eCall 1 m_u_law_thing [] (aCons (eVar 1) aNil)) (st.length + 1) (wipeE env [5]) us ((h' :: st) ++ [.lst (acc ++ [w])]) := fun u us acc h H hz => by
    obtain ⟨w, h', t, H', e⟩ := one H u (st ++ [.lst acc])
    refine ⟨w, h', t, H', ?_⟩
    rw [compM, if_pos True.intro]
    have e' : eCall 1 m_u_law_thing [] (aCons (eVar 1) aNil) (env.set 5 (some u)) ((h :: st) ++ [.lst acc]) = Out.ok w ((h' :: st) ++ [.lst acc]) := e
    rw [show gN 5 u (wipeE env [5]) ((h :: st) ++ [Ob.lst acc]) = some (env.set 5 (some u)) from congrArg some (wipe1 env 5 u)]
    dsimp only [NK.tYes]
    rw [e']
    dsimp only
    rw [show ((h' :: st) ++ [Ob.lst acc])[st.length + 1]? = some (.lst acc) by simp]
    dsimp only
    rw [if_pos (by omega), show ((h' :: st) ++ [Ob.lst acc]).set (st.length + 1) (.lst (acc ++ [w])) = (h' :: st) ++ [.lst (acc ++ [w])] by simp]
  obtain ⟨x, h2, tx, H2, c1⟩ := step (.int ((0 : Nat) : Int)) [.int ((1 : Nat) : Int), .int ((2 : Nat) : Int)] [] h H (by decide)
  obtain ⟨y, h3, ty, H3, c2⟩ := step (.int ((1 : Nat) : Int)) [.int ((2 : Nat) : Int)] [x] h2 H2 (show 1 ≤ 3 by decide)
  obtain ⟨z, h4, tz, H4, c3⟩ := step (.int ((2 : Nat) : Int)) [] [x, y] h3 H3 (show 2 ≤ 3 by decide)
  refine ⟨x, y, z, h4, tx, ty, tz, H4, ?_⟩
  have rg : iRng1 (aCons (eC (.int 3)) aNil) env (h :: st) = Out.ok ⟨[.int ((0 : Nat) : Int), .int ((1 : Nat) : Int), .int ((2 : Nat) : Int)], fun _ => True⟩ (h :: st) := rngat (n := 3) rfl (by decide)
  have all : compM (fun _ => True) (gN 5) NK.tYes (eCall 1 m_u_law_thing [] (aCons (eVar 1) aNil)) (st.length + 1) (wipeE env [5]) [.int ((0 : Nat) : Int), .int ((1 : Nat) : Int), .int ((2 : Nat) : Int)] ((h :: st) ++ [.lst []]) = Out.ok (.loc (st.length + 1)) ((h4 :: st) ++ [.lst [x, y, z]]) := by
    rw [c1]
    show compM _ _ _ _ _ _ _ ((h2 :: st) ++ [.lst [x]]) = _
    rw [c2]
    show compM _ _ _ _ _ _ _ ((h3 :: st) ++ [.lst [x, y]]) = _
    rw [c3]
    show compM _ _ _ _ _ _ _ ((h4 :: st) ++ [.lst [x, y, z]]) = _
    rw [compM, if_pos True.intro]
  unfold eScope eComp
  rw [rg, ob]
  show scopeOut (h :: st) (compM (fun _ => True) (gN 5) NK.tYes (eCall 1 m_u_law_thing [] (aCons (eVar 1) aNil)) (st.length + 1) (wipeE env [5]) [.int ((0 : Nat) : Int), .int ((1 : Nat) : Int), .int ((2 : Nat) : Int)] ((h :: st) ++ [.lst []])) = _
  rw [all]
  exact sc_loc (st := h :: st) (j := 0) [.lst [x, y, z]] (Old.hand H4.under) rfl (by simp [U.underL, tx.und, ty.und, tz.und])
theorem knd_zero : (List.replicate 53 [U.bl false]).flatten = kndL 0 := rfl
theorem law_true (ns : List Int) (hl : ns.length ≤ 63) : m_law [.scr (ns.map U.int)] [] = .ok (.bl true) [] := by
  obtain ⟨h0, H0, e0⟩ := hand_ok ns hl
  have c0 := call1 (k := 1) rfl (v_at (S := []) (env := [some (.scr (ns.map U.int)), none, none, none, none, none, none, none, none, none, none]) (i := 0) rfl) e0
  obtain ⟨x, y, z, h1, tx, ty, tz, H1, e1⟩ := things_ok (st := []) (env := [some (.scr (ns.map U.int)), some (.loc 0), none, none, none, none, none, none, none, none, none]) H0 rfl (show 5 < 11 by decide)
  have m1 := call1 (k := 1) rfl (v_at (S := [h1]) (env := [some (.scr (ns.map U.int)), some (.loc 0), some (.lst [x, y, z]), none, none, none, none, none, none, none, none]) (i := 2) rfl) (made_ok tx ty tz [h1])
  have mu : ∀ env : NK.Env, eScope (eLst (aCons (eC (.int 2)) (aCons (eC (.int 1)) (aCons (eC (.int 1)) (aCons (eC (.int 1)) (aCons (eC (.int 1)) (aCons (eC (.int 2)) (aCons (eC (.int 1)) (aCons (eC (.int 1)) (aCons (eC (.int 2)) (aCons (eC (.int 3)) (aCons (eC (.int 1)) (aCons (eC (.int 1)) (aCons (eC (.int 3)) (aCons (eC (.int 2)) (aCons (eC (.int 1)) (aCons (eC (.int 1)) (aCons (eC (.int 2)) (aCons (eC (.int 2)) (aCons (eC (.int 2)) (aCons (eC (.int 2)) (aCons (eC (.int 1)) (aCons (eC (.int 1)) (aCons (eC (.int 1)) (aCons (eC (.int 1)) (aCons (eC (.int 2)) (aCons (eC (.int 1)) (aCons (eC (.int 1)) (aCons (eC (.int 1)) (aCons (eC (.int 2)) (aCons (eC (.int 1)) (aCons (eC (.int 1)) (aCons (eC (.int 1)) (aCons (eC (.int 1)) (aCons (eC (.int 1)) (aCons (eC (.int 1)) (aCons (eC (.int 1)) (aCons (eC (.int 1)) (aCons (eC (.int 1)) (aCons (eC (.int 1)) (aCons (eC (.int 2)) (aCons (eC (.int 1)) (aCons (eC (.int 2)) (aCons (eC (.int 1)) (aCons (eC (.int 0)) (aCons (eC (.int 2)) (aCons (eC (.int 1)) (aCons (eC (.int 2)) (aCons (eC (.int 2)) (aCons (eC (.int 2)) (aCons (eC (.int 1)) (aCons (eC (.int 1)) (aCons (eC (.int 2)) (aCons (eC (.int 1)) aNil)))))))))))))))))))))))))))))))))))))))))))))))))))))) env [h1] = Out.ok (.lst mnU) [h1] := fun env => lit_drw (S' := [h1]) (us := mnU) rfl (Old.refl _) (show 53 ≤ 1000 by decide) rfl
  obtain ⟨f5, f6, l1⟩ := loop1 (S := [h1]) (e0 := some (.scr (ns.map U.int))) (e1 := some (.loc 0)) (e2 := some (.lst [x, y, z])) (e4 := some (.lst mnU)) (e7 := none) (e8 := none) (e9 := none) (e10 := none) (ts := [x, y, z]) 53 0 none none (by decide)
  have rg : ∀ (a b c d e f g i : Option U), iRng1 (aCons (eCB fLen (aCons (eVar 3) aNil)) aNil) [some (.scr (ns.map U.int)), some (.loc 0), a, some (.lst (madeL [x, y, z])), b, c, d, e, f, g, i] [h1] = Out.ok ⟨(List.range' 0 53).map fun (i : Nat) => U.int (i : Nat), fun _ => True⟩ [h1] := fun a b c d e f g i => by
    rw [← List.range_eq_range' (n := 53)]
    exact rngat (cb1 (S1 := [h1]) (v_at (i := 3) rfl) (by rw [fLen_lst, made_len])) (by decide)
  have fl1 := call1 (k := 1) rfl (v_at (S := [h1]) (env := [some (.scr (ns.map U.int)), some (.loc 0), some (.lst [x, y, z]), some (.lst (madeL [x, y, z])), some (.lst mnU), f5, f6, none, none, none, none]) (i := 3) rfl) (fields_ok tx ty tz [h1])
  have i0 : eOp fIx (eVar 2) (eC (.int 0)) [some (.scr (ns.map U.int)), some (.loc 0), some (.lst [x, y, z]), some (.lst (madeL [x, y, z])), some (.lst mnU), f5, f6, none, none, none, none] [h1] = Out.ok x [h1] := ix_no (k := 0) rfl rfl
  have i1 : eOp fIx (eVar 2) (eC (.int 1)) [some (.scr (ns.map U.int)), some (.loc 0), some (.lst [x, y, z]), some (.lst (madeL [x, y, z])), some (.lst mnU), f5, f6, none, none, none, none] [h1] = Out.ok y [h1] := ix_no (k := 1) rfl rfl
  have i2 : eOp fIx (eVar 2) (eC (.int 2)) [some (.scr (ns.map U.int)), some (.loc 0), some (.lst [x, y, z]), some (.lst (madeL [x, y, z])), some (.lst mnU), f5, f6, none, none, none, none] [h1] = Out.ok z [h1] := ix_no (k := 2) rfl rfl
  have lt : eScope (eLst (aCons (eOp fIx (eVar 2) (eC (.int 1))) (aCons (eOp fIx (eVar 2) (eC (.int 2))) (aCons (eOp fIx (eVar 2) (eC (.int 0))) aNil)))) [some (.scr (ns.map U.int)), some (.loc 0), some (.lst [x, y, z]), some (.lst (madeL [x, y, z])), some (.lst mnU), f5, f6, none, none, none, none] [h1] = Out.ok (.lst [y, z, x]) [h1] := lit_drw (S' := [h1]) (acN i1 (acN i2 (ac1 i0))) (Old.refl _) (show 3 ≤ 1000 by decide) (by simp [U.underL, tx.und, ty.und, tz.und])
  have m2 := call1 (k := 1) rfl lt (made_ok ty tz tx [h1])
  have fl2 := call1 (k := 1) rfl m2 (fields_ok ty tz tx [h1])
  obtain ⟨g5, l2⟩ := loop2 (S := [h1]) tx ty tz (e0 := some (.scr (ns.map U.int))) (e1 := some (.loc 0)) (e3 := some (.lst (madeL [x, y, z]))) (e6 := f6) (e9 := none) (e10 := none) 53 0 f5 (by decide)
  have o1 : eMkX1 0 (eC (.str "a")) [some (.scr (ns.map U.int)), some (.loc 0), some (.lst [x, y, z]), some (.lst (madeL [x, y, z])), some (.lst mnU), g5, f6, some (.lst (fldL [x, y, z])), some (.lst (fldL [y, z, x])), none, none] [h1] = Out.ok (.exn 0 []) [h1] := rfl
  have v1 := isxv (S := [h1]) (env := [some (.scr (ns.map U.int)), some (.loc 0), some (.lst [x, y, z]), some (.lst (madeL [x, y, z])), some (.lst mnU), g5, f6, some (.lst (fldL [x, y, z])), some (.lst (fldL [y, z, x])), some (.exn 0 []), none]) (i := 9) (us := []) (k := 0) rfl (by decide)
  have k1 := call1 (k := 1) rfl (v_at (S := [h1]) (env := [some (.scr (ns.map U.int)), some (.loc 0), some (.lst [x, y, z]), some (.lst (madeL [x, y, z])), some (.lst mnU), g5, f6, some (.lst (fldL [x, y, z])), some (.lst (fldL [y, z, x])), some (.exn 0 []), none]) (i := 9) rfl) (kinds_ok (k := 0) (us := []) (by decide) [h1])
  have fs : eScope (eLst (aCons (eC (.bl false)) aNil)) [some (.scr (ns.map U.int)), some (.loc 0), some (.lst [x, y, z]), some (.lst (madeL [x, y, z])), some (.lst mnU), g5, f6, some (.lst (fldL [x, y, z])), some (.lst (fldL [y, z, x])), some (.exn 0 []), none] [h1] = Out.ok (.lst [.bl false]) [h1] := lit_drw (S' := [h1]) rfl (Old.refl _) (by decide) rfl
  have ln : eCB fLen (aCons (eVar 3) aNil) [some (.scr (ns.map U.int)), some (.loc 0), some (.lst [x, y, z]), some (.lst (madeL [x, y, z])), some (.lst mnU), g5, f6, some (.lst (fldL [x, y, z])), some (.lst (fldL [y, z, x])), some (.exn 0 []), none] [h1] = Out.ok (.int ((53 : Nat) : Int)) [h1] := cb1 (S1 := [h1]) (v_at (i := 3) rfl) (by rw [fLen_lst, made_len])
  have ml := mulL fs ln (by decide) (by decide) (by rw [knd_zero]; exact knd_und 0)
  rw [knd_zero] at ml
  have q1 := op2 (f := fEq) k1 ml (eq_same (by rw [knd_bls]; exact ok_bls _))
  have j0 : eOp fIx (eVar 2) (eC (.int 0)) [some (.scr (ns.map U.int)), some (.loc 0), some (.lst [x, y, z]), some (.lst (madeL [x, y, z])), some (.lst mnU), g5, f6, some (.lst (fldL [x, y, z])), some (.lst (fldL [y, z, x])), some (.exn 0 []), none] [h1] = Out.ok x [h1] := ix_no (k := 0) rfl rfl
  have nl : eMkX 40 2 [] [.non] (aCons (eOp fIx (eVar 2) (eC (.int 0))) aNil) [some (.scr (ns.map U.int)), some (.loc 0), some (.lst [x, y, z]), some (.lst (madeL [x, y, z])), some (.lst mnU), g5, f6, some (.lst (fldL [x, y, z])), some (.lst (fldL [y, z, x])), some (.exn 0 []), none] [h1] = Out.ok (.exn 40 [x, .non]) [h1] := by
    unfold eMkX
    rw [ac1 j0, ob]
    exact if_pos ⟨rfl, rfl⟩
  have ot : eFldX 40 1 (eMkX 40 2 [] [.non] (aCons (eOp fIx (eVar 2) (eC (.int 0))) aNil)) [some (.scr (ns.map U.int)), some (.loc 0), some (.lst [x, y, z]), some (.lst (madeL [x, y, z])), some (.lst mnU), g5, f6, some (.lst (fldL [x, y, z])), some (.lst (fldL [y, z, x])), some (.exn 0 []), none] [h1] = Out.ok .non [h1] := by
    unfold eFldX
    rw [nl, ob]
    rfl
  have q2 := op2 (S1 := [h1]) (S2 := [h1]) (f := fIsN) (m2 := eC .non) ot rfl rfl
  refine fs_val (n := 11) (mb := b_law) (env := [some (.scr (ns.map U.int)), none, none, none, none, none, none, none, none, none, none]) (st2 := []) (ext := [h1]) rfl ?_ (Old.refl []) rfl
  unfold b_law
  refine seq_n (asg_ok (i := 1) (S1 := [h0]) c0) (seq_n (asg_ok (i := 2) (S1 := [h1]) e1) (seq_n (par_ok (i := 3) (j := 4) (S1 := [h1]) (acN m1 (ac1 (mu _)))) ?_))
  refine seq_n (sFor_ok (rg _ _ _ _ _ _ _ _) l1) (seq_n (par_ok (i := 7) (j := 8) (S1 := [h1]) (acN fl1 (ac1 fl2))) (seq_n (sFor_ok (rg _ _ _ _ _ _ _ _) l2) (seq_n (asg_ok (i := 9) o1) (ret_ok ?_))))
  exact and_yes v1 (and_at q1 q2)
end G

namespace G
open PySem L2 NK
def spLaw (K : PySem.W.Frag) : Sp := fun vs H Q _ => ∃ (a : Addr) (ns : List Int), vs = [V.ref a] ∧ SqL K H a (ns.map V.int) ∧ ns.length ≤ 63 ∧ ∀ H', Q (V.bl true) H'
theorem law_spec {w : World} {K : PySem.W.Frag} {a : Ad} (vs : List V) (H : Hp) (Q : VK) (E : XK) (h : spLaw K vs H Q E) : spOf (tb w K a) 1 m_law vs H Q E := by
  obtain ⟨b, ns, rfl, hS, hl, k⟩ := h
  refine ⟨rfl, ⟨fun _ => 0, 0, begF H b, fun _ => none⟩, _, [], beg_rh (T := tb w K a) (fun p hp => by cases hp), .one (.scr (beg_sq hS) (rpl_ints ns)), ?_⟩
  rw [law_true ns hl]
  intro c' v H' _ _ r
  cases r.inv_bl
  exact k H'

def zfd : FuncData := PySem.W.ksFn "" "" (defArgs sx_BadRecord) [] (defScope sx_BadRecord) .none .none .none .none none .none .none 0
theorem cn_get {k : Nat} {nm : PySem.Str} (h : cn[k]? = some nm) : cn.getD k "" = nm := by
  rw [List.getD_eq_getElem?_getD, h]
  rfl
theorem cn_at {k : Nat} (h : k < 54) : cn[k]? = some (cn.getD k "") := by
  have h2 : k < cn.length := h
  rw [List.getD_eq_getElem?_getD, List.getElem?_eq_getElem h2]
  rfl
theorem cn_zero : ∀ k, k < 54 → ((cn.getD k "" = ("CustomError" : PySem.Str)) ↔ k = 0) := by decide +kernel
theorem xi_cn : ∀ p ∈ xiL, p.2.1 < 54 ∧ cn.getD p.2.1 "" = p.1.at_.1 ∧ p.1.at_.1 ∈ cn := by
  intro p hp
  unfold xiL at hp
  simp only [List.mem_cons, List.not_mem_nil, or_false] at hp
  rcases hp with rfl | rfl | rfl | rfl | rfl | rfl | rfl | rfl | rfl | rfl | rfl | rfl | rfl | rfl | rfl | rfl | rfl | rfl | rfl | rfl | rfl | rfl | rfl | rfl | rfl | rfl | rfl | rfl | rfl | rfl | rfl | rfl | rfl | rfl | rfl | rfl | rfl | rfl | rfl | rfl | rfl | rfl | rfl | rfl | rfl | rfl | rfl | rfl | rfl | rfl | rfl | rfl <;> exact ⟨by decide, by decide +kernel, by decide +kernel⟩
theorem x_exc {K : PySem.W.Frag} (xa : ∀ nm ∈ cn, XA K (He.ga K nm)) (xm : ∀ nm ∈ cn, mroB K (He.ga K nm) (if nm = "CustomError" then [] else [He.ga K "CustomError"]) = true) (hn : PySem.W.specialIn K (.builtin "object.__class__") "__get__" = some (some (.builtin "getset_descriptor.__get__"))) (ht : PySem.W.takesIn K (.builtin "object.__class__") = some true) {k : Nat} (h : k < 54) : ExcC K (He.ga K (cn.getD k "")) :=
  (xa _ (List.mem_of_getElem? (cn_at h))).exc (xm _ (List.mem_of_getElem? (cn_at h))) hn ht
theorem x_kit {K : PySem.W.Frag} (xa : ∀ nm ∈ cn, XA K (He.ga K nm)) (xm : ∀ nm ∈ cn, mroB K (He.ga K nm) (if nm = "CustomError" then [] else [He.ga K "CustomError"]) = true) (xn : (cn.map (He.ga K)).Nodup) {i j : Nat} (hi : i < 54) (hj : j < 54) : PySem.W.kitOne K (.ref (He.ga K (cn.getD i ""))) (.ref (He.ga K (cn.getD j ""))) = some (i == j || j == 0) := by
  have at_ : ∀ {k : Nat}, k < 54 → (cn.map (He.ga K))[k]? = some (He.ga K (cn.getD k "")) := fun {k} h => by rw [List.getElem?_map, cn_at h]; rfl
  refine kit_all (at_ (k := 0) (by decide)) xn (fun k C h => ?_) (fun C h => ?_) (at_ hi) (at_ hj)
  · have hk : k < 54 := by
      have := (List.getElem?_eq_some_iff.mp h).1
      rw [List.length_map] at this
      exact this
    rw [at_ hk] at h
    cases h
    have z := xm _ (List.mem_of_getElem? (cn_at hk))
    by_cases h0 : k = 0
    · rw [if_pos h0]
      rwa [if_pos ((cn_zero k hk).mpr h0)] at z
    · rw [if_neg h0]
      rwa [if_neg (fun e => h0 ((cn_zero k hk).mp e))] at z
  · obtain ⟨nm, hm, e⟩ := List.mem_map.mp h
    rw [← e]
    exact xa nm hm
theorem x_val {K : PySem.W.Frag} (xm : ∀ nm ∈ cn, mroB K (He.ga K nm) (if nm = "CustomError" then [] else [He.ga K "CustomError"]) = true) {k : Nat} (h : k < 54) : PySem.W.kitOne K (.ref (He.ga K (cn.getD k ""))) (.type "ValueError") = some true := by
  refine kitV (by rfl) (by decide +kernel) (((mroB_ok (xm _ (List.mem_of_getElem? (cn_at h)))).2 _).trans (congrArg some ?_))
  rw [List.contains_iff_mem]
  exact List.mem_append_right _ (by simp [veL])
theorem all_mk {w : World} {K : PySem.W.Frag} {h : Heap} {mg : Str → Option Value} {fa : Addr} (X : K.In h) (G : h.Ns mainGlobals mg) (hfa : mg "law" = some (.ref fa))
    {f_u_law_hand f_u_law_mix f_u_law_draw f_u_law_pick f_u_law_thing f_u_law_made f_u_law_fields f_u_law_kinds f_law : Addr}
    {fd_u_law_hand : FuncData}
    {fd_u_law_mix : FuncData}
    {fd_u_law_draw : FuncData}
    {fd_u_law_pick : FuncData}
    {fd_u_law_thing : FuncData}
    {fd_u_law_made : FuncData}
    {fd_u_law_fields : FuncData}
    {fd_u_law_kinds : FuncData}
    {fd_law : FuncData}
    (z_ValueError : PySem.W.nsIn K mainGlobals "ValueError" = some none)
    (z_abs : PySem.W.nsIn K mainGlobals "abs" = some none)
    (z_enumerate : PySem.W.nsIn K mainGlobals "enumerate" = some none)
    (z_int : PySem.W.nsIn K mainGlobals "int" = some none)
    (z_isinstance : PySem.W.nsIn K mainGlobals "isinstance" = some none)
    (z_len : PySem.W.nsIn K mainGlobals "len" = some none)
    (z_range : PySem.W.nsIn K mainGlobals "range" = some none)
    (z_str : PySem.W.nsIn K mainGlobals "str" = some none)
    (z_super : PySem.W.nsIn K mainGlobals "super" = some none)
    (opq : PySem.W.nsIn K cStatics "thirdparty.any" = some none)
    (xg : ∀ nm ∈ cn, PySem.W.nsIn K mainGlobals nm = some (some (.ref (He.ga K nm))))
    (xa : ∀ nm ∈ cn, XA K (He.ga K nm))
    (xm : ∀ nm ∈ cn, mroB K (He.ga K nm) (if nm = "CustomError" then [] else [He.ga K "CustomError"]) = true)
    (xn : (cn.map (He.ga K)).Nodup)
    (xc : ∀ p ∈ xiL, xcB K (He.ga K p.1.at_.1) (He.fAd K p.1.at_) p.2.2 = true)
    (x0 : ∀ k ∈ [0, 44], PySem.W.excIn K (He.ga K (cn.getD k "")) veL "ValueError.__new__" = true ∧ PySem.W.keepIn K (.ref (He.ga K (cn.getD k ""))) = true)
    (xi : ∀ d ∈ xis, (∃ fd, (∃ (oc : Value) (od : Option Addr) (osl : Array (Option Value)) (dV kV doc pm : Value) (an : Option Addr) (ct : Value), dfI K dV = xdf d ∧ fd = PySem.W.ksFn d.name d.qual d.params d.body d.scope dV kV doc pm an (.ref (He.codeOf K d.at_)) ct (ccA K d.at_) ∧ K.lookup (He.fAd K d.at_) = some ⟨oc, od, .func fd, osl⟩ ∧ PySem.W.codeIn K (.ref (He.codeOf K d.at_)) d.qual = true)) ∧ (∃ ccl cdd vs ccs tf, K.lookup (He.codeOf K d.at_) = some ⟨ccl, cdd, .fields vs, ccs⟩ ∧ vs[2]? = some (.str PW.main.file tf)) ∧ (∃ cl cld csl, K.lookup (ccA K d.at_) = some ⟨cl, cld, .cell (some (.ref (He.ga K d.at_.1))), csl⟩))
    (a_u_law_hand : PySem.W.nsIn K mainGlobals "_law_hand" = some (some (.ref f_u_law_hand)))
    (k_u_law_hand : PySem.W.keepIn K (.ref f_u_law_hand) = true)
    (F_u_law_hand : FunD K "_law_hand" "_law_hand" (defArgs s_u_law_hand) (defBody s_u_law_hand) (defScope s_u_law_hand) [] [] f_u_law_hand fd_u_law_hand)
    (a_u_law_mix : PySem.W.nsIn K mainGlobals "_law_mix" = some (some (.ref f_u_law_mix)))
    (k_u_law_mix : PySem.W.keepIn K (.ref f_u_law_mix) = true)
    (F_u_law_mix : FunD K "_law_mix" "_law_mix" (defArgs s_u_law_mix) (defBody s_u_law_mix) (defScope s_u_law_mix) [] [] f_u_law_mix fd_u_law_mix)
    (a_u_law_draw : PySem.W.nsIn K mainGlobals "_law_draw" = some (some (.ref f_u_law_draw)))
    (k_u_law_draw : PySem.W.keepIn K (.ref f_u_law_draw) = true)
    (F_u_law_draw : FunD K "_law_draw" "_law_draw" (defArgs s_u_law_draw) (defBody s_u_law_draw) (defScope s_u_law_draw) [] [] f_u_law_draw fd_u_law_draw)
    (a_u_law_pick : PySem.W.nsIn K mainGlobals "_law_pick" = some (some (.ref f_u_law_pick)))
    (k_u_law_pick : PySem.W.keepIn K (.ref f_u_law_pick) = true)
    (F_u_law_pick : FunD K "_law_pick" "_law_pick" (defArgs s_u_law_pick) (defBody s_u_law_pick) (defScope s_u_law_pick) [] [] f_u_law_pick fd_u_law_pick)
    (a_u_law_thing : PySem.W.nsIn K mainGlobals "_law_thing" = some (some (.ref f_u_law_thing)))
    (k_u_law_thing : PySem.W.keepIn K (.ref f_u_law_thing) = true)
    (F_u_law_thing : FunD K "_law_thing" "_law_thing" (defArgs s_u_law_thing) (defBody s_u_law_thing) (defScope s_u_law_thing) [] [] f_u_law_thing fd_u_law_thing)
    (a_u_law_made : PySem.W.nsIn K mainGlobals "_law_made" = some (some (.ref f_u_law_made)))
    (k_u_law_made : PySem.W.keepIn K (.ref f_u_law_made) = true)
    (F_u_law_made : FunD K "_law_made" "_law_made" (defArgs s_u_law_made) (defBody s_u_law_made) (defScope s_u_law_made) [] [] f_u_law_made fd_u_law_made)
    (a_u_law_fields : PySem.W.nsIn K mainGlobals "_law_fields" = some (some (.ref f_u_law_fields)))
    (k_u_law_fields : PySem.W.keepIn K (.ref f_u_law_fields) = true)
    (F_u_law_fields : FunD K "_law_fields" "_law_fields" (defArgs s_u_law_fields) (defBody s_u_law_fields) (defScope s_u_law_fields) [] [] f_u_law_fields fd_u_law_fields)
    (a_u_law_kinds : PySem.W.nsIn K mainGlobals "_law_kinds" = some (some (.ref f_u_law_kinds)))
    (k_u_law_kinds : PySem.W.keepIn K (.ref f_u_law_kinds) = true)
    (F_u_law_kinds : FunD K "_law_kinds" "_law_kinds" (defArgs s_u_law_kinds) (defBody s_u_law_kinds) (defScope s_u_law_kinds) [] [] f_u_law_kinds fd_u_law_kinds)
    (a_law : PySem.W.nsIn K mainGlobals "law" = some (some (.ref f_law)))
    (k_law : PySem.W.keepIn K (.ref f_law) = true)
    (F_law : FunD K "law" "law" (defArgs s_law) (defBody s_law) (defScope s_law) [] [] f_law fd_law)
    (hn : PySem.W.specialIn K (.builtin "object.__class__") "__get__" = some (some (.builtin "getset_descriptor.__get__")))
    (ht : PySem.W.takesIn K (.builtin "object.__class__") = some true) :
    ∃ fd : FuncData, (∀ (s : Shared) (u : Value), BindsTo s fd ⟨[u], []⟩ [("_law_script", u)]) ∧ ∀ base : Heap, K.In base → base.Ns mainGlobals mg → FnQ PW w K mg base (L2.CX PW w) 5 fa fd ["_law_script"] (spLaw K) := by
  have e := hfa.symm.trans (PySem.W.mg_of X G a_law)
  have e2 : fa = f_law := by
    cases e
    rfl
  rw [e2]

  have T : Txt K mg { cs := fun k => He.ga K (cn.getD k ""), xf := fun j => He.fAd K ((fun j => ((xiL[j]?).getD (df_BadRecord, 0, [])).1.at_) j), xcda := fun j => He.codeOf K ((fun j => ((xiL[j]?).getD (df_BadRecord, 0, [])).1.at_) j), xcc := fun j => ccA K ((fun j => ((xiL[j]?).getD (df_BadRecord, 0, [])).1.at_) j), xfd := fun j => fdOf K ((fun j => ((xiL[j]?).getD (df_BadRecord, 0, [])).1.at_) j) zfd, f_u_law_hand := f_u_law_hand, d_u_law_hand := fd_u_law_hand, f_u_law_mix := f_u_law_mix, d_u_law_mix := fd_u_law_mix, f_u_law_draw := f_u_law_draw, d_u_law_draw := fd_u_law_draw, f_u_law_pick := f_u_law_pick, d_u_law_pick := fd_u_law_pick, f_u_law_thing := f_u_law_thing, d_u_law_thing := fd_u_law_thing, f_u_law_made := f_u_law_made, d_u_law_made := fd_u_law_made, f_u_law_fields := f_u_law_fields, d_u_law_fields := fd_u_law_fields, f_u_law_kinds := f_u_law_kinds, d_u_law_kinds := fd_u_law_kinds, f_law := f_law, d_law := fd_law } := {
    z_ValueError := PySem.W.mg_none_of X G z_ValueError
    z_abs := PySem.W.mg_none_of X G z_abs
    z_enumerate := PySem.W.mg_none_of X G z_enumerate
    z_int := PySem.W.mg_none_of X G z_int
    z_isinstance := PySem.W.mg_none_of X G z_isinstance
    z_len := PySem.W.mg_none_of X G z_len
    z_range := PySem.W.mg_none_of X G z_range
    z_str := PySem.W.mg_none_of X G z_str
    z_super := PySem.W.mg_none_of X G z_super
    opq := opq
    cls := fun k nm h => by
      show _ = some (Value.ref (He.ga K (cn.getD k "")))
      rw [cn_get h]
      exact PySem.W.mg_of X G (xg nm (List.mem_of_getElem? h))
    xi := fun j p h => by
      have hp := List.mem_of_getElem? h
      obtain ⟨b1, b2, b3⟩ := xi_cn p hp
      obtain ⟨⟨fd, q⟩, q2, q3⟩ := xi p.1 (List.mem_map.mpr ⟨p, hp, rfl⟩)
      show XI PW K (He.ga K (cn.getD p.2.1 "")) p.1 (He.fAd K ((xiL[j]?).getD (df_BadRecord, 0, [])).1.at_) (He.codeOf K ((xiL[j]?).getD (df_BadRecord, 0, [])).1.at_) (ccA K ((xiL[j]?).getD (df_BadRecord, 0, [])).1.at_) (fdOf K ((xiL[j]?).getD (df_BadRecord, 0, [])).1.at_ zfd) p.2.2
      rw [h, b2]
      have e : fdOf K p.1.at_ zfd = fd := by
        obtain ⟨oc, od, osl, dV, kV, doc, pm, an, ct, _, _, l, _⟩ := q
        exact fdOf_eq l
      show XI PW K (He.ga K p.1.at_.1) p.1 (He.fAd K p.1.at_) (He.codeOf K p.1.at_) (ccA K p.1.at_) (fdOf K p.1.at_ zfd) p.2.2
      rw [e]
      exact xcB_ok (xa _ b3) (xm _ b3) (xc p hp) q q2 q3
    x0 := x0
    isx := fun c hc k b h => by
      unfold isT at h
      split at h
      · rename_i hk
        cases h
        exact ⟨x_exc xa xm hn ht hk, x_kit xa xm xn hk hc⟩
      · cases h
    isv := fun k b h => by
      unfold isV at h
      split at h
      · rename_i hk
        cases h
        exact ⟨x_exc xa xm hn ht hk, x_val xm hk⟩
      · cases h
    F_u_law_hand := F_u_law_hand
    b_u_law_hand := F_u_law_hand.bindsN fun _ _ _ _ _ _ us hl => match us, hl with | [_], _ => rfl
    m_u_law_hand := PySem.W.mg_of X G a_u_law_hand
    k_u_law_hand := k_u_law_hand
    F_u_law_mix := F_u_law_mix
    b_u_law_mix := F_u_law_mix.bindsN fun _ _ _ _ _ _ us hl => match us, hl with | [_, _], _ => rfl
    m_u_law_mix := PySem.W.mg_of X G a_u_law_mix
    k_u_law_mix := k_u_law_mix
    F_u_law_draw := F_u_law_draw
    b_u_law_draw := F_u_law_draw.bindsN fun _ _ _ _ _ _ us hl => match us, hl with | [_, _], _ => rfl
    m_u_law_draw := PySem.W.mg_of X G a_u_law_draw
    k_u_law_draw := k_u_law_draw
    F_u_law_pick := F_u_law_pick
    b_u_law_pick := F_u_law_pick.bindsN fun _ _ _ _ _ _ us hl => match us, hl with | [_, _], _ => rfl
    m_u_law_pick := PySem.W.mg_of X G a_u_law_pick
    k_u_law_pick := k_u_law_pick
    F_u_law_thing := F_u_law_thing
    b_u_law_thing := F_u_law_thing.bindsN fun _ _ _ _ _ _ us hl => match us, hl with | [_], _ => rfl
    m_u_law_thing := PySem.W.mg_of X G a_u_law_thing
    k_u_law_thing := k_u_law_thing
    F_u_law_made := F_u_law_made
    b_u_law_made := F_u_law_made.bindsN fun _ _ _ _ _ _ us hl => match us, hl with | [_], _ => rfl
    m_u_law_made := PySem.W.mg_of X G a_u_law_made
    k_u_law_made := k_u_law_made
    F_u_law_fields := F_u_law_fields
    b_u_law_fields := F_u_law_fields.bindsN fun _ _ _ _ _ _ us hl => match us, hl with | [_], _ => rfl
    m_u_law_fields := PySem.W.mg_of X G a_u_law_fields
    k_u_law_fields := k_u_law_fields
    F_u_law_kinds := F_u_law_kinds
    b_u_law_kinds := F_u_law_kinds.bindsN fun _ _ _ _ _ _ us hl => match us, hl with | [_], _ => rfl
    m_u_law_kinds := PySem.W.mg_of X G a_u_law_kinds
    k_u_law_kinds := k_u_law_kinds
    F_law := F_law
    b_law := F_law.bindsN fun _ _ _ _ _ _ us hl => match us, hl with | [_], _ => rfl
    m_law := PySem.W.mg_of X G a_law
    k_law := k_law
    hn := hn
    ht := ht }
  exact ⟨_, fun s v => F_law.bindsA (ps := ["_law_script"]) (fun _ _ _ _ _ _ us hl => match us, hl with | [_], _ => rfl) s [v] rfl, fun base _ _ => (ok_law T).imp law_spec⟩
theorem facts {w : World} {K : PySem.W.Frag} {h : Heap} {mg : Str → Option Value} {fa : Addr} (X : K.In h) (G : h.Ns mainGlobals mg) (hfa : mg ("law" : Str) = some (.ref fa)) (c : SaysN exs fns xis PW.main.file K) :
    ∃ fd : FuncData, (∀ (s : Shared) (u : Value), BindsTo s fd ⟨[u], []⟩ [("_law_script", u)]) ∧ ∀ base : Heap, K.In base → base.Ns mainGlobals mg → FnQ PW w K mg base (L2.CX PW w) 5 fa fd ["_law_script"] (spLaw K) := by
  obtain ⟨fd_u_law_hand, F_u_law_hand⟩ := c.def_ 0 (d := df_u_law_hand) rfl
  obtain ⟨fd_u_law_mix, F_u_law_mix⟩ := c.def_ 1 (d := df_u_law_mix) rfl
  obtain ⟨fd_u_law_draw, F_u_law_draw⟩ := c.def_ 2 (d := df_u_law_draw) rfl
  obtain ⟨fd_u_law_pick, F_u_law_pick⟩ := c.def_ 3 (d := df_u_law_pick) rfl
  obtain ⟨fd_u_law_thing, F_u_law_thing⟩ := c.def_ 4 (d := df_u_law_thing) rfl
  obtain ⟨fd_u_law_made, F_u_law_made⟩ := c.def_ 5 (d := df_u_law_made) rfl
  obtain ⟨fd_u_law_fields, F_u_law_fields⟩ := c.def_ 6 (d := df_u_law_fields) rfl
  obtain ⟨fd_u_law_kinds, F_u_law_kinds⟩ := c.def_ 7 (d := df_u_law_kinds) rfl
  obtain ⟨fd_law, F_law⟩ := c.def_ 8 (d := df_law) rfl
  have xi := fun (d : He.DefD) (hd : d ∈ xis) => (fun (j : Nat) (hj : xis[j]? = some d) => xiB_ok (c.xi_ j hj).1 (c.xi_ j hj).2) _ (List.getElem?_eq_some_iff.mpr (List.mem_iff_getElem.mp hd).choose_spec)
  have e := c.ex_
  unfold exs at e
  obtain ⟨e_0, e⟩ := He.ba e
  unfold ex_a at e_0
  obtain ⟨z_ValueError, e_0⟩ := He.ba e_0
  obtain ⟨z_abs, e_0⟩ := He.ba e_0
  obtain ⟨z_enumerate, e_0⟩ := He.ba e_0
  obtain ⟨z_int, e_0⟩ := He.ba e_0
  obtain ⟨z_isinstance, e_0⟩ := He.ba e_0
  obtain ⟨z_len, e_0⟩ := He.ba e_0
  obtain ⟨z_range, e_0⟩ := He.ba e_0
  obtain ⟨z_str, e_0⟩ := He.ba e_0
  obtain ⟨z_super, e_0⟩ := He.ba e_0
  obtain ⟨opq, e_0⟩ := He.ba e_0
  obtain ⟨a_u_law_hand, e_0⟩ := He.ba e_0
  obtain ⟨k_u_law_hand, e_0⟩ := He.ba e_0
  obtain ⟨a_u_law_mix, e_0⟩ := He.ba e_0
  obtain ⟨k_u_law_mix, e_0⟩ := He.ba e_0
  obtain ⟨a_u_law_draw, e_0⟩ := He.ba e_0
  obtain ⟨k_u_law_draw, e_0⟩ := He.ba e_0
  obtain ⟨a_u_law_pick, e_0⟩ := He.ba e_0
  obtain ⟨k_u_law_pick, e_0⟩ := He.ba e_0
  obtain ⟨a_u_law_thing, e_0⟩ := He.ba e_0
  obtain ⟨k_u_law_thing, e_0⟩ := He.ba e_0
  obtain ⟨a_u_law_made, e_0⟩ := He.ba e_0
  obtain ⟨k_u_law_made, e_0⟩ := He.ba e_0
  obtain ⟨a_u_law_fields, e_0⟩ := He.ba e_0
  obtain ⟨k_u_law_fields, e_0⟩ := He.ba e_0
  obtain ⟨a_u_law_kinds, e_0⟩ := He.ba e_0
  obtain ⟨k_u_law_kinds, e_0⟩ := He.ba e_0
  obtain ⟨a_law, e_0⟩ := He.ba e_0
  obtain ⟨k_law, e_0⟩ := He.ba e_0
  obtain ⟨hn, e_0⟩ := He.ba e_0
  have ht := e_0
  obtain ⟨e_1, e⟩ := He.ba e
  unfold ex_b at e_1
  obtain ⟨xg, e_1⟩ := He.ba e_1
  obtain ⟨xm, e_1⟩ := He.ba e_1
  obtain ⟨xn, e_1⟩ := He.ba e_1
  have x0 := e_1
  obtain ⟨e_2, e⟩ := He.ba e
  unfold ex_c at e_2
  have xa := e_2
  unfold ex_d at e
  have xc := e
  exact all_mk X G hfa (of_decide_eq_true z_ValueError) (of_decide_eq_true z_abs) (of_decide_eq_true z_enumerate) (of_decide_eq_true z_int) (of_decide_eq_true z_isinstance) (of_decide_eq_true z_len) (of_decide_eq_true z_range) (of_decide_eq_true z_str) (of_decide_eq_true z_super) (of_decide_eq_true opq) (fun nm h => of_decide_eq_true (List.all_eq_true.mp xg nm h)) (fun nm h => xaB_ok (List.all_eq_true.mp xa nm h)) (fun nm h => List.all_eq_true.mp xm nm h) (of_decide_eq_true xn) (fun p h => List.all_eq_true.mp xc p h) (fun k h => He.ba (List.all_eq_true.mp x0 k h)) xi (of_decide_eq_true a_u_law_hand) (of_decide_eq_true k_u_law_hand) F_u_law_hand (of_decide_eq_true a_u_law_mix) (of_decide_eq_true k_u_law_mix) F_u_law_mix (of_decide_eq_true a_u_law_draw) (of_decide_eq_true k_u_law_draw) F_u_law_draw (of_decide_eq_true a_u_law_pick) (of_decide_eq_true k_u_law_pick) F_u_law_pick (of_decide_eq_true a_u_law_thing) (of_decide_eq_true k_u_law_thing) F_u_law_thing (of_decide_eq_true a_u_law_made) (of_decide_eq_true k_u_law_made) F_u_law_made (of_decide_eq_true a_u_law_fields) (of_decide_eq_true k_u_law_fields) F_u_law_fields (of_decide_eq_true a_u_law_kinds) (of_decide_eq_true k_u_law_kinds) F_u_law_kinds (of_decide_eq_true a_law) (of_decide_eq_true k_law) F_law (of_decide_eq_true hn) (of_decide_eq_true ht)
end G
open PySem PySem.W PySem.Calls PyProof.Rows in
set_option maxRecDepth 100000 in
set_option maxHeartbeats 0 in
theorem PySem.Challenge.cw_namesakes_k00_errors_side_by_side_holds : PySem.Challenge.rw_namesakes_k00_errors_side_by_side.Holds := by
  w_on; o_law
  refine HandSHeadRun.head_any (r := OpenLaw.row PySem.Challenge.rw_namesakes_k00_errors_side_by_side) (q := view (OpenLaw.row PySem.Challenge.rw_namesakes_k00_errors_side_by_side).prog [64]) (H := G.hk) (ob := G.obs) (M := 20000) (loose := G.loose) (d := HandSHeadRun.topDef (OpenLaw.row PySem.Challenge.rw_namesakes_k00_errors_side_by_side).prog 64) (kwd := []) G.obs_eq
    (by kernel_rfl) (fun s => by kernel_rfl) G.run (by kernel_rfl) (by kernel_rfl) (by kernel_rfl) (by rfl) (by first | assumption | decide +kernel) (by decide +kernel) ⟨rfl, rfl, rfl, rfl, rfl, by decide +kernel⟩ ?hw ?hc
  case hw => w_witness2
  case hc =>
    refine NK.walk_ofNQ (l := PySem.Challenge.rw_namesakes_k00_errors_side_by_side) (n := 63) (k := 5) (x := "_law_script") (CX := fun w => L2.CX G.PW w) rfl (by decide) (by kernel_rfl) ⟨rfl, by decide, by decide⟩ rfl ?F (fun _ _ _ _ _ z => NK.cx_false z)
    intro w mg fa h Y Gn hmg0
    obtain ⟨K, KX, c⟩ := Y
    have hmg : mg ("law" : PySem.Str) = some (.ref fa) := by
      have e : (HandSHeadRun.topDef (OpenLaw.row PySem.Challenge.rw_namesakes_k00_errors_side_by_side).prog 64).name = ("law" : PySem.Str) := by kernel_rfl
      rw [← e]
      exact hmg0
    obtain ⟨fd, hb, hF⟩ := G.facts (w := w) KX Gn hmg c
    exact ⟨K, fd, G.spLaw K, KX, hb, fun H a ns hl hS => ⟨a, ns, rfl, hS, hl, fun _ => rfl⟩, hF⟩

