import PyProof.Rows.All
import Wide.All
import OpenK.AllK
import Wide.FinOn
import HandS.ForMost
import HandS.IsInst
import HandS.ForExc
import HandS.Walk
import HandS.CallSlots
import HandS.Strs
import HandS.Lambda
import HandS.Wide
import KE.KSuper
import KE.KExcSuper
import HandS.ExcInit
import HandS.ExcIs
import HandS.ExcField
import HandS.ExcOwn
import HandS.SetBool
import KE.GoesMore
import HandS.WordsExc
import HandS.Defaults
import HandS.Conv
import HandS.Dict
import HandS.TupAny
import HandS.Deep
import HandS.OwnIter
import HandS.IterVal
import HandS.Style
import PyProof.WalksMore
import PyProof.CollectWalk
import HandS.Iter
import HandS.GenList
import HandS.Star
import HandS.Text
import HandS.StrMore
import HandS.FStr
import HandS.Flow
import PyProof.FString3
import PyProof.StrOps2
import KE.KxField
import HandS.TryMany
import HandS.EndTab
import HandS.ClsMeth
import HandS.OwnEq
import HandS.MakeKwOnly
import HandS.RaiseMore
import KE.KCallOwn
import HandS.More
import HandS.Replace
import KE.DataMinMax
import HandS.SortKw
import HandS.Zip
import HandS.SetKeys
import HandS.TupLen
import PyProof.Rows.NestShow
import HandS.Property
import PySem.Challenge.RW_namesakes_k27_whole_rows_of_names_led_to
import PyProof.Rows.ReprOcc
import PyProof.ReprBulk
import PyProof.Rows.StrJoinMade
import KE.RegKSuper
set_option Elab.async false
set_option linter.all false
set_option maxRecDepth 100000
set_option maxHeartbeats 2000000
namespace NK
open PySem L2

inductive Ty where
  | none | bool | int | str | list | tuple | dict
  deriving DecidableEq
def Ty.name : Ty → String
  | .none => "NoneType" | .bool => "bool" | .int => "int" | .str => "str" | .list => "list" | .tuple => "tuple" | .dict => "dict"
inductive U where
  | non | bl (b : Bool) | int (i : Int) | str (x : Str)
  | tup (us : List U) | lst (us : List U) | ins (k : Nat) (us : List U)
  | loc (i : Nat)
  | ty (t : Ty) | cls (k : Nat) | scr (us : List U)

inductive Ob where
  | lst (us : List U)
  | dK (kvs : List (Key × U))
  | dT (kvs : List (List Key × U))
  | ins (k : Nat) (us : List U)
  | iset (ks : List Int)
  | tp (us : List U)
  | dead
  | lk (o : Ob)
def Ob.isLk : Ob → Bool
  | .lk _ => true
  | _ => false

abbrev Sto := List Ob

structure Ex where
  k : Nat
  us : List U

inductive Out (α : Type) where
  | ok (a : α) (s : Sto)
  | exc (x : Ex) (s : Sto)
  | bad

def Out.bind {α β : Type} (r : Out α) (f : α → Sto → Out β) : Out β := match r with
  | .ok a s => f a s
  | .exc x s => .exc x s
  | .bad => .bad

structure Tb where
  w : World
  K : PySem.W.Frag
  cls : Nat → Addr
  fld : Nat → List Str
  tabs : List (Addr × Str) := []

structure Cn where
  ρ : Nat → Addr
  n : Nat
  F : Hp
  L : Hp

mutual
inductive Rp (T : Tb) (c : Cn) : U → V → Prop
  | non : Rp T c .non .non
  | bl (b : Bool) : Rp T c (.bl b) (.bl b)
  | int (i : Int) : Rp T c (.int i) (.int i)
  | str (x : Str) : Rp T c (.str x) (.str x)
  | ty (t : Ty) : Rp T c (.ty t) (.ty t.name)
  | cls (k : Nat) : Rp T c (.cls k) (.ref (T.cls k))
  | scr {us : List U} {a : Addr} {vs : List V} : SqL T.K c.F a vs → RpL T c us vs → Rp T c (.scr us) (.ref a)
  | tup {us : List U} {a : Addr} {vs : List V} : SqT T.K c.F a vs → RpL T c us vs → Rp T c (.tup us) (.ref a)
  | lst {us : List U} {a : Addr} {vs : List V} : c.F a = some (.lst vs) → RpL T c us vs → Rp T c (.lst us) (.ref a)
  | ins {k : Nat} {us : List U} {a dx : Addr} {vs : List V} : c.F a = some (.ins (T.cls k) dx ((T.fld k).zip vs)) → vs.length ≤ (T.fld k).length → RpL T c us vs → Rp T c (.ins k us) (.ref a)
  | loc {i : Nat} : i < c.n → Rp T c (.loc i) (.ref (c.ρ i))
inductive RpL (T : Tb) (c : Cn) : List U → List V → Prop
  | nil : RpL T c [] []
  | cons {u : U} {v : V} {us : List U} {vs : List V} : Rp T c u v → RpL T c us vs → RpL T c (u :: us) (v :: vs)
end

inductive RpK {κ : Type} (T : Tb) (c : Cn) : List (κ × U) → List (κ × V) → Prop
  | nil : RpK T c [] []
  | cons {k : κ} {u : U} {v : V} {us : List (κ × U)} {vs : List (κ × V)} : Rp T c u v → RpK T c us vs → RpK T c ((k, u) :: us) ((k, v) :: vs)

structure Le (c c' : Cn) : Prop where
  n : c.n ≤ c'.n
  ρ : ∀ i, i < c.n → c'.ρ i = c.ρ i
  F : ∀ a o, c.F a = some o → c'.F a = some o
  L : ∀ a o, c.L a = some o → c'.L a = some o
theorem Le.refl (c : Cn) : Le c c := ⟨Nat.le_refl _, fun _ _ => rfl, fun _ _ h => h, fun _ _ h => h⟩
theorem Le.trans {a b c : Cn} (h : Le a b) (g : Le b c) : Le a c :=
  ⟨Nat.le_trans h.n g.n, fun i hi => (g.ρ i (Nat.lt_of_lt_of_le hi h.n)).trans (h.ρ i hi), fun x o e => g.F x o (h.F x o e), fun x o e => g.L x o (h.L x o e)⟩

theorem rd_mono {F F' : Hp} (h : ∀ a o, F a = some o → F' a = some o) {a : Addr} {u : HO} (r : Rd F a u) : Rd F' a u := by
  rcases r with r | ⟨o, r⟩
  · exact .inl (h _ _ r)
  · exact .inr ⟨o, h _ _ r⟩
theorem sqT_mono {K : PySem.W.Frag} {F F' : Hp} (h : ∀ a o, F a = some o → F' a = some o) {a : Addr} {vs : List V} (r : SqT K F a vs) : SqT K F' a vs := by
  rcases r with r | r
  · exact .inl (rd_mono h r)
  · exact .inr r
theorem sqL_mono {K : PySem.W.Frag} {F F' : Hp} (h : ∀ a o, F a = some o → F' a = some o) {a : Addr} {vs : List V} (r : SqL K F a vs) : SqL K F' a vs := by
  rcases r with r | r
  · exact .inl (rd_mono h r)
  · exact .inr r

mutual
theorem Rp.mono {T : Tb} {c c' : Cn} (h : Le c c') : ∀ {u : U} {v : V}, Rp T c u v → Rp T c' u v
  | _, _, .non => .non
  | _, _, .bl b => .bl b
  | _, _, .int i => .int i
  | _, _, .str x => .str x
  | _, _, .ty n => .ty n
  | _, _, .cls k => .cls k
  | _, _, .scr e r => .scr (sqL_mono h.F e) (RpL.mono h r)
  | _, _, .tup e r => .tup (sqT_mono h.F e) (RpL.mono h r)
  | _, _, .lst e r => .lst (h.F _ _ e) (RpL.mono h r)
  | _, _, .ins e l r => .ins (h.F _ _ e) l (RpL.mono h r)
  | _, _, .loc (i := i) hi => by
    have e := h.ρ i hi
    rw [← e]
    exact .loc (Nat.lt_of_lt_of_le hi h.n)
theorem RpL.mono {T : Tb} {c c' : Cn} (h : Le c c') : ∀ {us : List U} {vs : List V}, RpL T c us vs → RpL T c' us vs
  | _, _, .nil => .nil
  | _, _, .cons r t => .cons (Rp.mono h r) (RpL.mono h t)
end
theorem RpK.mono {κ : Type} {T : Tb} {c c' : Cn} (h : Le c c') : ∀ {us : List (κ × U)} {vs : List (κ × V)}, RpK T c us vs → RpK T c' us vs
  | _, _, .nil => .nil
  | _, _, .cons r t => .cons (Rp.mono h r) (RpK.mono h t)

section
variable {T : Tb} {c : Cn}
theorem RpL.length : ∀ {us : List U} {vs : List V}, RpL T c us vs → us.length = vs.length
  | _, _, .nil => rfl
  | _, _, .cons _ t => by simp [RpL.length t]
theorem RpL.get : ∀ {us : List U} {vs : List V} {i : Nat} {u : U}, RpL T c us vs → us[i]? = some u → ∃ v, vs[i]? = some v ∧ Rp T c u v
  | _, _, _, _, .nil, e => by simp at e
  | _, _, 0, _, .cons r _, e => by simp at e; subst e; exact ⟨_, rfl, r⟩
  | _, _, i + 1, u, .cons _ t, e => by
    obtain ⟨v, h1, h2⟩ := RpL.get (i := i) (u := u) t (by simpa using e)
    exact ⟨v, by simpa using h1, h2⟩
theorem RpL.getV : ∀ {us : List U} {vs : List V} {i : Nat} {v : V}, RpL T c us vs → vs[i]? = some v → ∃ u, us[i]? = some u ∧ Rp T c u v
  | _, _, _, _, .nil, e => by simp at e
  | _, _, 0, _, .cons r _, e => by simp at e; subst e; exact ⟨_, rfl, r⟩
  | _, _, i + 1, v, .cons _ t, e => by
    obtain ⟨u, h1, h2⟩ := RpL.getV (i := i) (v := v) t (by simpa using e)
    exact ⟨u, by simpa using h1, h2⟩
theorem RpL.append : ∀ {us us' : List U} {vs vs' : List V}, RpL T c us vs → RpL T c us' vs' → RpL T c (us ++ us') (vs ++ vs')
  | _, _, _, _, .nil, s => s
  | _, _, _, _, .cons r t, s => .cons r (RpL.append t s)
theorem RpL.set : ∀ {us : List U} {vs : List V} (i : Nat) {u : U} {v : V}, RpL T c us vs → Rp T c u v → RpL T c (us.set i u) (vs.set i v)
  | _, _, _, _, _, .nil, _ => .nil
  | _, _, 0, _, _, .cons _ t, r => .cons r t
  | _, _, i + 1, _, _, .cons q t, r => .cons q (RpL.set i t r)
theorem RpL.take : ∀ {us : List U} {vs : List V} (i : Nat), RpL T c us vs → RpL T c (us.take i) (vs.take i)
  | _, _, 0, _ => .nil
  | _, _, _ + 1, .nil => .nil
  | _, _, i + 1, .cons r t => .cons r (RpL.take i t)
theorem RpL.drop : ∀ {us : List U} {vs : List V} (i : Nat), RpL T c us vs → RpL T c (us.drop i) (vs.drop i)
  | _, _, 0, r => r
  | _, _, _ + 1, .nil => .nil
  | _, _, i + 1, .cons _ t => RpL.drop i t
theorem RpL.one {u : U} {v : V} (r : Rp T c u v) : RpL T c [u] [v] := .cons r .nil
theorem RpL.inv_cons {u : U} {us : List U} {ws : List V} (r : RpL T c (u :: us) ws) : ∃ v vs, ws = v :: vs ∧ Rp T c u v ∧ RpL T c us vs := by
  cases r with
  | cons a b => exact ⟨_, _, rfl, a, b⟩
theorem RpL.inv_nil {ws : List V} (r : RpL T c [] ws) : ws = [] := by
  cases r with
  | nil => rfl
end

def RO (T : Tb) (c : Cn) : Ob → Addr → HO → Prop
  | .lst us, _, h => ∃ vs, h = .lst vs ∧ RpL T c us vs
  | .tp us, _, h => ∃ vs, h = .tup vs ∧ RpL T c us vs
  | .dK kvs, _, h => ∃ vs, h = .dK vs ∧ RpK T c kvs vs
  | .dT kvs, _, h => ∃ vs, h = .dT vs ∧ RpK T c kvs vs
  | .ins k us, _, h => ∃ dx vs, h = .ins (T.cls k) dx ((T.fld k).zip vs) ∧ vs.length ≤ (T.fld k).length ∧ RpL T c us vs
  | .iset ks, a, h => h = SetO T.w a (fun k => decide (k ∈ ks)) ks.length
  | .dead, _, _ => False
  | .lk o, a, h => ∃ od x, h = .frz od x ∧ c.L a = some h ∧ RO T c o a x
theorem RO.mono {T : Tb} {c c' : Cn} (l : Le c c') {o : Ob} {a : Addr} {h : HO} (r : RO T c o a h) : RO T c' o a h := by
  induction o generalizing h with
  | lk o ih => obtain ⟨od, x, e, k, r⟩ := r; exact ⟨od, x, e, l.L _ _ k, ih r⟩
  | lst us => obtain ⟨vs, e, r⟩ := r; exact ⟨vs, e, r.mono l⟩
  | tp us => obtain ⟨vs, e, r⟩ := r; exact ⟨vs, e, r.mono l⟩
  | dK kvs => obtain ⟨vs, e, r⟩ := r; exact ⟨vs, e, r.mono l⟩
  | dT kvs => obtain ⟨vs, e, r⟩ := r; exact ⟨vs, e, r.mono l⟩
  | ins k us => obtain ⟨dx, vs, e, z, r⟩ := r; exact ⟨dx, vs, e, z, r.mono l⟩
  | iset ks => exact r
  | dead => exact r.elim

def TabF (F H : Hp) (p : Addr × Str) : Prop := ∃ ps : Array Value, H p.1 = some (.tbl ps) ∧ TriplesOk ps.toList ∧ ∀ (z : Pos) (v : Value), codeAmong z ps.toList = some v → ∃ a, v = .ref a ∧ F a = some (LamX.CodeO a p.2)
theorem TabF.mono {F F' H H' : Hp} {p : Addr × Str} (h : TabF F H p) (f : ∀ a o, F a = some o → F' a = some o) (g : ∀ ps, H p.1 = some (.tbl ps) → H' p.1 = some (.tbl ps)) : TabF F' H' p := by
  obtain ⟨ps, h1, h2, h3⟩ := h
  refine ⟨ps, g ps h1, h2, fun z v e => ?_⟩
  obtain ⟨a, e1, e2⟩ := h3 z v e
  exact ⟨a, e1, f _ _ e2⟩
def isTbl : HO → Bool
  | .tbl _ => true
  | _ => false
structure RH (T : Tb) (c : Cn) (st : Sto) (H : Hp) : Prop where
  n : c.n = st.length
  sub : ∀ a o, c.F a = some o → H a = some o
  act : ∀ i o, st[i]? = some o → o ≠ .dead → ∃ h, H (c.ρ i) = some h ∧ RO T c o (c.ρ i) h ∧ c.F (c.ρ i) = none
  inj : ∀ i j a b, st[i]? = some a → a ≠ .dead → st[j]? = some b → b ≠ .dead → c.ρ i = c.ρ j → i = j
  lkd : ∀ a o, c.L a = some o → H a = some o ∧ ∃ od x, o = .frz od x
  tab : ∀ p ∈ T.tabs, TabF c.F H p
  ntb : ∀ a o, c.F a = some o → isTbl o = false
theorem RO.notbl {T : Tb} {c : Cn} {o : Ob} {a : Addr} {h : HO} (r : RO T c o a h) : isTbl h = false := by
  cases o with
  | lst us => obtain ⟨vs, e, _⟩ := r; rw [e]; rfl
  | tp us => obtain ⟨vs, e, _⟩ := r; rw [e]; rfl
  | dK us => obtain ⟨vs, e, _⟩ := r; rw [e]; rfl
  | dT us => obtain ⟨vs, e, _⟩ := r; rw [e]; rfl
  | ins k us => obtain ⟨dx, vs, e, _⟩ := r; rw [e]; rfl
  | iset ks =>
    have e : h = SetO T.w a (fun k => decide (k ∈ ks)) ks.length := r
    rw [e]
    rfl
  | dead => exact r.elim
  | lk o => obtain ⟨od, x, e, _⟩ := r; rw [e]; rfl
theorem tbl_upd {H : Hp} {a b : Addr} {o : HO} (h : H b = none ∨ ∃ u, H b = some u ∧ isTbl u = false) (ps : Array Value) (e : H a = some (.tbl ps)) : upd H b o a = some (.tbl ps) := by
  rw [upd_ne]
  · exact e
  · intro z
    rw [z] at e
    rcases h with h | ⟨u, h, k⟩
    · rw [h] at e
      cases e
    · rw [h] at e
      cases e
      cases k
theorem RO.nofrz {T : Tb} {c : Cn} {o : Ob} {a : Addr} {h : HO} (k : o.isLk = false) (r : RO T c o a h) : ∀ od x, h ≠ .frz od x := by
  intro od x e
  subst e
  cases o with
  | lst us => obtain ⟨vs, e, _⟩ := r; cases e
  | tp us => obtain ⟨vs, e, _⟩ := r; cases e
  | dK us => obtain ⟨vs, e, _⟩ := r; cases e
  | dT us => obtain ⟨vs, e, _⟩ := r; cases e
  | ins k us => obtain ⟨dx, vs, e, _⟩ := r; cases e
  | iset ks => cases (show HO.frz od x = SetO T.w a (fun k => decide (k ∈ ks)) ks.length from r)
  | dead => exact r
  | lk o => cases k

def RX (T : Tb) (c : Cn) (x : Ex) (cls : Value) (d : Option Addr) : Prop :=
  cls = .ref (T.cls x.k) ∧ ∃ (dx : Addr) (vs : List V), d = some dx ∧ c.F dx = some (.xd (((T.fld x.k).zip vs).reverse)) ∧ vs.length = (T.fld x.k).length ∧ RpL T c x.us vs
theorem RX.mono {T : Tb} {c c' : Cn} (l : Le c c') {x : Ex} {cls : Value} {d : Option Addr} (r : RX T c x cls d) : RX T c' x cls d := by
  obtain ⟨e, dx, vs, h1, h2, h3, h4⟩ := r
  exact ⟨e, dx, vs, h1, l.F _ _ h2, h3, h4.mono l⟩

structure PinD where
  i : Nat
  a : Addr
  x : Ex
  cls : Value
  d : Option Addr
abbrev Pin := Option PinD
def pinned (P : Pin) (i : Nat) : Bool := match P with
  | some p => p.i == i
  | none => false

abbrev Env := List (Option U)
structure RE (T : Tb) (P : Pin) (c : Cn) (env : Env) (σ : St) : Prop where
  len : env.length = σ.length
  get : ∀ (i : Nat) (u : U), env[i]? = some (some u) → ∃ v, σ[i]? = some (some v) ∧ Rp T c u v
  pin : ∀ p, P = some p → σ[p.i]? = some (some (.ref p.a)) ∧ RX T c p.x p.cls p.d
theorem RE.mono {T : Tb} {P : Pin} {c c' : Cn} (l : Le c c') {env : Env} {σ : St} (r : RE T P c env σ) : RE T P c' env σ :=
  ⟨r.len, fun i u e => let ⟨v, h, q⟩ := r.get i u e; ⟨v, h, q.mono l⟩, fun p e => ⟨(r.pin p e).1, (r.pin p e).2.mono l⟩⟩
theorem RE.set {T : Tb} {P : Pin} {c : Cn} {env : Env} {σ : St} (r : RE T P c env σ) {u : U} {v : V} (q : Rp T c u v) (i : Nat) (hp : pinned P i = false) : RE T P c (env.set i (some u)) (σ.set i (some v)) := by
  refine ⟨by simp [r.len], fun j w e => ?_, fun p e => ⟨?_, (r.pin p e).2⟩⟩
  · by_cases h : i = j
    · subst h
      have hi : i < env.length := by
        have := (List.getElem?_eq_some_iff.mp e).1
        simpa using this
      rw [List.getElem?_set_self hi] at e
      cases e
      exact ⟨v, by rw [List.getElem?_set_self (by rw [← r.len]; exact hi)], q⟩
    · rw [List.getElem?_set_ne h] at e
      rw [List.getElem?_set_ne h]
      exact r.get j w e
  · subst e
    have h : i ≠ p.i := fun z => by
      have z' : (p.i == i) = false := hp
      rw [z] at z'
      simp at z'
    rw [List.getElem?_set_ne h]
    exact (r.pin p rfl).1
theorem RE.unset {T : Tb} {P : Pin} {c : Cn} {env : Env} {σ : St} (r : RE T P c env σ) (i : Nat) (hp : pinned P i = false) : RE T P c (env.set i none) (σ.set i none) := by
  refine ⟨by simp [r.len], fun j w e => ?_, fun p e => ⟨?_, (r.pin p e).2⟩⟩
  · by_cases h : i = j
    · subst h
      have hi : i < env.length := by
        have := (List.getElem?_eq_some_iff.mp e).1
        simpa using this
      rw [List.getElem?_set_self hi] at e
      cases e
    · rw [List.getElem?_set_ne h] at e
      rw [List.getElem?_set_ne h]
      exact r.get j w e
  · subst e
    have h : i ≠ p.i := fun z => by
      have z' : (p.i == i) = false := hp
      rw [z] at z'
      simp at z'
    rw [List.getElem?_set_ne h]
    exact (r.pin p rfl).1
theorem RE.weak {T : Tb} {P : Pin} {c : Cn} {env env' : Env} {σ : St} (r : RE T P c env σ) (hl : env'.length = env.length) (h : ∀ (i : Nat) u, env'[i]? = some (some u) → env[i]? = some (some u)) : RE T P c env' σ :=
  ⟨hl.trans r.len, fun i u e => r.get i u (h i u e), r.pin⟩

def ResG {α β : Type} (T : Tb) (Wx : WX) (c : Cn) (σ : St) (R : Cn → α → β → Prop) (r : Out α) (Q : β → Hp → Prop) : Prop := match r with
  | .ok u st' => ∀ c' v H', Le c c' → RH T c' st' H' → R c' u v → Q v H'
  | .exc x st' => ∀ c' cls d H', Le c c' → RH T c' st' H' → RX T c' x cls d → Wx cls d σ H'
  | .bad => False
abbrev MG (α : Type) := Env → Sto → Out α
abbrev ME := MG U
abbrev MT := MG Bool
abbrev MA := MG (List U)
def tgOf {α β : Type} (T : Tb) (P : Pin) (Wx : WX) (R : Cn → α → β → Prop) (m : MG α) : St → Hp → (β → Hp → Prop) → Prop :=
  fun σ H Q => ∃ c env st, RH T c st H ∧ RE T P c env σ ∧ ResG T Wx c σ R (m env st) Q
abbrev teOf (T : Tb) (P : Pin) (Wx : WX) (m : ME) : TE := tgOf T P Wx (Rp T) m
abbrev ttOf (T : Tb) (P : Pin) (Wx : WX) (m : MT) : TT := tgOf T P Wx (fun _ a b => a = b) m
abbrev taOf (T : Tb) (P : Pin) (Wx : WX) (m : MA) : TA := tgOf T P Wx (RpL T) m

section
variable {α β γ δ : Type} {T : Tb} {P : Pin} {Wx : WX} {R : Cn → α → β → Prop} {R' : Cn → γ → δ → Prop} {c c' : Cn} {σ : St} {r : Out α} {H : Hp} {m : MG α}
theorem ResG.mono {Q Q' : β → Hp → Prop} (h : ResG T Wx c σ R r Q) (k : ∀ v H, Q v H → Q' v H) : ResG T Wx c σ R r Q' := by
  cases r with
  | ok u st => exact fun c' v H' a b d => k _ _ (h c' v H' a b d)
  | exc x st => exact h
  | bad => exact h
theorem ResG.later {Q : β → Hp → Prop} (l : Le c c') (h : ResG T Wx c σ R r Q) : ResG T Wx c' σ R r Q := by
  cases r with
  | ok u st => exact fun c2 v H' a b d => h c2 v H' (l.trans a) b d
  | exc x st => exact fun c2 cls d H' a b e => h c2 cls d H' (l.trans a) b e
  | bad => exact h
theorem tgOf.mono {Q Q' : β → Hp → Prop} (h : tgOf T P Wx R m σ H Q) (k : ∀ v H, Q v H → Q' v H) : tgOf T P Wx R m σ H Q' :=
  let ⟨c, env, st, a, b, r⟩ := h
  ⟨c, env, st, a, b, r.mono k⟩
theorem tg_bind {k : α → Sto → Out γ} {env : Env} {st : Sto} {Q : δ → Hp → Prop} (hH : RH T c st H) (hE : RE T P c env σ) (hR : ResG T Wx c σ R' ((m env st).bind k) Q) :
    tgOf T P Wx R m σ H fun x H1 => ∃ u c1 st1, Le c c1 ∧ RH T c1 st1 H1 ∧ RE T P c1 env σ ∧ R c1 u x ∧ ResG T Wx c1 σ R' (k u st1) Q := by
  refine ⟨c, env, st, hH, hE, ?_⟩
  cases e : m env st with
  | ok u st1 =>
    rw [e] at hR
    exact fun c1 v H1 l h r => ⟨u, c1, st1, l, h, hE.mono l, r, ResG.later l hR⟩
  | exc x st1 =>
    rw [e] at hR
    exact hR
  | bad =>
    rw [e] at hR
    exact hR
theorem ResG.ret {Q : β → Hp → Prop} {u : α} {v : β} {st : Sto} (h : ResG T Wx c σ R (.ok u st) Q) (hH : RH T c st H) (r : R c u v) : Q v H := h c v H (Le.refl c) hH r
end

def PEm (X : Cx) (T : Tb) (P : Pin) (Wx : WX) (e : Expr) (m : ME) : Prop := PE X e (teOf T P Wx m)
def PTm (X : Cx) (T : Tb) (P : Pin) (Wx : WX) (e : Expr) (m : MT) : Prop := PT X e (ttOf T P Wx m)
def PWm (X : Cx) (T : Tb) (P : Pin) (Wx : WX) (e : Expr) (m : MT) : Prop := PW X e (ttOf T P Wx m)
def PAm (X : Cx) (T : Tb) (P : Pin) (Wx : WX) (es : List Expr) (m : MA) : Prop := PA X es (taOf T P Wx m)
theorem PE.imp {X : Cx} {e : Expr} {t t' : TE} (h : PE X e t) (k : ∀ σ H Q, t' σ H Q → t σ H Q) : PE X e t' := ⟨fun pins s σ H Q I q => h.run pins s σ H Q I (k σ H Q q)⟩
theorem PT.imp {X : Cx} {e : Expr} {t t' : TT} (h : PT X e t) (k : ∀ σ H Q, t' σ H Q → t σ H Q) : PT X e t' := ⟨fun pins s σ H Q I q => h.run pins s σ H Q I (k σ H Q q)⟩
theorem PW.imp {X : Cx} {e : Expr} {t t' : TT} (h : PW X e t) (k : ∀ σ H Q, t' σ H Q → t σ H Q) : PW X e t' := ⟨fun wh pins s σ H Q I q => h.run wh pins s σ H Q I (k σ H Q q)⟩
theorem PA.imp {X : Cx} {e : List Expr} {t t' : TA} (h : PA X e t) (k : ∀ σ H Q, t' σ H Q → t σ H Q) : PA X e t' := ⟨fun pos pins s σ H Q I q => h.run pos pins s σ H Q I (k σ H Q q)⟩
theorem PS.imp {X : Cx} {e : Stmt} {t t' : TS} (h : PS X e t) (k : ∀ D σ H, t' D σ H → t D σ H) : PS X e t' := ⟨fun pins s σ H D I q => h.run pins s σ H D I (k D σ H q)⟩
theorem PSs.imp {X : Cx} {e : List Stmt} {t t' : TS} (h : PSs X e t) (k : ∀ D σ H, t' D σ H → t D σ H) : PSs X e t' := ⟨fun pins s σ H D I q => h.run pins s σ H D I (k D σ H q)⟩
theorem PI.imp {X : Cx} {tg e : Expr} {t t' : TI} (h : PI X tg e t) (k : ∀ σ H R, t' σ H R → t σ H R) : PI X tg e t' := ⟨fun pins s σ H R I q => h.run pins s σ H R I (k σ H R q)⟩
theorem PI.or {X : Cx} {tg iter : Expr} {w w' : TI} (h : PI X tg iter w) (g : PI X tg iter w') : PI X tg iter (fun σ H R => w σ H R ∨ w' σ H R) := ⟨fun pins s σ H R I q => by
  rcases q with q | q
  · exact h.run pins s σ H R I q
  · exact g.run pins s σ H R I q⟩
end NK

namespace NK
open PySem L2

def eVar (i : Nat) : ME := fun env st => match env[i]? with
  | some (some u) => .ok u st
  | _ => .bad
def eC (u : U) : ME := fun _ st => .ok u st
def eOp (f : U → U → Sto → Out U) (ma mb : ME) : ME := fun env st => (ma env st).bind fun x st1 => (mb env st1).bind fun y st2 => f x y st2
def eUn (f : U → Sto → Out U) (ma : ME) : ME := fun env st => (ma env st).bind fun x st1 => f x st1
def aNil : MA := fun _ st => .ok [] st
def aCons (m : ME) (r : MA) : MA := fun env st => (m env st).bind fun x st1 => (r env st1).bind fun xs st2 => .ok (x :: xs) st2
def eCB (f : List U → Sto → Out U) (m : MA) : ME := fun env st => (m env st).bind fun xs st1 => f xs st1
def eTup (m : MA) : ME := fun env st => (m env st).bind fun xs st1 => if xs.length ≤ 16777216 then .ok (.tup xs) st1 else .bad
def eLst (m : MA) : ME := fun env st => (m env st).bind fun xs st1 => if xs.length ≤ 16777216 then .ok (.loc st1.length) (st1 ++ [.lst xs]) else .bad
def frz (u : U) (st : Sto) : Out U := match u with
  | .loc i => match st[i]? with
    | some (.lst us) => .ok (.lst us) (st.set i .dead)
    | some (.ins k us) => .ok (.ins k us) (st.set i .dead)
    | _ => .bad
  | u => .ok u st
def eFrz (m : ME) : ME := eUn frz m
def eIf (mt : MT) (ma mb : ME) : ME := fun env st => (mt env st).bind fun b st1 => if b = true then ma env st1 else mb env st1
def eAnd (ma mb : ME) : ME := fun env st => (ma env st).bind fun x st1 => match x with
  | .bl true => mb env st1
  | .bl false => .ok (.bl false) st1
  | _ => .bad
def eOr (ma mb : ME) : ME := fun env st => (ma env st).bind fun x st1 => match x with
  | .bl true => .ok (.bl true) st1
  | .bl false => mb env st1
  | _ => .bad
def eNot (ma : ME) : ME := fun env st => (ma env st).bind fun x st1 => match x with
  | .bl b => .ok (.bl (!b)) st1
  | _ => .bad
def tB (m : ME) : MT := fun env st => (m env st).bind fun x st1 => match x with
  | .bl b => .ok b st1
  | _ => .bad
def items (u : U) (st : Sto) : Option (List U) := match u with
  | .tup us => some us
  | .lst us => some us
  | .scr us => some us
  | .loc i => match st[i]? with
    | some (.lst us) => some us
    | _ => none
  | _ => none
def truth (u : U) (st : Sto) : Option Bool := match u with
  | .non => some false
  | .bl b => some b
  | .int i => some (i != 0)
  | .str z => if z.length ≤ 16777216 then some ((z.length : Int) != 0) else none
  | .tup us => some (!us.isEmpty)
  | .lst us => some (!us.isEmpty)
  | .loc i => match st[i]? with
    | some (.lst us) => some (!us.isEmpty)
    | some (.dK us) => some (!us.isEmpty)
    | _ => none
  | _ => none
def tTru (m : ME) : MT := fun env st => (m env st).bind fun x st1 => match truth x st1 with
  | some b => .ok b st1
  | none => .bad
def tAnd (ma mb : MT) : MT := fun env st => (ma env st).bind fun b st1 => if b = true then mb env st1 else .ok false st1
def tOr (ma mb : MT) : MT := fun env st => (ma env st).bind fun b st1 => if b = true then .ok true st1 else mb env st1
def tNot (ma : MT) : MT := fun env st => (ma env st).bind fun b st1 => .ok (!b) st1

section
variable {T : Tb} {c : Cn} {st : Sto} {H : Hp}
theorem Rp.inv_int {i : Int} {v : V} (r : Rp T c (.int i) v) : v = .int i := by cases r; rfl
theorem Rp.inv_bl {i : Bool} {v : V} (r : Rp T c (.bl i) v) : v = .bl i := by cases r; rfl
theorem Rp.inv_str {i : Str} {v : V} (r : Rp T c (.str i) v) : v = .str i := by cases r; rfl
theorem Rp.inv_non {v : V} (r : Rp T c .non v) : v = .non := by cases r; rfl
theorem Rp.inv_scr {us : List U} {v : V} (r : Rp T c (.scr us) v) : ∃ a vs, v = .ref a ∧ SqL T.K c.F a vs ∧ RpL T c us vs := by cases r with | scr a b => exact ⟨_, _, rfl, a, b⟩
theorem Rp.inv_tup {us : List U} {v : V} (r : Rp T c (.tup us) v) : ∃ a vs, v = .ref a ∧ SqT T.K c.F a vs ∧ RpL T c us vs := by cases r with | tup a b => exact ⟨_, _, rfl, a, b⟩
theorem Rp.inv_lst {us : List U} {v : V} (r : Rp T c (.lst us) v) : ∃ a vs, v = .ref a ∧ c.F a = some (.lst vs) ∧ RpL T c us vs := by cases r with | lst a b => exact ⟨_, _, rfl, a, b⟩
theorem Rp.inv_ins {k : Nat} {us : List U} {v : V} (r : Rp T c (.ins k us) v) : ∃ a dx vs, v = .ref a ∧ c.F a = some (.ins (T.cls k) dx ((T.fld k).zip vs)) ∧ vs.length ≤ (T.fld k).length ∧ RpL T c us vs := by
  cases r with | ins a b d => exact ⟨_, _, _, rfl, a, b, d⟩
theorem Rp.inv_loc {i : Nat} {v : V} (r : Rp T c (.loc i) v) : i < c.n ∧ v = .ref (c.ρ i) := by cases r with | loc h => exact ⟨h, rfl⟩
theorem sqL_up (h : RH T c st H) {a : Addr} {vs : List V} (r : SqL T.K c.F a vs) : SqL T.K H a vs := sqL_mono h.sub r
theorem sqT_up (h : RH T c st H) {a : Addr} {vs : List V} (r : SqT T.K c.F a vs) : SqT T.K H a vs := sqT_mono h.sub r
theorem RH.at_lst (h : RH T c st H) {i : Nat} {us : List U} (e : st[i]? = some (.lst us)) : ∃ vs, H (c.ρ i) = some (.lst vs) ∧ RpL T c us vs := by
  obtain ⟨o, h1, ⟨vs, h2, h3⟩, _⟩ := h.act i _ e (fun z => nomatch z)
  subst h2
  exact ⟨vs, h1, h3⟩
theorem RH.at_ins (h : RH T c st H) {i k : Nat} {us : List U} (e : st[i]? = some (.ins k us)) : ∃ dx vs, H (c.ρ i) = some (.ins (T.cls k) dx ((T.fld k).zip vs)) ∧ vs.length ≤ (T.fld k).length ∧ RpL T c us vs := by
  obtain ⟨o, h1, ⟨dx, vs, h2, h3, h4⟩, _⟩ := h.act i _ e (fun z => nomatch z)
  subst h2
  exact ⟨dx, vs, h1, h3, h4⟩
theorem RH.at_dK (h : RH T c st H) {i : Nat} {us : List (Key × U)} (e : st[i]? = some (.dK us)) : ∃ vs, H (c.ρ i) = some (.dK vs) ∧ RpK T c us vs := by
  obtain ⟨o, h1, ⟨vs, h2, h3⟩, _⟩ := h.act i _ e (fun z => nomatch z)
  subst h2
  exact ⟨vs, h1, h3⟩
theorem items_at (h : RH T c st H) {u : U} {v : V} {us : List U} (r : Rp T c u v) (e : items u st = some us) : ∃ a vs, v = .ref a ∧ (SqL T.K H a vs ∨ SqT T.K H a vs) ∧ RpL T c us vs := by
  cases u with
  | tup xs =>
    obtain ⟨a, vs, rfl, h1, h2⟩ := r.inv_tup
    cases e
    exact ⟨a, vs, rfl, .inr (sqT_up h h1), h2⟩
  | lst xs =>
    obtain ⟨a, vs, rfl, h1, h2⟩ := r.inv_lst
    cases e
    exact ⟨a, vs, rfl, .inl (SqL.of (h.sub _ _ h1)), h2⟩
  | scr xs =>
    obtain ⟨a, vs, rfl, h1, h2⟩ := r.inv_scr
    cases e
    exact ⟨a, vs, rfl, .inl (sqL_up h h1), h2⟩
  | loc i =>
    obtain ⟨_, rfl⟩ := r.inv_loc
    dsimp only [items] at e
    split at e
    · rename_i us' q
      cases e
      obtain ⟨vs, h1, h2⟩ := h.at_lst q
      exact ⟨_, vs, rfl, .inl (SqL.of h1), h2⟩
    · cases e
  | _ => cases e
theorem isEmpty_rp {us : List U} {vs : List V} (r : RpL T c us vs) : (!vs.isEmpty) = !us.isEmpty := by cases r <;> rfl
theorem truth_at (h : RH T c st H) {u : U} {v : V} {b : Bool} (r : Rp T c u v) (e : truth u st = some b) : TruV T.K v H b := by
  cases u with
  | non => cases r.inv_non; cases e; rfl
  | bl x => cases r.inv_bl; cases e; rfl
  | int i => cases r.inv_int; cases e; rfl
  | str z =>
    cases r.inv_str
    dsimp only [truth] at e
    split at e
    · rename_i hz
      cases e
      exact ⟨by rw [sizeLine_eq]; exact hz, rfl⟩
    · cases e
  | tup xs =>
    obtain ⟨a, vs, rfl, h1, h2⟩ := r.inv_tup
    cases e
    exact .inr (.inl ⟨vs, sqT_up h h1, (isEmpty_rp h2).symm⟩)
  | lst xs =>
    obtain ⟨a, vs, rfl, h1, h2⟩ := r.inv_lst
    cases e
    exact .inl ⟨vs, SqL.of (h.sub _ _ h1), (isEmpty_rp h2).symm⟩
  | loc i =>
    obtain ⟨_, rfl⟩ := r.inv_loc
    dsimp only [truth] at e
    split at e
    · rename_i us' q
      cases e
      obtain ⟨vs, h1, h2⟩ := h.at_lst q
      exact .inl ⟨vs, SqL.of h1, (isEmpty_rp h2).symm⟩
    · rename_i us' q
      cases e
      obtain ⟨vs, h1, h2⟩ := h.at_dK q
      refine .inr (.inr ⟨vs, h1, ?_⟩)
      cases h2 <;> rfl
    · cases e
  | ins k us => cases e
  | ty n => cases e
  | cls n => cases e
  | scr n => cases e
end

def upr (ρ : Nat → Addr) (n : Nat) (p : Addr) : Nat → Addr := fun i => if i = n then p else ρ i
section
variable {T : Tb} {c : Cn} {st : Sto} {H : Hp}
theorem RH.ne_new (h : RH T c st H) {p : Addr} (hp : H p = none) {i : Nat} {o : Ob} (e : st[i]? = some o) (d : o ≠ .dead) : c.ρ i ≠ p := fun z => by
  obtain ⟨x, h1, _⟩ := h.act i o e d
  rw [z, hp] at h1
  cases h1
theorem RH.F_new (h : RH T c st H) {p : Addr} (hp : H p = none) : c.F p = none := by
  cases e : c.F p with
  | none => rfl
  | some o =>
    rw [h.sub p o e] at hp
    cases hp
def Cn.still (c : Cn) (p : Addr) (o : HO) : Cn := { c with F := upd c.F p o }
theorem le_still (h : RH T c st H) {p : Addr} (hp : H p = none) (o : HO) : Le c (c.still p o) :=
  ⟨Nat.le_refl _, fun _ _ => rfl, fun a u e => by
    show upd c.F p o a = _
    rw [upd_ne (fun z => by rw [z, h.F_new hp] at e; cases e)]
    exact e, fun _ _ e => e⟩
theorem RH.lk_new (h : RH T c st H) {p : Addr} (hp : H p = none) {a : Addr} {o : HO} (e : c.L a = some o) : a ≠ p := fun z => by
  have := (h.lkd a o e).1
  rw [z, hp] at this
  cases this
theorem RH.still (h : RH T c st H) {p : Addr} (hp : H p = none) (o : HO) (ko : isTbl o = false := by rfl) : RH T (c.still p o) st (upd H p o) := by
  have l := le_still h hp o
  refine ⟨h.n, fun a u e => ?_, fun i ob e d => ?_, h.inj, fun a u e => ⟨by rw [upd_ne (h.lk_new hp e)]; exact (h.lkd a u e).1, (h.lkd a u e).2⟩, fun q hq => (h.tab q hq).mono l.F (tbl_upd (.inl hp) ·), fun a u e => by
    have e' : upd c.F p o a = some u := e
    by_cases z : a = p
    · rw [z, upd_same] at e'
      cases e'
      exact ko
    · rw [upd_ne z] at e'
      exact h.ntb a u e'⟩
  · have e' : upd c.F p o a = some u := e
    by_cases z : a = p
    · subst z
      rw [upd_same] at e' ⊢
      exact e'
    · rw [upd_ne z] at e' ⊢
      exact h.sub a u e'
  · obtain ⟨x, h1, h2, h3⟩ := h.act i ob e d
    have ne := h.ne_new hp e d
    refine ⟨x, ?_, h2.mono l, ?_⟩
    · show upd H p o (c.ρ i) = _
      rw [upd_ne ne]; exact h1
    · show upd c.F p o (c.ρ i) = _
      rw [upd_ne ne]; exact h3
def Cn.new (c : Cn) (p : Addr) : Cn := { ρ := upr c.ρ c.n p, n := c.n + 1, F := c.F, L := c.L }
theorem le_new (c : Cn) (p : Addr) : Le c (c.new p) :=
  ⟨Nat.le_succ _, fun i hi => by
    show upr c.ρ c.n p i = _
    unfold upr
    rw [if_neg (Nat.ne_of_lt hi)], fun _ _ e => e, fun _ _ e => e⟩
theorem new_self (c : Cn) (p : Addr) : (c.new p).ρ c.n = p := by
  show upr c.ρ c.n p c.n = p
  unfold upr
  rw [if_pos rfl]
theorem RH.new (h : RH T c st H) {p : Addr} (hp : H p = none) {o : Ob} {x : HO} (r : RO T c o p x) : RH T (c.new p) (st ++ [o]) (upd H p x) := by
  have l := le_new c p
  have old : ∀ {i : Nat} {a : Ob}, i ≠ st.length → (st ++ [o])[i]? = some a → i < st.length ∧ st[i]? = some a := fun {i a} hi e => by
    by_cases z : i < st.length
    · rw [List.getElem?_append_left z] at e
      exact ⟨z, e⟩
    · rw [List.getElem?_append_right (by omega)] at e
      have : i - st.length = 0 ∨ 0 < i - st.length := by omega
      rcases this with q | q
      · omega
      · rw [List.getElem?_eq_none (by simp; omega)] at e
        cases e
  have self : ∀ {a : Ob}, (st ++ [o])[st.length]? = some a → a = o := fun {a} e => by
    rw [List.getElem?_append_right (Nat.le_refl _), Nat.sub_self] at e
    exact (Option.some.inj e).symm
  have hρ : ∀ {i : Nat}, i < st.length → (c.new p).ρ i = c.ρ i := fun {i} hi => l.ρ i (by rw [h.n]; exact hi)
  refine ⟨by show c.n + 1 = _; rw [h.n]; simp, fun a u e => ?_, fun i a e d => ?_, fun i j a b ea da eb db q => ?_, fun a u e => ⟨by rw [upd_ne (h.lk_new hp e)]; exact (h.lkd a u e).1, (h.lkd a u e).2⟩, fun q hq => (h.tab q hq).mono l.F (tbl_upd (.inl hp) ·), h.ntb⟩
  · rw [upd_ne (fun z => by
      have e' : c.F a = some u := e
      rw [z, h.F_new hp] at e'
      cases e')]
    exact h.sub a u e
  · by_cases hi : i = st.length
    · subst hi
      have := self e
      subst this
      refine ⟨x, ?_, ?_, ?_⟩
      · rw [← h.n, new_self, upd_same]
      · rw [← h.n, new_self]; exact r.mono l
      · rw [← h.n, new_self]; exact h.F_new hp
    · obtain ⟨hlt, e'⟩ := old hi e
      obtain ⟨y, h1, h2, h3⟩ := h.act i a e' d
      refine ⟨y, ?_, ?_, ?_⟩
      · rw [hρ hlt, upd_ne (h.ne_new hp e' d)]; exact h1
      · rw [hρ hlt]; exact h2.mono l
      · rw [hρ hlt]; exact h3
  · by_cases hi : i = st.length
    · by_cases hj : j = st.length
      · rw [hi, hj]
      · obtain ⟨hlt, eb'⟩ := old hj eb
        subst hi
        rw [← h.n, new_self, hρ hlt] at q
        exact absurd q.symm (h.ne_new hp eb' db)
    · obtain ⟨hlt, ea'⟩ := old hi ea
      by_cases hj : j = st.length
      · subst hj
        rw [hρ hlt, ← h.n, new_self] at q
        exact absurd q (h.ne_new hp ea' da)
      · obtain ⟨hlt', eb'⟩ := old hj eb
        rw [hρ hlt, hρ hlt'] at q
        exact h.inj i j a b ea' da eb' db q
theorem RH.set (h : RH T c st H) {i : Nat} {o o' : Ob} {x : HO} (e : st[i]? = some o) (d : o ≠ .dead) (r : RO T c o' (c.ρ i) x) (k : o.isLk = false := by rfl) : RH T c (st.set i o') (upd H (c.ρ i) x) := by
  have hi : i < st.length := (List.getElem?_eq_some_iff.mp e).1
  have old : ∀ {j : Nat} {a : Ob}, j ≠ i → (st.set i o')[j]? = some a → st[j]? = some a := fun {j a} hj q => by
    rw [List.getElem?_set_ne (Ne.symm hj)] at q
    exact q
  have self : ∀ {a : Ob}, (st.set i o')[i]? = some a → a = o' := fun {a} q => by
    rw [List.getElem?_set_self hi] at q
    exact (Option.some.inj q).symm
  refine ⟨by rw [h.n]; simp, fun a u q => ?_, fun j a q da => ?_, fun j k a b ea da eb db q => ?_, fun a u q => ⟨by
    rw [upd_ne (fun z => by
      obtain ⟨y, h1, h2, _⟩ := h.act i o e d
      obtain ⟨q1, od, x', q2⟩ := h.lkd a u q
      rw [z, h1] at q1
      cases q1
      exact h2.nofrz k od x' q2)]
    exact (h.lkd a u q).1, (h.lkd a u q).2⟩, fun q hq => (h.tab q hq).mono (fun _ _ z => z) (tbl_upd (.inr (let ⟨y, h1, h2, _⟩ := h.act i o e d; ⟨y, h1, h2.notbl⟩)) ·), h.ntb⟩
  · obtain ⟨_, _, _, h3⟩ := h.act i o e d
    rw [upd_ne (fun z => by rw [z, h3] at q; cases q)]
    exact h.sub a u q
  · by_cases hj : j = i
    · subst hj
      have := self q
      subst this
      obtain ⟨_, _, _, h3⟩ := h.act j o e d
      exact ⟨x, upd_same, r, h3⟩
    · have q' := old hj q
      obtain ⟨y, h1, h2, h3⟩ := h.act j a q' da
      refine ⟨y, ?_, h2, h3⟩
      rw [upd_ne (fun z => hj (h.inj j i a o q' da e d z))]
      exact h1
  · by_cases hj : j = i
    · by_cases hk : k = i
      · rw [hj, hk]
      · subst hj
        exact h.inj j k o b e d (old hk eb) db q
    · by_cases hk : k = i
      · subst hk
        exact h.inj j k a o (old hj ea) da e d q
      · exact h.inj j k a b (old hj ea) da (old hk eb) db q
theorem le_freeze (h : RH T c st H) {i : Nat} {o : Ob} {x : HO} (e : st[i]? = some o) (d : o ≠ .dead) : Le c { c with F := upd c.F (c.ρ i) x } := by
  obtain ⟨_, _, _, h3⟩ := h.act i o e d
  exact ⟨Nat.le_refl _, fun _ _ => rfl, fun a u q => by
    show upd c.F (c.ρ i) x a = _
    rw [upd_ne (fun z => by rw [z, h3] at q; cases q)]
    exact q, fun _ _ q => q⟩
theorem RH.freeze (h : RH T c st H) {i : Nat} {o : Ob} {x : HO} (e : st[i]? = some o) (d : o ≠ .dead) (hx : H (c.ρ i) = some x) : RH T { c with F := upd c.F (c.ρ i) x } (st.set i .dead) H := by
  have l := le_freeze (x := x) h e d
  have old : ∀ {j : Nat} {a : Ob}, a ≠ .dead → (st.set i .dead)[j]? = some a → j ≠ i ∧ st[j]? = some a := fun {j a} ha q => by
    have hj : j ≠ i := fun z => by
      subst z
      have hlt : j < st.length := (List.getElem?_eq_some_iff.mp e).1
      rw [List.getElem?_set_self hlt] at q
      exact ha (Option.some.inj q).symm
    rw [List.getElem?_set_ne (Ne.symm hj)] at q
    exact ⟨hj, q⟩
  refine ⟨by show c.n = _; rw [h.n]; simp, fun a u q => ?_, fun j a q da => ?_, fun j k a b ea da eb db q => ?_, h.lkd, fun q hq => (h.tab q hq).mono l.F (fun _ z => z), fun a u q => by
    have q' : upd c.F (c.ρ i) x a = some u := q
    by_cases z : a = c.ρ i
    · rw [z, upd_same] at q'
      cases q'
      obtain ⟨y, h1, h2, _⟩ := h.act i o e d
      rw [hx] at h1
      cases h1
      exact h2.notbl
    · rw [upd_ne z] at q'
      exact h.ntb a u q'⟩
  · have q' : upd c.F (c.ρ i) x a = some u := q
    by_cases z : a = c.ρ i
    · subst z
      rw [upd_same] at q'
      rw [← q']; exact hx
    · rw [upd_ne z] at q'
      exact h.sub a u q'
  · obtain ⟨hj, q'⟩ := old da q
    obtain ⟨y, h1, h2, h3⟩ := h.act j a q' da
    refine ⟨y, h1, h2.mono l, ?_⟩
    show upd c.F (c.ρ i) x (c.ρ j) = _
    rw [upd_ne (fun z => hj (h.inj j i a o q' da e d z))]
    exact h3
  · exact h.inj j k a b (old da ea).2 da (old db eb).2 db q
end

def OpSim (T : Tb) (r : R2) (f : U → U → Sto → Out U) : Prop :=
  ∀ (Wx : WX) (c : Cn) (σ : L2.St) (st : Sto) (H : Hp) (u w : U) (x y : V) (Q : VK), RH T c st H → Rp T c u x → Rp T c w y → ResG T Wx c σ (Rp T) (f u w st) Q → r x y H Q
def UnSim (T : Tb) (r : V → Hp → VK → Prop) (f : U → Sto → Out U) : Prop :=
  ∀ (Wx : WX) (c : Cn) (σ : L2.St) (st : Sto) (H : Hp) (u : U) (x : V) (Q : VK), RH T c st H → Rp T c u x → ResG T Wx c σ (Rp T) (f u st) Q → r x H Q
def CallSim (T : Tb) (r : List V → Hp → VK → Prop) (f : List U → Sto → Out U) : Prop :=
  ∀ (Wx : WX) (c : Cn) (σ : L2.St) (st : Sto) (H : Hp) (us : List U) (xs : List V) (Q : VK), RH T c st H → RpL T c us xs → ResG T Wx c σ (Rp T) (f us st) Q → r xs H Q

section
variable {X : Cx} {T : Tb} {P : Pin} {Wx : WX} {a b c : Expr} {ma mb mc : ME} {pos : Pos}
theorem pem_var {i : Nat} (h : PE X a (tVar i)) : PEm X T P Wx a (eVar i) := PE.imp h fun σ H Q ⟨c, env, st, hH, hE, hR⟩ => by
  unfold eVar at hR
  split at hR
  · rename_i u e
    obtain ⟨v, e', r⟩ := hE.get i u e
    exact ⟨v, e', hR.ret hH r⟩
  · exact hR.elim
theorem pem_c {v : V} {u : U} (h : PE X a (tC v)) (r : ∀ c, Rp T c u v) : PEm X T P Wx a (eC u) := PE.imp h fun σ H Q ⟨c, env, st, hH, hE, hR⟩ =>
  ResG.ret (u := u) hR hH (r c)
theorem pem_int {i j} : PEm X T P Wx (.Constant (.int i) j pos) (eC (.int i)) := pem_c pe_int fun _ => .int i
theorem pem_bl {i j} : PEm X T P Wx (.Constant (.bool i) j pos) (eC (.bl i)) := pem_c pe_bl fun _ => .bl i
theorem pem_str {i j} : PEm X T P Wx (.Constant (.str i) j pos) (eC (.str i)) := pem_c pe_str fun _ => .str i
theorem pem_non {j} : PEm X T P Wx (.Constant .none j pos) (eC .non) := pem_c pe_non fun _ => .non
theorem opr_run {r : R2} {f : U → U → Sto → Out U} (hs : OpSim T r f) (σ : L2.St) (H : Hp) (Q : VK) (h : teOf T P Wx (eOp f ma mb) σ H Q) : tOp r (teOf T P Wx ma) (teOf T P Wx mb) σ H Q := by
  obtain ⟨c, env, st, hH, hE, hR⟩ := h
  refine (tg_bind hH hE hR).mono fun x H1 ⟨u, c1, st1, l1, hH1, hE1, r1, hR1⟩ => ?_
  refine (tg_bind hH1 hE1 hR1).mono fun y H2 ⟨w, c2, st2, l2, hH2, hE2, r2, hR2⟩ => ?_
  exact hs Wx c2 σ st2 H2 u w x y Q hH2 (r1.mono l2) r2 hR2
theorem pem_op {op : Operator} {r : R2} {f : U → U → Sto → Out U} (ho : OpR X (binaryOp op) r) (hs : OpSim T r f) (ha : PEm X T P Wx a ma) (hb : PEm X T P Wx b mb) : PEm X T P Wx (.BinOp a op b pos) (eOp f ma mb) :=
  PE.imp (pe_op ho ha hb) (opr_run hs)
theorem pem_cmp {op : CmpOp} {r : R2} {f : U → U → Sto → Out U} (ho : OpR X (compareOp op) r) (hs : OpSim T r f) (ha : PEm X T P Wx a ma) (hb : PEm X T P Wx b mb) (hm : behindInMarks op b = false) : PEm X T P Wx (.Compare a [op] [b] pos) (eOp f ma mb) :=
  PE.imp (pe_cmpR ho ha hb hm) (opr_run hs)
theorem test_run {t : TE} {m : ME} (h1 : ∀ σ H Q, teOf T P Wx m σ H Q → t σ H Q) (σ : L2.St) (H : Hp) (Q : Bool → Hp → Prop) (h : ttOf T P Wx (tB m) σ H Q) : tTest t σ H Q := by
  obtain ⟨c, env, st, hH, hE, hR⟩ := h
  refine h1 σ H _ ((tg_bind hH hE hR).mono fun x H1 ⟨u, c1, st1, l1, hH1, hE1, r1, hR1⟩ => ?_)
  cases u with
  | bl k =>
    cases r1.inv_bl
    exact ⟨k, rfl, hR1.ret hH1 rfl⟩
  | _ => exact hR1.elim
theorem ptm_cmp {op : CmpOp} {r : R2} {f : U → U → Sto → Out U} (ho : OpR X (compareOp op) r) (hs : OpSim T r f) (ha : PEm X T P Wx a ma) (hb : PEm X T P Wx b mb) (hm : behindInMarks op b = false) : PTm X T P Wx (.Compare a [op] [b] pos) (tB (eOp f ma mb)) :=
  PT.imp (pt_cmpR ho ha hb hm) (test_run (opr_run hs))
def eChain (f g : U → U → Sto → Out U) (ma mb mc : ME) : ME := fun env st => (ma env st).bind fun x st1 => (mb env st1).bind fun y st2 => (f x y st2).bind fun z st3 => match z with
  | .bl true => (mc env st3).bind fun w st4 => g y w st4
  | .bl false => .ok (.bl false) st3
  | _ => .bad
theorem chain_run {r r' : R2} {f g : U → U → Sto → Out U} (hs : OpSim T r f) (hs' : OpSim T r' g) (σ : L2.St) (H : Hp) (Q : VK) (h : teOf T P Wx (eChain f g ma mb mc) σ H Q) : tChain r r' (teOf T P Wx ma) (teOf T P Wx mb) (teOf T P Wx mc) σ H Q := by
  obtain ⟨c, env, st, hH, hE, hR⟩ := h
  refine (tg_bind hH hE hR).mono fun x H1 ⟨u, c1, st1, l1, hH1, hE1, r1, hR1⟩ => ?_
  refine (tg_bind hH1 hE1 hR1).mono fun y H2 ⟨w, c2, st2, l2, hH2, hE2, r2, hR2⟩ => ?_
  refine hs Wx c2 σ st2 H2 u w x y _ hH2 (r1.mono l2) r2 ?_
  revert hR2
  cases e : f u w st2 with
  | ok z st3 =>
    intro hR2 c3 v H3 l3 hH3 r3
    have hR3 := ResG.later l3 hR2
    cases z with
    | bl k =>
      cases r3.inv_bl
      refine ⟨k, rfl, ?_⟩
      cases k with
      | true =>
        rw [if_pos rfl]
        refine (tg_bind (R' := Rp T) hH3 (hE2.mono l3) hR3).mono fun w' H4 ⟨t, c4, st4, l4, hH4, hE4, r4, hR4⟩ => ?_
        exact hs' Wx c4 σ st4 H4 w t y w' Q hH4 ((r2.mono l3).mono l4) r4 hR4
      | false =>
        rw [if_neg Bool.false_ne_true]
        exact ResG.ret hR3 hH3 (.bl false)
    | _ => exact hR3.elim
  | exc x' st3 => exact fun hR2 => hR2
  | bad => exact fun hR2 => hR2
theorem pem_chain {op op' : CmpOp} {r r' : R2} {f g : U → U → Sto → Out U} (ho : OpR X (compareOp op) r) (hs : OpSim T r f) (ho' : OpR X (compareOp op') r') (hs' : OpSim T r' g) (ha : PEm X T P Wx a ma) (hb : PEm X T P Wx b mb) (hc : PEm X T P Wx c mc)
    (hm : lastMarks [op, op'] [b, c] = false := by with_unfolding_all rfl) : PEm X T P Wx (.Compare a [op, op'] [b, c] pos) (eChain f g ma mb mc) := PE.imp (pe_chain ho ho' ha hb hc hm) (chain_run hs hs')
theorem pem_un {op : UnaryOp} {r : V → Hp → VK → Prop} {f : U → Sto → Out U} (ho : UnR X (unaryOp op) r) (hs : UnSim T r f) (ha : PEm X T P Wx a ma) : PEm X T P Wx (.UnaryOp op a pos) (eUn f ma) :=
  PE.imp (pe_un ho ha) fun σ H Q ⟨c, env, st, hH, hE, hR⟩ => (tg_bind hH hE hR).mono fun x H1 ⟨u, c1, st1, l1, hH1, hE1, r1, hR1⟩ => hs Wx c1 σ st1 H1 u x Q hH1 r1 hR1
theorem pem_frz (ha : PEm X T P Wx a ma) : PEm X T P Wx a (eFrz ma) := PE.imp ha fun σ H Q ⟨c, env, st, hH, hE, hR⟩ => by
  refine (tg_bind hH hE hR).mono fun x H1 ⟨u, c1, st1, l1, hH1, hE1, r1, hR1⟩ => ?_
  have plain : ResG T Wx c1 σ (Rp T) (.ok u st1) Q → Q x H1 := fun h => h.ret hH1 r1
  cases u with
  | loc i =>
    obtain ⟨hi, rfl⟩ := r1.inv_loc
    dsimp only [frz] at hR1
    split at hR1
    · rename_i us e
      obtain ⟨vs, h1, h2⟩ := hH1.at_lst e
      have l := le_freeze (x := .lst vs) hH1 e (fun z => nomatch z)
      exact hR1 _ _ _ l (hH1.freeze e (fun z => nomatch z) h1) (.lst upd_same (h2.mono l))
    · rename_i k us e
      obtain ⟨dx, vs, h1, hz, h2⟩ := hH1.at_ins e
      have l := le_freeze (x := .ins (T.cls k) dx ((T.fld k).zip vs)) hH1 e (fun z => nomatch z)
      exact hR1 _ _ _ l (hH1.freeze e (fun z => nomatch z) h1) (.ins upd_same hz (h2.mono l))
    · exact hR1.elim
  | _ => exact plain hR1
theorem pem_ifExp {mt : MT} (hc : PTm X T P Wx c mt) (ha : PEm X T P Wx a ma) (hb : PEm X T P Wx b mb) : PEm X T P Wx (.IfExp c a b pos) (eIf mt ma mb) :=
  PE.imp (pe_ifExp hc ha hb) fun σ H Q ⟨c, env, st, hH, hE, hR⟩ => by
    refine (tg_bind hH hE hR).mono fun k H1 ⟨u, c1, st1, l1, hH1, hE1, r1, hR1⟩ => ?_
    cases (show u = k from r1)
    cases k with
    | true => exact ⟨c1, env, st1, hH1, hE1, hR1⟩
    | false => exact ⟨c1, env, st1, hH1, hE1, hR1⟩
theorem pem_one {op} (h : PEm X T P Wx a ma) : PEm X T P Wx (.BoolOp op [a] pos) ma := pe_one h
theorem pem_and {rest : List Expr} (ha : PEm X T P Wx a ma) (hb : PEm X T P Wx (.BoolOp .And (b :: rest) pos) mb) : PEm X T P Wx (.BoolOp .And (a :: b :: rest) pos) (eAnd ma mb) :=
  PE.imp (pe_and ha hb) fun σ H Q ⟨c, env, st, hH, hE, hR⟩ => by
    refine (tg_bind hH hE hR).mono fun k H1 ⟨u, c1, st1, l1, hH1, hE1, r1, hR1⟩ => ?_
    cases u with
    | bl i =>
      cases r1.inv_bl
      refine ⟨i, rfl, ?_⟩
      cases i with
      | true => exact ⟨c1, env, st1, hH1, hE1, hR1⟩
      | false => exact ResG.ret hR1 hH1 (.bl false)
    | _ => exact hR1.elim
theorem pem_not (ha : PEm X T P Wx a ma) : PEm X T P Wx (.UnaryOp .Not a pos) (eNot ma) :=
  PE.imp (pe_not ha) fun σ H Q ⟨c, env, st, hH, hE, hR⟩ => by
    refine (tg_bind hH hE hR).mono fun k H1 ⟨u, c1, st1, l1, hH1, hE1, r1, hR1⟩ => ?_
    cases u with
    | bl i =>
      cases r1.inv_bl
      exact ⟨i, rfl, ResG.ret hR1 hH1 (.bl _)⟩
    | _ => exact hR1.elim

theorem ptm_tru (hK : X.K = T.K) (ha : PEm X T P Wx a ma) (he : ∀ whole, isTrue a X.env whole = (do let v ← whole; standAt a.pos; holding [v] (truthy v)) := by intro _; rfl) : PTm X T P Wx a (tTru ma) :=
  PT.imp (pt_truth ha he) fun σ H Q ⟨c, env, st, hH, hE, hR⟩ => by
    refine (tg_bind hH hE hR).mono fun k H1 ⟨u, c1, st1, l1, hH1, hE1, r1, hR1⟩ => ?_
    split at hR1
    · rename_i b e
      refine ⟨b, ?_, hR1.ret hH1 rfl⟩
      rw [hK]
      exact truth_at hH1 r1 e
    · exact hR1.elim
theorem ptm_not {mt : MT} (ha : PTm X T P Wx a mt) : PTm X T P Wx (.UnaryOp .Not a pos) (tNot mt) :=
  PT.imp (pt_not ha) fun σ H Q ⟨c, env, st, hH, hE, hR⟩ => by
    refine (tg_bind hH hE hR).mono fun k H1 ⟨u, c1, st1, l1, hH1, hE1, r1, hR1⟩ => ?_
    cases (show u = k from r1)
    exact hR1.ret hH1 rfl
theorem pwm_and1 {mt : MT} (ha : PTm X T P Wx a mt) : PWm X T P Wx (.BoolOp .And [a] pos) mt := pw_and1 ha
theorem pwm_or1 {mt : MT} (ha : PTm X T P Wx a mt) : PWm X T P Wx (.BoolOp .Or [a] pos) mt := pw_or1 ha
theorem pwm_and {mt mu : MT} {rest : List Expr} (ha : PTm X T P Wx a mt) (hb : PWm X T P Wx (.BoolOp .And (b :: rest) pos) mu) : PWm X T P Wx (.BoolOp .And (a :: b :: rest) pos) (tAnd mt mu) :=
  PW.imp (pw_and ha hb) fun σ H Q ⟨c, env, st, hH, hE, hR⟩ => by
    refine (tg_bind hH hE hR).mono fun k H1 ⟨u, c1, st1, l1, hH1, hE1, r1, hR1⟩ => ?_
    cases (show u = k from r1)
    cases k with
    | true => exact ⟨c1, env, st1, hH1, hE1, hR1⟩
    | false => exact ResG.ret hR1 hH1 rfl
theorem pwm_or {mt mu : MT} {rest : List Expr} (ha : PTm X T P Wx a mt) (hb : PWm X T P Wx (.BoolOp .Or (b :: rest) pos) mu) : PWm X T P Wx (.BoolOp .Or (a :: b :: rest) pos) (tOr mt mu) :=
  PW.imp (pw_or ha hb) fun σ H Q ⟨c, env, st, hH, hE, hR⟩ => by
    refine (tg_bind hH hE hR).mono fun k H1 ⟨u, c1, st1, l1, hH1, hE1, r1, hR1⟩ => ?_
    cases (show u = k from r1)
    cases k with
    | true => exact ResG.ret hR1 hH1 rfl
    | false => exact ⟨c1, env, st1, hH1, hE1, hR1⟩
theorem PWm.pt {mt : MT} (h : PWm X T P Wx a mt) : PTm X T P Wx a mt := PW.pt h

variable {e : Expr} {es : List Expr} {m : ME} {mr : MA}
theorem pam_nil : PAm X T P Wx [] aNil := PA.imp pa_nil fun σ H Q ⟨c, env, st, hH, hE, hR⟩ => ResG.ret (u := ([] : List U)) hR hH .nil
theorem pam_cons (ha : PEm X T P Wx e m) (hr : PAm X T P Wx es mr) (hs : starEach (e :: es) X.env = (false, eval e X.env) :: starEach es X.env := by rfl) : PAm X T P Wx (e :: es) (aCons m mr) :=
  PA.imp (pa_cons ha hr hs) fun σ H Q ⟨c, env, st, hH, hE, hR⟩ => by
    refine (tg_bind hH hE hR).mono fun x H1 ⟨u, c1, st1, l1, hH1, hE1, r1, hR1⟩ => ?_
    refine (tg_bind hH1 hE1 hR1).mono fun y H2 ⟨w, c2, st2, l2, hH2, hE2, r2, hR2⟩ => ?_
    exact hR2.ret hH2 (.cons (r1.mono l2) r2)
theorem pem_tup {x1} (h : PAm X T P Wx es mr) : PEm X T P Wx (.Tuple es x1 pos) (eTup mr) :=
  PE.imp (pe_tup h) fun σ H Q ⟨c, env, st, hH, hE, hR⟩ => by
    refine (tg_bind hH hE hR).mono fun xs H1 ⟨us, c1, st1, l1, hH1, hE1, r1, hR1⟩ => ?_
    by_cases hz : us.length ≤ 16777216
    · rw [if_pos hz] at hR1
      refine ⟨by rw [← r1.length, sizeLine_eq]; exact hz, fun p hp => ?_⟩
      have l := le_still hH1 hp (.tup xs)
      exact hR1 _ _ _ l (hH1.still hp _) (.tup (SqT.of upd_same) (r1.mono l))
    · rw [if_neg hz] at hR1
      exact hR1.elim
theorem pem_lst (h : PAm X T P Wx es mr) : PEm X T P Wx (.List es pos) (eLst mr) :=
  PE.imp (pe_lst h) fun σ H Q ⟨c, env, st, hH, hE, hR⟩ => by
    refine (tg_bind hH hE hR).mono fun xs H1 ⟨us, c1, st1, l1, hH1, hE1, r1, hR1⟩ => ?_
    by_cases hz : us.length ≤ 16777216
    · rw [if_pos hz] at hR1
      refine ⟨by rw [← r1.length, sizeLine_eq]; exact hz, fun p hp => ?_⟩
      have h2 := hH1.new hp (o := .lst us) (x := .lst xs) ⟨xs, rfl, r1⟩
      refine hR1 _ _ _ (le_new c1 p) h2 ?_
      have e : V.ref p = V.ref ((c1.new p).ρ c1.n) := by rw [new_self]
      rw [e, ← hH1.n]
      exact .loc (Nat.lt_succ_self _)
    · rw [if_neg hz] at hR1
      exact hR1.elim
theorem cb_run {r : List V → Hp → VK → Prop} {f : List U → Sto → Out U} (hs : CallSim T r f) (σ : L2.St) (H : Hp) (Q : VK) (h : teOf T P Wx (eCB f mr) σ H Q) : tCB r (taOf T P Wx mr) σ H Q := by
  obtain ⟨c, env, st, hH, hE, hR⟩ := h
  exact (tg_bind hH hE hR).mono fun xs H1 ⟨us, c1, st1, l1, hH1, hE1, r1, hR1⟩ => hs Wx c1 σ st1 H1 us xs Q hH1 r1 hR1
theorem pem_callB {x : Str} {p : Pos} {id : String} {r : List V → Hp → VK → Prop} {f : List U → Sto → Out U} (hc : CallR X (.builtin id) r) (hs : CallSim T r f) (hg : Gl X x) (hm : X.mg x = none) (hv : bootBuiltins x = some (.builtin id)) (ha : PAm X T P Wx (e :: es) mr) (hn : x ≠ "__name__" := by decide) (hdb : (x == ("__debug__" : Str)) = false := by decide)
    (he : starEach (e :: es) X.env = (false, eval e X.env) :: starEach es X.env := by rfl) (hpl : (backTo pos (starEach es X.env)).any (·.1) = false := by rfl) : PEm X T P Wx (.Call (.Name x p) (e :: es) [] pos) (eCB f mr) :=
  PE.imp (pe_callB hc hg hm hv ha hn hdb he hpl) (cb_run hs)
theorem pem_callTy {x : Str} {p : Pos} {id : String} {r : List V → Hp → VK → Prop} {f : List U → Sto → Out U} (hc : CallR X (.type id) r) (hs : CallSim T r f) (hg : Gl X x) (hm : X.mg x = none) (hv : bootBuiltins x = some (.type id)) (ha : PAm X T P Wx (e :: es) mr) (hn : x ≠ "__name__" := by decide) (hdb : (x == ("__debug__" : Str)) = false := by decide)
    (he : starEach (e :: es) X.env = (false, eval e X.env) :: starEach es X.env := by rfl) (hpl : (backTo pos (starEach es X.env)).any (·.1) = false := by rfl) : PEm X T P Wx (.Call (.Name x p) (e :: es) [] pos) (eCB f mr) :=
  PE.imp (pe_callTy hc hg hm hv ha hn hdb he hpl) (cb_run hs)
theorem pem_ix {r : R2} {f : U → U → Sto → Out U} (hr : IxR X r) (hs : OpSim T r f) (ha : PEm X T P Wx a ma) (hb : PEm X T P Wx b mb) (hx : PlainIx b := by exact fun _ _ => rfl) : PEm X T P Wx (.Subscript a b pos) (eOp f ma mb) :=
  PE.imp (pe_ix hr ha hb hx) (opr_run hs)
end
end NK

namespace NK
open PySem L2

section
variable {T : Tb} {X : Cx}
theorem szl : sizeLine = 16777216 := sizeLine_eq

theorem new_lst {Wx : WX} {c : Cn} {σ : L2.St} {st : Sto} {H : Hp} {us : List U} {vs : List V} {Q : VK} (hH : RH T c st H) (r : RpL T c us vs) (hR : ResG T Wx c σ (Rp T) (.ok (.loc st.length) (st ++ [.lst us])) Q) :
    ∀ p, H p = none → Q (.ref p) (upd H p (.lst vs)) := fun p hp => by
  have h2 := hH.new hp (o := .lst us) (x := .lst vs) ⟨vs, rfl, r⟩
  refine hR _ _ _ (le_new c p) h2 ?_
  have e : V.ref p = V.ref ((c.new p).ρ c.n) := by rw [new_self]
  rw [e, ← hH.n]
  exact .loc (Nat.lt_succ_self _)
theorem new_tup {Wx : WX} {c : Cn} {σ : L2.St} {st : Sto} {H : Hp} {us : List U} {vs : List V} {Q : VK} (hH : RH T c st H) (r : RpL T c us vs) (hR : ResG T Wx c σ (Rp T) (.ok (.tup us) st) Q) :
    ∀ p, H p = none → Q (.ref p) (upd H p (.tup vs)) := fun p hp =>
  hR _ _ _ (le_still hH hp (.tup vs)) (hH.still hp _) (.tup (SqT.of upd_same) (r.mono (le_still hH hp _)))

def fI (g : Int → Int → U) : U → U → Sto → Out U := fun u w st => match u, w with
  | .int i, .int j => .ok (g i j) st
  | _, _ => .bad
def fIc (C : Int → Int → Bool) (g : Int → Int → U) : U → U → Sto → Out U := fun u w st => match u, w with
  | .int i, .int j => if C i j = true then .ok (g i j) st else .bad
  | _, _ => .bad
theorem sim_I {g : Int → Int → U} {g' : Int → Int → V} (hg : ∀ c i j, Rp T c (g i j) (g' i j)) : OpSim T (rI0 g') (fI g) := fun Wx c σ st H u w x y Q hH ru rw hR => by
  cases u with
  | int i =>
    cases w with
    | int j =>
      cases ru.inv_int
      cases rw.inv_int
      exact ⟨i, j, rfl, rfl, ResG.ret hR hH (hg c i j)⟩
    | _ => exact hR.elim
  | _ => exact hR.elim
theorem sim_Ic {C : Int → Int → Bool} {C' : Int → Int → Prop} {g : Int → Int → U} {g' : Int → Int → V} (hg : ∀ c i j, Rp T c (g i j) (g' i j)) (hC : ∀ i j, C i j = true → C' i j) : OpSim T (rI C' g') (fIc C g) := fun Wx c σ st H u w x y Q hH ru rw hR => by
  cases u with
  | int i =>
    cases w with
    | int j =>
      cases ru.inv_int
      cases rw.inv_int
      dsimp only [fIc] at hR
      by_cases h : C i j = true
      · rw [if_pos h] at hR
        exact ⟨i, j, rfl, rfl, hC i j h, ResG.ret hR hH (hg c i j)⟩
      · rw [if_neg h] at hR
        exact hR.elim
    | _ => exact hR.elim
  | _ => exact hR.elim
def fSub := fI fun i j => .int (i - j)
def fLt := fI fun i j => .bl (decide (i < j))
def fLe := fI fun i j => .bl (decide (i ≤ j))
def fGt := fI fun i j => .bl (decide (j < i))
def fGe := fI fun i j => .bl (decide (j ≤ i))
theorem sim_sub : OpSim T (rI0 fun i j => .int (i - j)) fSub := sim_I fun _ _ _ => .int _
theorem sim_lt : OpSim T (rI0 fun i j => .bl (decide (i < j))) fLt := sim_I fun _ _ _ => .bl _
theorem sim_le : OpSim T (rI0 fun i j => .bl (decide (i ≤ j))) fLe := sim_I fun _ _ _ => .bl _
theorem sim_gt : OpSim T (rI0 fun i j => .bl (decide (j < i))) fGt := sim_I fun _ _ _ => .bl _
theorem sim_ge : OpSim T (rI0 fun i j => .bl (decide (j ≤ i))) fGe := sim_I fun _ _ _ => .bl _
def cMul (i j : Int) : Bool := decide ((-(2 ^ 64) < i ∧ i < 2 ^ 64) ∨ (-(2 ^ 64) < j ∧ j < 2 ^ 64))
def cDiv (_ j : Int) : Bool := decide (0 < j ∧ j < 10 ^ 60)
def cMod (_ j : Int) : Bool := decide (0 < j)
def cPow (i j : Int) : Bool := decide (0 ≤ j ∧ j ≤ 1000000 ∧ i.natAbs < 2 ^ 64)
def fDiv := fIc cDiv fun i j => .int (i / j)
def fMod := fIc cMod fun i j => .int (i % j)
def fPow := fIc cPow fun i j => .int (i ^ j.toNat)
theorem sim_div : OpSim T (rI CDivW fun i j => .int (i / j)) fDiv := sim_Ic (fun _ _ _ => .int _) fun i j h => by
  have h' := of_decide_eq_true h
  exact wide_div (b := 200) h'.1 (by
    have : (10 : Int) ^ 60 < 2 ^ 200 := by decide
    have e : ((2 : Nat) ^ 200 : Int) = (2 : Int) ^ 200 := by norm_cast
    have h2 : (j.natAbs : Int) = j := Int.natAbs_of_nonneg (by omega)
    have h3 : (j.natAbs : Int) < ((2 ^ 200 : Nat) : Int) := by rw [h2]; exact Int.lt_trans h'.2 (by decide)
    exact Int.ofNat_lt.mp h3) (by decide) (by decide)
theorem sim_mod : OpSim T (rI (fun _ j => 0 < j) fun i j => .int (i % j)) fMod := sim_Ic (fun _ _ _ => .int _) fun i j h => of_decide_eq_true h
theorem sim_pow : OpSim T (rI CPow fun i j => .int (i ^ j.toNat)) fPow := sim_Ic (fun _ _ _ => .int _) fun i j h => by
  have h' := of_decide_eq_true (show decide (0 ≤ j ∧ j ≤ 1000000 ∧ i.natAbs < 2 ^ 64) = true from h)
  exact h'
def fNeg : U → Sto → Out U := fun u st => match u with
  | .int i => .ok (.int (-i)) st
  | _ => .bad
theorem sim_neg : UnSim T (rU fun i => .int (-i)) fNeg := fun Wx c σ st H u x Q hH ru hR => by
  cases u with
  | int i =>
    cases ru.inv_int
    exact ⟨i, rfl, ResG.ret hR hH (.int _)⟩
  | _ => exact hR.elim

def asLst (u : U) (st : Sto) : Option (List U) := match u with
  | .lst us => some us
  | .loc i => match st[i]? with
    | some (.lst us) => some us
    | _ => none
  | _ => none
theorem asLst_at {c : Cn} {st : Sto} {H : Hp} (h : RH T c st H) {u : U} {v : V} {us : List U} (r : Rp T c u v) (e : asLst u st = some us) : ∃ a vs, v = .ref a ∧ H a = some (.lst vs) ∧ RpL T c us vs := by
  cases u with
  | lst xs =>
    obtain ⟨a, vs, rfl, h1, h2⟩ := r.inv_lst
    cases e
    exact ⟨a, vs, rfl, h.sub _ _ h1, h2⟩
  | loc i =>
    obtain ⟨_, rfl⟩ := r.inv_loc
    dsimp only [asLst] at e
    split at e
    · rename_i us' q
      cases e
      obtain ⟨vs, h1, h2⟩ := h.at_lst q
      exact ⟨_, vs, rfl, h1, h2⟩
    · cases e
  | _ => cases e

def fAdd : U → U → Sto → Out U := fun u w st => match u, w with
  | .int i, .int j => .ok (.int (i + j)) st
  | .str a, .str b => if a.length + b.length ≤ 16777216 then .ok (.str (a ++ b)) st else .bad
  | .tup us, .tup ws => if us.isEmpty = true ∨ ¬ us.length + ws.length ≤ 16777216 then .bad else .ok (.tup (us ++ ws)) st
  | u, w => match asLst u st, asLst w st with
    | some us, some ws => if us.length + ws.length ≤ 16777216 then .ok (.loc st.length) (st ++ [.lst (us ++ ws)]) else .bad
    | _, _ => .bad
def rAddAll (K : PySem.W.Frag) : R2 := fun x y H Q => (rI0 (fun i j => .int (i + j)) x y H Q ∨ (∃ i j, x = .str i ∧ y = .str j ∧ i.length + j.length ≤ sizeLine ∧ Q (.str (i ++ j)) H)) ∨ (rCatT K x y H Q ∨ rCat x y H Q)
theorem op_addAll : OpR X (binaryOp .Add) (rAddAll X.K) := (op_add.or op_add_str).or (op_catT.or op_cat)
theorem sim_add : OpSim T (rAddAll T.K) fAdd := fun Wx c σ st H u w x y Q hH ru rw hR => by
  have lists : ∀ {us ws : List U}, asLst u st = some us → asLst w st = some ws → ResG T Wx c σ (Rp T) (if us.length + ws.length ≤ 16777216 then .ok (.loc st.length) (st ++ [.lst (us ++ ws)]) else .bad) Q → rCat x y H Q := by
    intro us ws e1 e2 h
    obtain ⟨a, vs, rfl, ha, r1⟩ := asLst_at hH ru e1
    obtain ⟨b, zs, rfl, hb, r2⟩ := asLst_at hH rw e2
    by_cases hz : us.length + ws.length ≤ 16777216
    · rw [if_pos hz] at h
      refine ⟨a, b, vs, zs, rfl, rfl, ha, hb, ?_, new_lst hH (r1.append r2) h⟩
      rw [szl, ← r1.length, ← r2.length]; exact hz
    · rw [if_neg hz] at h
      exact h.elim
  have gen : ResG T Wx c σ (Rp T) (match asLst u st, asLst w st with | some us, some ws => if us.length + ws.length ≤ 16777216 then .ok (.loc st.length) (st ++ [.lst (us ++ ws)]) else .bad | _, _ => .bad) Q → rAddAll T.K x y H Q := fun h => by
    split at h
    · rename_i us ws e1 e2
      exact .inr (.inr (lists e1 e2 h))
    · exact h.elim
  cases u with
  | int i =>
    cases w with
    | int j =>
      cases ru.inv_int
      cases rw.inv_int
      exact .inl (.inl ⟨i, j, rfl, rfl, ResG.ret hR hH (.int _)⟩)
    | _ => exact gen hR
  | str i =>
    cases w with
    | str j =>
      cases ru.inv_str
      cases rw.inv_str
      dsimp only [fAdd] at hR
      by_cases h : i.length + j.length ≤ 16777216
      · rw [if_pos h] at hR
        exact .inl (.inr ⟨i, j, rfl, rfl, by rw [szl]; exact h, ResG.ret hR hH (.str _)⟩)
      · rw [if_neg h] at hR
        exact hR.elim
    | _ => exact gen hR
  | tup us =>
    cases w with
    | tup ws =>
      obtain ⟨a, vs, rfl, h1, r1⟩ := ru.inv_tup
      obtain ⟨b, zs, rfl, h2, r2⟩ := rw.inv_tup
      dsimp only [fAdd] at hR
      by_cases h : us.isEmpty = true ∨ ¬ us.length + ws.length ≤ 16777216
      · rw [if_pos h] at hR
        exact hR.elim
      · rw [if_neg h] at hR
        have hne : ¬ us.isEmpty = true := fun z => h (.inl z)
        have hz : us.length + ws.length ≤ 16777216 := Classical.not_not.mp fun z => h (.inr z)
        refine .inr (.inl ⟨a, b, vs, zs, rfl, rfl, sqT_up hH h1, sqT_up hH h2, fun z => ?_, by rw [szl, ← r1.length, ← r2.length]; exact hz, fun z => ?_, fun _ => new_tup hH (r1.append r2) hR⟩)
        · subst z
          cases r1
          exact hne rfl
        · subst z
          cases r2
          rw [List.append_nil] at hR
          exact ResG.ret hR hH (.tup h1 r1)
    | _ => exact gen hR
  | _ => exact gen hR

def fMul : U → U → Sto → Out U := fun u w st => match u, w with
  | .int i, .int j => if cMul i j = true then .ok (.int (i * j)) st else .bad
  | u, .int k => match asLst u st with
    | some us => if -(2 ^ 63) ≤ k ∧ k < 2 ^ 63 ∧ us.length * k.toNat ≤ 16777216 then .ok (.loc st.length) (st ++ [.lst (List.replicate k.toNat us).flatten]) else .bad
    | none => .bad
  | _, _ => .bad
def rMulAll : R2 := fun x y H Q => rI CMul (fun i j => .int (i * j)) x y H Q ∨ rRep x y H Q
theorem op_mulAll : OpR X (binaryOp .Mult) rMulAll := op_mul.or op_rep
theorem RpL.rep {c : Cn} {us : List U} {vs : List V} (r : RpL T c us vs) : ∀ k : Nat, RpL T c (List.replicate k us).flatten (List.replicate k vs).flatten
  | 0 => by simpa using RpL.nil
  | k + 1 => by
    rw [List.replicate_succ, List.replicate_succ, List.flatten_cons, List.flatten_cons]
    exact r.append (RpL.rep r k)
theorem sim_mul : OpSim T rMulAll fMul := fun Wx c σ st H u w x y Q hH ru rw hR => by
  cases w with
  | int j =>
    cases rw.inv_int
    have gen : ResG T Wx c σ (Rp T) (match asLst u st with | some us => if -(2 ^ 63) ≤ j ∧ j < 2 ^ 63 ∧ us.length * j.toNat ≤ 16777216 then .ok (.loc st.length) (st ++ [.lst (List.replicate j.toNat us).flatten]) else .bad | none => .bad) Q → rMulAll x (.int j) H Q := fun h => by
      split at h
      · rename_i us e
        obtain ⟨a, vs, rfl, ha, r⟩ := asLst_at hH ru e
        split at h
        · rename_i hz
          exact .inr ⟨a, j, vs, rfl, rfl, ha, hz.1, hz.2.1, by rw [szl, ← r.length]; exact hz.2.2, new_lst hH (r.rep _) h⟩
        · exact h.elim
      · exact h.elim
    cases u with
    | int i =>
      cases ru.inv_int
      dsimp only [fMul] at hR
      by_cases h : cMul i j = true
      · rw [if_pos h] at hR
        have h' := of_decide_eq_true (show decide ((-(2 ^ 64) < i ∧ i < 2 ^ 64) ∨ (-(2 ^ 64) < j ∧ j < 2 ^ 64)) = true from h)
        exact .inl ⟨i, j, rfl, rfl, h', ResG.ret hR hH (.int _)⟩
      · rw [if_neg h] at hR
        exact hR.elim
    | _ => exact gen hR
  | _ => cases u <;> exact hR.elim

def U.isNon : U → Bool
  | .non => true
  | _ => false
def fIsN : U → U → Sto → Out U := fun u w st => match w with
  | .non => .ok (.bl u.isNon) st
  | _ => .bad
def fNotN : U → U → Sto → Out U := fun u w st => match w with
  | .non => .ok (.bl (!u.isNon)) st
  | _ => .bad
theorem Rp.non_iff {c : Cn} {u : U} {x : V} (r : Rp T c u x) : decide (x = .non) = u.isNon := by
  cases r <;> rfl
theorem sim_isN : OpSim T (fun x y H Q => y = .non ∧ Q (.bl (decide (x = .non))) H) fIsN := fun Wx c σ st H u w x y Q hH ru rw hR => by
  cases w with
  | non =>
    cases rw.inv_non
    refine ⟨rfl, ?_⟩
    rw [ru.non_iff]
    exact ResG.ret hR hH (.bl _)
  | _ => exact hR.elim
theorem sim_notN : OpSim T (fun x y H Q => y = .non ∧ Q (.bl (!decide (x = .non))) H) fNotN := fun Wx c σ st H u w x y Q hH ru rw hR => by
  cases w with
  | non =>
    cases rw.inv_non
    refine ⟨rfl, ?_⟩
    rw [ru.non_iff]
    exact ResG.ret hR hH (.bl _)
  | _ => exact hR.elim

def allD (f : U → Option PyData) : List U → Option (List PyData)
  | [] => some []
  | u :: us => match f u, allD f us with
    | some d, some ds => some (d :: ds)
    | _, _ => none
def toD (st : Sto) : Nat → U → Option PyData
  | 0, _ => none
  | n + 1, u => match u with
    | .non => some .none
    | .bl b => some (.bool b)
    | .int i => some (.int i)
    | .str x => some (.str x)
    | .tup us => (allD (toD st n) us).map .tuple
    | .lst us => (allD (toD st n) us).map .list
    | .scr us => (allD (toD st n) us).map .list
    | .loc i => match st[i]? with
      | some (.lst us) => (allD (toD st n) us).map .list
      | _ => none
    | _ => none
theorem allD_at {K : PySem.W.Frag} {c : Cn} {H : Hp} {f : U → Option PyData} (hf : ∀ u v d, Rp T c u v → f u = some d → Dp K H v d) : ∀ {us : List U} {vs : List V} {ds : List PyData}, RpL T c us vs → allD f us = some ds → DpAll K H vs ds
  | _, _, _, .nil, e => by cases e; exact .nil
  | u :: us, v :: vs, ds, .cons r t, e => by
    dsimp only [allD] at e
    split at e
    · rename_i d ds' e1 e2
      cases e
      exact .cons (hf u v d r e1) (allD_at hf t e2)
    · cases e
theorem toD_at {c : Cn} {st : Sto} {H : Hp} (hH : RH T c st H) : ∀ (n : Nat) (u : U) (v : V) (d : PyData), Rp T c u v → toD st n u = some d → Dp T.K H v d
  | 0, _, _, _, _, e => by cases e
  | n + 1, u, v, d, r, e => by
    have ih := toD_at hH n
    cases u with
    | non => cases r.inv_non; cases e; exact .non
    | bl b => cases r.inv_bl; cases e; exact .bl b
    | int b => cases r.inv_int; cases e; exact .int b
    | str b => cases r.inv_str; cases e; exact .str b
    | tup us =>
      obtain ⟨a, vs, rfl, h1, r1⟩ := r.inv_tup
      dsimp only [toD] at e
      obtain ⟨ds, e1, rfl⟩ := Option.map_eq_some_iff.mp e
      exact .tup (sqT_up hH h1) (allD_at ih r1 e1)
    | lst us =>
      obtain ⟨a, vs, rfl, h1, r1⟩ := r.inv_lst
      dsimp only [toD] at e
      obtain ⟨ds, e1, rfl⟩ := Option.map_eq_some_iff.mp e
      exact .lst (SqL.of (hH.sub _ _ h1)) (allD_at ih r1 e1)
    | scr us =>
      obtain ⟨a, vs, rfl, h1, r1⟩ := r.inv_scr
      dsimp only [toD] at e
      obtain ⟨ds, e1, rfl⟩ := Option.map_eq_some_iff.mp e
      exact .lst (sqL_up hH h1) (allD_at ih r1 e1)
    | loc i =>
      obtain ⟨_, rfl⟩ := r.inv_loc
      dsimp only [toD] at e
      split at e
      · rename_i us q
        obtain ⟨vs, h1, r1⟩ := hH.at_lst q
        obtain ⟨ds, e1, rfl⟩ := Option.map_eq_some_iff.mp e
        exact .lst (SqL.of h1) (allD_at ih r1 e1)
      · cases e
    | _ => cases e
def fEqB (g : Bool → Bool) : U → U → Sto → Out U := fun u w st => match toD st 12 u, toD st 12 w with
  | some d, some e => if SeqAt.shaped d = true ∧ SeqAt.shaped e = true then .ok (.bl (g (PyData.eqv d e))) st else .bad
  | _, _ => .bad
def fEq := fEqB id
def fNe := fEqB not
theorem sim_eq : OpSim T (rEqD T.K) fEq := fun Wx c σ st H u w x y Q hH ru rw hR => by
  dsimp only [fEq, fEqB] at hR
  split at hR
  · rename_i d e e1 e2
    split at hR
    · rename_i hs
      exact ⟨d, e, toD_at hH _ _ _ _ ru e1, toD_at hH _ _ _ _ rw e2, hs.1, hs.2, ResG.ret hR hH (.bl _)⟩
    · exact hR.elim
  · exact hR.elim
theorem sim_ne : OpSim T (rNeD T.K) fNe := fun Wx c σ st H u w x y Q hH ru rw hR => by
  dsimp only [fNe, fEqB] at hR
  split at hR
  · rename_i d e e1 e2
    split at hR
    · rename_i hs
      exact ⟨d, e, toD_at hH _ _ _ _ ru e1, toD_at hH _ _ _ _ rw e2, hs.1, hs.2, ResG.ret hR hH (.bl _)⟩
    · exact hR.elim
  · exact hR.elim

def flatU : U → Bool
  | .non => true | .bl _ => true | .int _ => true | .str _ => true | _ => false
def eqU : U → U → Bool
  | .non, .non => true
  | .bl a, .bl b => a == b
  | .bl a, .int b => (if a then 1 else 0) == b
  | .int a, .bl b => a == (if b then 1 else 0)
  | .int a, .int b => a == b
  | .str a, .str b => a == b
  | _, _ => false
def inU (u : U) (us : List U) : Bool := us.any fun w => NK.eqU w u
theorem flat_rp {c : Cn} {u : U} {v : V} (r : Rp T c u v) (h : flatU u = true) : flatV v = true := by
  cases r <;> first | rfl | cases h
theorem eqU_rp {c : Cn} {u w : U} {x y : V} (r : Rp T c u x) (q : Rp T c w y) (h : flatU u = true) (g : flatU w = true) : NK.eqU u w = eqV x y := by
  cases r <;> first | (cases h; done) | (cases q <;> first | rfl | (cases g; done))
theorem all_flat {c : Cn} : ∀ {us : List U} {vs : List V}, RpL T c us vs → us.all flatU = true → vs.all flatV = true
  | _, _, .nil, _ => rfl
  | _, _, .cons r t, h => by
    rw [List.all_cons, Bool.and_eq_true] at h ⊢
    exact ⟨flat_rp r h.1, all_flat t h.2⟩
theorem in_rp {c : Cn} {u : U} {v : V} (q : Rp T c u v) (g : flatU u = true) : ∀ {us : List U} {vs : List V}, RpL T c us vs → us.all flatU = true → inU u us = inV v vs
  | _, _, .nil, _ => rfl
  | _, _, .cons r t, h => by
    rw [List.all_cons, Bool.and_eq_true] at h
    have ih := in_rp q g t h.2
    unfold inU inV at ih ⊢
    rw [List.any_cons, List.any_cons, eqU_rp r q h.1 g, ih]
def fIn (neg : Bool) : U → U → Sto → Out U := fun u w st => match items w st with
  | some us => if flatU u = true ∧ us.all flatU = true then .ok (.bl (if neg then !inU u us else inU u us)) st else .bad
  | none => .bad
theorem sim_in {neg : Bool} : OpSim T (rIn T.K neg) (fIn neg) := fun Wx c σ st H u w x y Q hH ru rw hR => by
  dsimp only [fIn] at hR
  split at hR
  · rename_i us e
    obtain ⟨a, vs, rfl, h1, r1⟩ := items_at hH rw e
    split at hR
    · rename_i hs
      refine ⟨a, vs, rfl, h1, flat_rp ru hs.1, all_flat r1 hs.2, ?_⟩
      rw [← in_rp ru hs.1 r1 hs.2]
      exact ResG.ret hR hH (.bl _)
    · exact hR.elim
  · exact hR.elim

def fLen : List U → Sto → Out U := fun us st => match us with
  | [.str z] => if z.length ≤ 16777216 then .ok (.int z.length) st else .bad
  | [u] => match items u st with
    | some xs => .ok (.int xs.length) st
    | none => .bad
  | _ => .bad
theorem sim_len : CallSim T (fun xs H Q => ∃ x n, xs = [x] ∧ LenV T.K x H n ∧ Q (.int n) H) fLen := fun Wx c σ st H us xs Q hH r hR => by
  cases r with
  | nil => exact hR.elim
  | @cons u v us vs r t =>
    cases t with
    | cons _ _ => cases u <;> exact hR.elim
    | nil =>
      have gen : ResG T Wx c σ (Rp T) (match items u st with | some xs => .ok (.int xs.length) st | none => .bad) Q → ∃ x n, [v] = [x] ∧ LenV T.K x H n ∧ Q (.int n) H := fun h => by
        split at h
        · rename_i us e
          obtain ⟨a, vs, rfl, h1, r1⟩ := items_at hH r e
          refine ⟨_, vs.length, rfl, ?_, ?_⟩
          · rcases h1 with h1 | h1
            · exact .inl ⟨vs, h1, rfl⟩
            · exact .inr ⟨vs, h1, rfl⟩
          · rw [← r1.length]
            exact ResG.ret h hH (.int _)
        · exact h.elim
      cases u with
      | str z =>
        cases r.inv_str
        dsimp only [fLen] at hR
        by_cases h : z.length ≤ 16777216
        · rw [if_pos h] at hR
          exact ⟨_, z.length, rfl, ⟨by rw [szl]; exact h, rfl⟩, ResG.ret hR hH (.int _)⟩
        · rw [if_neg h] at hR
          exact hR.elim
      | _ => exact gen hR
def fList : List U → Sto → Out U := fun us st => match us with
  | [u] => match items u st with
    | some xs => .ok (.loc st.length) (st ++ [.lst xs])
    | none => .bad
  | _ => .bad
theorem sim_list : CallSim T (fun xs H Q => ∃ p ys, xs = [.ref p] ∧ (SqL T.K H p ys ∨ SqT T.K H p ys) ∧ ∀ l, H l = none → Q (.ref l) (upd H l (.lst ys))) fList := fun Wx c σ st H us xs Q hH r hR => by
  cases r with
  | nil => exact hR.elim
  | @cons u v us vs r t =>
    cases t with
    | cons _ _ => exact hR.elim
    | nil =>
      dsimp only [fList] at hR
      split at hR
      · rename_i us e
        obtain ⟨a, vs, rfl, h1, r1⟩ := items_at hH r e
        exact ⟨a, vs, rfl, h1, new_lst hH r1 hR⟩
      · exact hR.elim
def fTuple : List U → Sto → Out U := fun us st => match us with
  | [u] => match items u st with
    | some xs => .ok (.tup xs) st
    | none => .bad
  | _ => .bad
theorem sim_tuple : CallSim T (fun xs H Q => ∃ p ys, xs = [.ref p] ∧ ((SqL T.K H p ys ∧ ∀ l, H l = none → Q (.ref l) (upd H l (.tup ys))) ∨ (SqT T.K H p ys ∧ Q (.ref p) H))) fTuple := fun Wx c σ st H us xs Q hH r hR => by
  cases r with
  | nil => exact hR.elim
  | @cons u v us vs r t =>
    cases t with
    | cons _ _ => exact hR.elim
    | nil =>
      cases u with
      | tup ws =>
        obtain ⟨a, vs, rfl, h1, r1⟩ := r.inv_tup
        exact ⟨a, vs, rfl, .inr ⟨sqT_up hH h1, ResG.ret hR hH (.tup h1 r1)⟩⟩
      | lst ws =>
        obtain ⟨a, vs, rfl, h1, r1⟩ := r.inv_lst
        exact ⟨a, vs, rfl, .inl ⟨SqL.of (hH.sub _ _ h1), new_tup hH r1 hR⟩⟩
      | scr ws =>
        obtain ⟨a, vs, rfl, h1, r1⟩ := r.inv_scr
        exact ⟨a, vs, rfl, .inl ⟨sqL_up hH h1, new_tup hH r1 hR⟩⟩
      | loc i =>
        obtain ⟨_, rfl⟩ := r.inv_loc
        dsimp only [fTuple, items] at hR
        cases e : st[i]? with
        | none => rw [e] at hR; exact hR.elim
        | some o =>
          rw [e] at hR
          cases o with
          | lst ws =>
            obtain ⟨vs, h1, r1⟩ := hH.at_lst e
            exact ⟨_, vs, rfl, .inl ⟨SqL.of h1, new_tup hH r1 hR⟩⟩
          | _ => exact hR.elim
      | _ => exact hR.elim
def fInt : List U → Sto → Out U := fun us st => match us with
  | [.int i] => .ok (.int i) st
  | [.bl k] => .ok (.int (if k then 1 else 0)) st
  | _ => .bad
theorem sim_int : CallSim T (fun xs H Q => (∃ i, xs = [.int i] ∧ Q (.int i) H) ∨ ∃ k, xs = [.bl k] ∧ Q (.int (if k then 1 else 0)) H) fInt := fun Wx c σ st H us xs Q hH r hR => by
  cases r with
  | nil => exact hR.elim
  | @cons u v us vs r t =>
    cases t with
    | cons _ _ => cases u <;> exact hR.elim
    | nil =>
      cases u with
      | int i => cases r.inv_int; exact .inl ⟨i, rfl, ResG.ret hR hH (.int _)⟩
      | bl i => cases r.inv_bl; exact .inr ⟨i, rfl, ResG.ret hR hH (.int _)⟩
      | _ => exact hR.elim
def fAbs : List U → Sto → Out U := fun us st => match us with
  | [.int i] => .ok (.int (if i < 0 then -i else i)) st
  | _ => .bad
theorem sim_abs : CallSim T (fun xs H Q => ∃ i, xs = [.int i] ∧ Q (.int (if i < 0 then -i else i)) H) fAbs := fun Wx c σ st H us xs Q hH r hR => by
  cases r with
  | nil => exact hR.elim
  | @cons u v us vs r t =>
    cases t with
    | cons _ _ => cases u <;> exact hR.elim
    | nil =>
      cases u with
      | int i => cases r.inv_int; exact ⟨i, rfl, ResG.ret hR hH (.int _)⟩
      | _ => exact hR.elim
def fMin2 : List U → Sto → Out U := fun us st => match us with
  | [.int i, .int j] => .ok (.int (if j < i then j else i)) st
  | _ => .bad
theorem sim_min2 : CallSim T (fun xs H Q => ∃ i j, xs = [.int i, .int j] ∧ Q (.int (if j < i then j else i)) H) fMin2 := fun Wx c σ st H us xs Q hH r hR => by
  unfold fMin2 at hR
  split at hR
  · rename_i i j
    obtain ⟨v, vs, rfl, r1, t⟩ := r.inv_cons
    obtain ⟨v2, vs2, rfl, r2, t2⟩ := t.inv_cons
    cases t2.inv_nil
    cases r1.inv_int
    cases r2.inv_int
    exact ⟨i, j, rfl, ResG.ret hR hH (.int _)⟩
  · exact hR.elim
def allInts : List U → Option (List Int)
  | [] => some []
  | .int i :: r => (allInts r).map (i :: ·)
  | _ :: _ => none
theorem allInts_at {c : Cn} : ∀ {us : List U} {vs : List V} {ns : List Int}, RpL T c us vs → allInts us = some ns → vs = ns.map V.int
  | _, _, _, .nil, e => by cases e; rfl
  | u :: us, v :: vs, ns, .cons r t, e => by
    cases u with
    | int i =>
      obtain ⟨ns', e1, rfl⟩ := Option.map_eq_some_iff.mp e
      cases r.inv_int
      rw [List.map_cons, allInts_at t e1]
    | _ => cases e
theorem atI_rp {c : Cn} {us : List U} {vs : List V} (r : RpL T c us vs) {i : Int} {u : U} (e : atI us i = some u) : ∃ v, atI vs i = some v ∧ Rp T c u v := by
  unfold atI at e ⊢
  rw [← r.length]
  cases q : ixN us.length i with
  | none => rw [q] at e; cases e
  | some j =>
    rw [q] at e
    exact r.get e
def fIx : U → U → Sto → Out U := fun u w st => match w with
  | .int i => match u with
    | .str z => if z.length ≤ 16777216 then (match atI z.cps.toList i with
      | some c => .ok (.str ⟨#[c]⟩) st
      | none => .bad) else .bad
    | u => match items u st with
      | some us => (match atI us i with
        | some x => .ok x st
        | none => .bad)
      | none => .bad
  | _ => .bad
theorem sim_ix : OpSim T (rIx T.K) fIx := fun Wx c σ st H u w x y Q hH ru rw hR => by
  cases w with
  | int i =>
    cases rw.inv_int
    have gen : ResG T Wx c σ (Rp T) (match items u st with | some us => (match atI us i with | some x => .ok x st | none => .bad) | none => .bad) Q → rIx T.K x (.int i) H Q := fun h => by
      split at h
      · rename_i us e
        obtain ⟨a, vs, rfl, h1, r1⟩ := items_at hH ru e
        split at h
        · rename_i z q
          obtain ⟨v, hv, rv⟩ := atI_rp r1 q
          rcases h1 with h1 | h1
          · exact .inl ⟨a, vs, i, v, rfl, rfl, h1, hv, ResG.ret h hH rv⟩
          · exact .inr (.inl ⟨a, vs, i, v, rfl, rfl, h1, hv, ResG.ret h hH rv⟩)
        · exact h.elim
      · exact h.elim
    cases u with
    | str z =>
      cases ru.inv_str
      dsimp only [fIx] at hR
      split at hR
      · rename_i hz
        split at hR
        · rename_i c' q
          exact .inr (.inr ⟨z, i, c', rfl, rfl, by rw [szl]; exact hz, q, ResG.ret hR hH (.str _)⟩)
        · exact hR.elim
      · exact hR.elim
    | _ => exact gen hR
  | _ => exact hR.elim
end
end NK

namespace NK
open PySem L2

def WalkM (T : Tb) (c0 : Cn) (J : It) (us : List U) (g : Sto → Prop) : Prop :=
  ∃ (G : Hp → Prop) (Y : Nat → Hp → V → Hp → Prop), Walk J us.length G Y ∧ ∀ c st H, Le c0 c → RH T c st H → g st →
    G H ∧ ∀ i x H', i < us.length → Y i H x H' → ∃ c' u, us[i]? = some u ∧ Le c c' ∧ RH T c' st H' ∧ Rp T c' u x
structure Src where
  us : List U
  g : Sto → Prop
abbrev MI := MG Src
abbrev tiOf (T : Tb) (P : Pin) (Wx : WX) (m : MI) : TI := tgOf T P Wx (fun c p J => WalkM T c J p.us p.g) m
def PIm (X : Cx) (T : Tb) (P : Pin) (Wx : WX) (tg e : Expr) (m : MI) : Prop := PI X tg e (tiOf T P Wx m)

def src (u : U) (st : Sto) : Option Src := match u with
  | .str z => some ⟨z.cps.toList.map fun k => .str ⟨#[k]⟩, fun _ => True⟩
  | .tup us => some ⟨us, fun _ => True⟩
  | .lst us => some ⟨us, fun _ => True⟩
  | .scr us => some ⟨us, fun _ => True⟩
  | .loc i => match st[i]? with
    | some (.lst us) => some ⟨us, fun s => s[i]? = some (Ob.lst us)⟩
    | _ => none
  | _ => none
def iSeq (m : ME) : MI := fun env st => (m env st).bind fun u st1 => match src u st1 with
  | some p => .ok p st1
  | none => .bad
section
variable {X : Cx} {T : Tb} {P : Pin} {Wx : WX} {tg e : Expr} {m : ME}
theorem walk_of_list {c0 : Cn} {a : Addr} {us : List U} {g : Sto → Prop} (h : ∀ c st H, Le c0 c → RH T c st H → g st → ∃ vs, SqL T.K H a vs ∧ RpL T c us vs) : WalkM T c0 (Itl T.K a) us g := by
  refine ⟨fun H => ∃ vs, SqL T.K H a vs ∧ vs.length = us.length, fun i H x H' => H' = H ∧ ∀ vs, SqL T.K H a vs → vs[i]? = some x, ⟨fun i H hi ⟨vs, h1, h2⟩ => ?_, fun H ⟨vs, h1, h2⟩ => ⟨vs, h1, Nat.le_of_eq h2⟩, fun i H x H' hi _ y => y⟩, fun c st H l hH hg => ?_⟩
  · have hi' : i < vs.length := by rw [h2]; exact hi
    exact ⟨vs, vs[i], h1, by simp [hi']⟩
  · obtain ⟨vs, h1, r⟩ := h c st H l hH hg
    refine ⟨⟨vs, h1, r.length.symm⟩, fun i x H' hi y => ?_⟩
    obtain ⟨rfl, hx⟩ := y
    obtain ⟨u, hu, ru⟩ := r.getV (hx vs h1)
    exact ⟨c, u, hu, Le.refl c, hH, ru⟩
theorem walk_of_tup {c0 : Cn} {a : Addr} {us : List U} {g : Sto → Prop} (h : ∀ c st H, Le c0 c → RH T c st H → g st → ∃ vs, SqT T.K H a vs ∧ RpL T c us vs) : WalkM T c0 (Itt T.K a) us g := by
  refine ⟨fun H => ∃ vs, SqT T.K H a vs ∧ vs.length = us.length, fun i H x H' => H' = H ∧ ∀ vs, SqT T.K H a vs → vs[i]? = some x, ⟨fun i H hi ⟨vs, h1, h2⟩ => ?_, fun H ⟨vs, h1, h2⟩ => ⟨vs, h1, Nat.le_of_eq h2⟩, fun i H x H' hi _ y => y⟩, fun c st H l hH hg => ?_⟩
  · have hi' : i < vs.length := by rw [h2]; exact hi
    exact ⟨vs, vs[i], h1, by simp [hi']⟩
  · obtain ⟨vs, h1, r⟩ := h c st H l hH hg
    refine ⟨⟨vs, h1, r.length.symm⟩, fun i x H' hi y => ?_⟩
    obtain ⟨rfl, hx⟩ := y
    obtain ⟨u, hu, ru⟩ := r.getV (hx vs h1)
    exact ⟨c, u, hu, Le.refl c, hH, ru⟩
theorem walk_of_str {c0 : Cn} {z : Str} {g : Sto → Prop} : WalkM T c0 (Its z) (z.cps.toList.map fun k => U.str ⟨#[k]⟩) g := by
  refine ⟨fun _ => True, fun i H v H' => H' = H ∧ ∃ c, z.cps[i]? = some c ∧ v = .str ⟨#[c]⟩, ?_, fun c st H l hH hg => ⟨True.intro, fun i x H' hi y => ?_⟩⟩
  · rw [List.length_map, Array.length_toList]; exact walk_str
  · obtain ⟨rfl, k, hk, rfl⟩ := y
    refine ⟨c, .str ⟨#[k]⟩, ?_, Le.refl c, hH, .str _⟩
    rw [List.getElem?_map, Array.getElem?_toList, hk]
    rfl
theorem pim_seq (hK : X.K = T.K) (h : PEm X T P Wx e m) : PIm X T P Wx tg e (iSeq m) := PI.imp (PI.or (PI.or (pi_list h) (pi_tup h)) (pi_str h)) fun σ H R ⟨c, env, st, hH, hE, hR⟩ => by
  have go := tg_bind (m := m) (R := Rp T) (Q := R) hH hE hR
  cases e1 : m env st with
  | bad =>
    unfold iSeq at hR
    rw [e1] at hR
    exact hR.elim
  | exc x st1 =>
    refine .inr ⟨c, env, st, hH, hE, ?_⟩
    unfold iSeq at hR
    rw [e1] at hR ⊢
    exact hR
  | ok u st1 =>
    unfold iSeq at hR
    rw [e1] at hR
    have tup : ∀ {us : List U}, u = .tup us → (iList X.K (teOf T P Wx m) σ H R ∨ iTup X.K (teOf T P Wx m) σ H R) ∨ iStr (teOf T P Wx m) σ H R := by
      intro us eu
      subst eu
      refine .inl (.inr ⟨c, env, st, hH, hE, ?_⟩)
      rw [e1]
      intro c1 v H1 l1 hH1 r1
      obtain ⟨a, vs, rfl, h1, r2⟩ := r1.inv_tup
      refine ⟨a, rfl, ⟨vs, by rw [hK]; exact sqT_up hH1 h1⟩, ?_⟩
      rw [hK]
      exact hR c1 _ H1 l1 hH1 (walk_of_tup fun c2 st2 H2 l2 hH2 _ => ⟨vs, sqT_up hH2 (sqT_mono l2.F h1), r2.mono l2⟩)
    have lst : ∀ {us : List U} {g : Sto → Prop}, src u st1 = some ⟨us, g⟩ → (∀ c1 v H1, Le c c1 → RH T c1 st1 H1 → Rp T c1 u v → ∃ a vs, v = .ref a ∧ SqL T.K H1 a vs ∧ ∀ c2 st2 H2, Le c1 c2 → RH T c2 st2 H2 → g st2 → ∃ vs, SqL T.K H2 a vs ∧ RpL T c2 us vs) →
        (iList X.K (teOf T P Wx m) σ H R ∨ iTup X.K (teOf T P Wx m) σ H R) ∨ iStr (teOf T P Wx m) σ H R := by
      intro us g es k
      refine .inl (.inl ⟨c, env, st, hH, hE, ?_⟩)
      rw [e1]
      intro c1 v H1 l1 hH1 r1
      obtain ⟨a, vs, rfl, h1, kk⟩ := k c1 v H1 l1 hH1 r1
      refine ⟨a, rfl, ⟨vs, by rw [hK]; exact h1⟩, ?_⟩
      rw [hK]
      change ResG T Wx c σ _ (match src u st1 with | some p => .ok p st1 | none => .bad) R at hR
      rw [es] at hR
      exact hR c1 _ H1 l1 hH1 (walk_of_list kk)
    cases u with
    | tup us => exact tup rfl
    | lst us =>
      refine lst (us := us) (g := fun _ => True) rfl fun c1 v H1 l1 hH1 r1 => ?_
      obtain ⟨a, vs, rfl, h1, r2⟩ := r1.inv_lst
      exact ⟨a, vs, rfl, SqL.of (hH1.sub _ _ h1), fun c2 st2 H2 l2 hH2 _ => ⟨vs, SqL.of (hH2.sub _ _ (l2.F _ _ h1)), r2.mono l2⟩⟩
    | scr us =>
      refine lst (us := us) (g := fun _ => True) rfl fun c1 v H1 l1 hH1 r1 => ?_
      obtain ⟨a, vs, rfl, h1, r2⟩ := r1.inv_scr
      exact ⟨a, vs, rfl, sqL_up hH1 h1, fun c2 st2 H2 l2 hH2 _ => ⟨vs, sqL_up hH2 (sqL_mono l2.F h1), r2.mono l2⟩⟩
    | loc i =>
      cases es : st1[i]? with
      | none =>
        change ResG T Wx c σ _ (match (match st1[i]? with | some (.lst us) => some (Src.mk us fun s => s[i]? = some (Ob.lst us)) | _ => none) with | some p => .ok p st1 | none => .bad) R at hR
        rw [es] at hR
        exact hR.elim
      | some o =>
        cases o with
        | lst us =>
          refine lst (us := us) (g := fun s => s[i]? = some (Ob.lst us)) (by dsimp only [src]; rw [es]) fun c1 v H1 l1 hH1 r1 => ?_
          obtain ⟨hi, rfl⟩ := r1.inv_loc
          obtain ⟨vs, h1, r2⟩ := hH1.at_lst es
          refine ⟨_, vs, rfl, SqL.of h1, fun c2 st2 H2 l2 hH2 hg => ?_⟩
          obtain ⟨ws, h3, r3⟩ := hH2.at_lst hg
          rw [l2.ρ i hi] at h3
          exact ⟨ws, SqL.of h3, r3⟩
        | _ =>
          change ResG T Wx c σ _ (match (match st1[i]? with | some (.lst us) => some (Src.mk us fun s => s[i]? = some (Ob.lst us)) | _ => none) with | some p => .ok p st1 | none => .bad) R at hR
          rw [es] at hR
          exact hR.elim
    | str z =>
      refine .inr ⟨c, env, st, hH, hE, ?_⟩
      rw [e1]
      intro c1 v H1 l1 hH1 r1
      cases r1.inv_str
      exact ⟨z, rfl, hR c1 _ H1 l1 hH1 walk_of_str⟩
    | _ => exact hR.elim

def iRng1 (ma : MA) : MI := fun env st => (ma env st).bind fun us st1 => match us with
  | [.int j] => if -(2 ^ 62) ≤ j ∧ j < 2 ^ 62 then .ok ⟨(List.range j.toNat).map fun (i : Nat) => .int (0 + (i : Int)), fun _ => True⟩ st1 else .bad
  | _ => .bad
theorem walk_of_range {c0 : Cn} {lo : Int} {n : Nat} {g : Sto → Prop} : WalkM T c0 (Itr lo n) ((List.range n).map fun (i : Nat) => U.int (lo + (i : Int))) g := by
  refine ⟨fun _ => True, YFn fun i => .int (lo + i), ?_, fun c st H l hH hg => ⟨True.intro, fun i x H' hi y => ?_⟩⟩
  · rw [List.length_map, List.length_range]; exact walk_range
  · obtain ⟨rfl, rfl⟩ := y
    rw [List.length_map, List.length_range] at hi
    exact ⟨c, .int (lo + (i : Int)), by rw [List.getElem?_map, List.getElem?_range hi]; rfl, Le.refl c, hH, .int _⟩
variable {a b : Expr} {ma : MA} {p pos tpos : Pos}
theorem pim_range1 (hg : Gl X "range") (hm : X.mg "range" = none) (ha : PAm X T P Wx [a] ma) (hs : starEach [a] X.env = [(false, eval a X.env)] := by rfl) : PIm X T P Wx tg (.Call (.Name "range" p) [a] [] pos) (iRng1 ma) :=
  PI.imp (pi_range1 hg hm ha hs) fun σ H R ⟨c, env, st, hH, hE, hR⟩ => by
    refine (tg_bind hH hE hR).mono fun vs H1 ⟨us, c1, st1, l1, hH1, hE1, r1, hR1⟩ => ?_
    split at hR1
    · rename_i j
      obtain ⟨v, vs', rfl, r, t⟩ := r1.inv_cons
      cases t.inv_nil
      cases r.inv_int
      split at hR1
      · rename_i hj
        exact ⟨j, rfl, hj.1, hj.2, ResG.ret hR1 hH1 walk_of_range⟩
      · exact hR1.elim
    · exact hR1.elim
def enumFrom : Nat → List U → List U
  | _, [] => []
  | n, u :: us => .tup [.int (n : Int), u] :: enumFrom (n + 1) us
theorem enum_len : ∀ (n : Nat) (us : List U), (enumFrom n us).length = us.length
  | _, [] => rfl
  | n, u :: us => by
    show (enumFrom (n + 1) us).length + 1 = us.length + 1
    rw [enum_len (n + 1) us]
theorem enum_get : ∀ (n : Nat) (us : List U) (i : Nat) (u : U), us[i]? = some u → (enumFrom n us)[i]? = some (.tup [.int ((n + i : Nat) : Int), u])
  | _, [], _, _, h => by simp at h
  | n, a :: us, 0, u, h => by
    cases h
    rfl
  | n, a :: us, i + 1, u, h => by
    have ih := enum_get (n + 1) us i u (by simpa using h)
    show (enumFrom (n + 1) us)[i]? = _
    rw [ih]
    have e : n + 1 + i = n + (i + 1) := by omega
    rw [e]
theorem new_pair {c : Cn} {st : Sto} {H : Hp} (hH : RH T c st H) {u w : U} {x y : V} (r : Rp T c u x) (q : Rp T c w y) {t : Addr} (ht : H t = none) :
    Le c (c.still t (.tup [x, y])) ∧ RH T (c.still t (.tup [x, y])) st (upd H t (.tup [x, y])) ∧ Rp T (c.still t (.tup [x, y])) (.tup [u, w]) (.ref t) :=
  let l := le_still hH ht (.tup [x, y])
  ⟨l, hH.still ht _, .tup (SqT.of upd_same) (.cons (r.mono l) (.cons (q.mono l) .nil))⟩
theorem walk_of_enum {c0 : Cn} {a : Addr} {us : List U} {g : Sto → Prop} (h : ∀ c st H, Le c0 c → RH T c st H → g st → ∃ vs, SqL T.K H a vs ∧ RpL T c us vs) : WalkM T c0 (Ite T.K a) (enumFrom 0 us) g := by
  refine ⟨fun H => ∃ vs, SqL T.K H a vs ∧ vs.length = us.length, fun i H v H' => ∃ t x, v = .ref t ∧ H t = none ∧ H' = upd H t (.tup [.int (i : Nat), x]) ∧ ∀ xs, SqL T.K H a xs → xs[i]? = some x, ⟨fun i H hi ⟨vs, h1, h2⟩ => ?_, fun H ⟨vs, h1, h2⟩ => ⟨vs, h1, ?_⟩, fun i H x H' hi _ y => y⟩, fun c st H l hH hg => ?_⟩
  · have hi' : i < vs.length := by rw [h2, ← enum_len 0 us]; exact hi
    exact ⟨vs, vs[i], h1, by simp [hi']⟩
  · rw [enum_len, h2]; exact Nat.le_refl _
  · obtain ⟨vs, h1, r⟩ := h c st H l hH hg
    refine ⟨⟨vs, h1, r.length.symm⟩, fun i x H' hi y => ?_⟩
    obtain ⟨t, z, rfl, ht, rfl, hx⟩ := y
    obtain ⟨u, hu, ru⟩ := r.getV (hx vs h1)
    obtain ⟨n1, n2, n3⟩ := new_pair hH (.int (i : Int)) ru ht
    refine ⟨_, _, enum_get 0 us i u hu, n1, n2, ?_⟩
    rw [Nat.zero_add]
    exact n3
end

abbrev MGt := U → Env → Sto → Option Env
def gN (i : Nat) : MGt := fun u env _ => some (env.set i (some u))
def setAll : List Nat → List U → Env → Option Env
  | [], [], env => some env
  | i :: is, u :: us, env => setAll is us (env.set i (some u))
  | _, _, _ => none
def gT (is : List Nat) : MGt := fun u env _ => match u with
  | .tup us => setAll is us env
  | _ => none
def tgtOf (T : Tb) (P : Pin) (g : MGt) : TG := fun v σ H Q => ∃ c env st u env', RH T c st H ∧ RE T P c env σ ∧ Rp T c u v ∧ g u env st = some env' ∧ ∀ σ', RE T P c env' σ' → Q σ' H
def PGm (X : Cx) (T : Tb) (P : Pin) (tg : Expr) (g : MGt) : Prop := PG X tg (tgtOf T P g)
theorem PG.imp {X : Cx} {tg : Expr} {t t' : TG} (h : PG X tg t) (k : ∀ v σ H Q, t' v σ H Q → t v σ H Q) : PG X tg t' := ⟨fun pins s σ H v u Q I r q => h.run pins s σ H v u Q I r (k v σ H Q q)⟩
section
variable {X : Cx} {T : Tb} {P : Pin} {pos : Pos}
theorem pgm_name {tg : Expr} {i : Nat} (h : PG X tg (gName i)) (hp : pinned P i = false := by rfl) : PGm X T P tg (gN i) := PG.imp h fun v σ H Q ⟨c, env, st, u, env', hH, hE, r, e, k⟩ => by
  cases e
  exact k _ (hE.set r i hp)
inductive PGN (X : Cx) (P : Pin) : List Expr → List Nat → TGs → Prop
  | nil : PGN X P [] [] gNil
  | cons {e : Expr} {es : List Expr} {i : Nat} {is : List Nat} {t : TGs} : PG X e (gName i) → pinned P i = false → PGN X P es is t → (assignEach (e :: es) X.env).map (·.2) = assign e X.env :: (assignEach es X.env).map (·.2) → PGN X P (e :: es) (i :: is) (gCons (gName i) t)
theorem PGN.pgs {es : List Expr} {is : List Nat} {t : TGs} (h : PGN X P es is t) : PGs X es t := by
  induction h with
  | nil => exact pgs_nil
  | cons a _ _ b ih => exact pgs_cons a ih b
theorem PGN.run {es : List Expr} {is : List Nat} {t : TGs} (h : PGN X P es is t) : ∀ {c : Cn} {env env' : Env} {σ : L2.St} {H : Hp} {us : List U} {vs : List V} {Q : L2.St → Hp → Prop}, RE T P c env σ → RpL T c us vs → setAll is us env = some env' → (∀ σ', RE T P c env' σ' → Q σ' H) → t vs σ H Q := by
  induction h with
  | nil =>
    intro c env env' σ H us vs Q hE r e k
    cases us with
    | nil =>
      cases e
      cases r
      exact ⟨rfl, k _ hE⟩
    | cons _ _ => cases e
  | @cons e es i is t a hp _ b ih =>
    intro c env env' σ H us vs Q hE r e k
    cases us with
    | nil => cases e
    | cons u us =>
      obtain ⟨v, vs', rfl, r1, r2⟩ := r.inv_cons
      exact ⟨v, vs', rfl, ih (hE.set r1 i hp) r2 e k⟩
theorem set_len : ∀ {is : List Nat} {us : List U} {env env' : Env}, setAll is us env = some env' → us.length = is.length
  | [], [], _, _, _ => rfl
  | i :: is, u :: us, env, env', h => by
    have := set_len (is := is) (us := us) h
    simp [this]
  | [], _ :: _, _, _, h => by cases h
  | _ :: _, [], _, _, h => by cases h
theorem pgm_tup {es : List Expr} {kk : Nat} {is : List Nat} {t : TGs} (hK : X.K = T.K) (hc : X.calm = true) (h : PGN X P es is t) (hn : (assignEach es X.env).length = is.length := by rfl) (hst : (assignEach es X.env).findIdx? (·.1) = none := by rfl) : PGm X T P (.Tuple es kk pos) (gT is) :=
  PG.imp (pg_tup hc h.pgs hn hst) fun v σ H Q ⟨c, env, st, u, env', hH, hE, r, e, k⟩ => by
    cases u with
    | tup us =>
      obtain ⟨a, vs, rfl, h1, r1⟩ := r.inv_tup
      refine ⟨a, vs, rfl, by rw [hK]; exact sqT_up hH h1, ?_, h.run hE r1 e k⟩
      rw [← r1.length]
      exact set_len e
    | _ => cases e
end
end NK

namespace NK
open PySem L2

inductive SO where
  | next (env : Env) (st : Sto)
  | ret (u : U) (st : Sto)
  | brk (env : Env) (st : Sto)
  | cont (env : Env) (st : Sto)
  | exc (x : Ex) (env : Env) (st : Sto)
  | bad
abbrev MS := Env → Sto → SO
def ResS (T : Tb) (P : Pin) (Wx : WX) (c : Cn) (r : SO) (D : Ends) : Prop := match r with
  | .next env st => ∀ c' σ' H', Le c c' → RH T c' st H' → RE T P c' env σ' → D.nx σ' H'
  | .ret u st => ∀ c' v H', Le c c' → RH T c' st H' → Rp T c' u v → D.rt v H'
  | .brk env st => ∀ c' σ' H', Le c c' → RH T c' st H' → RE T P c' env σ' → D.bk σ' H'
  | .cont env st => ∀ c' σ' H', Le c c' → RH T c' st H' → RE T P c' env σ' → D.ct σ' H'
  | .exc x env st => ∀ c' cls d σ' H', Le c c' → RH T c' st H' → RE T P c' env σ' → RX T c' x cls d → Wx cls d σ' H'
  | .bad => False
def tsOf (T : Tb) (P : Pin) (Wx : WX) (m : MS) : TS := fun D σ H => ∃ c env st, RH T c st H ∧ RE T P c env σ ∧ ResS T P Wx c (m env st) D
def PSm (X : Cx) (T : Tb) (P : Pin) (Wx : WX) (s : Stmt) (m : MS) : Prop := PS X s (tsOf T P Wx m)
def PSsm (X : Cx) (T : Tb) (P : Pin) (Wx : WX) (s : List Stmt) (m : MS) : Prop := PSs X s (tsOf T P Wx m)

def SO.bind (r : SO) (k : MS) : SO := match r with
  | .next env st => k env st
  | .ret u st => .ret u st
  | .brk env st => .brk env st
  | .cont env st => .cont env st
  | .exc x env st => .exc x env st
  | .bad => .bad
def Out.st {α : Type} (r : Out α) (env : Env) (k : α → Sto → SO) : SO := match r with
  | .ok a st => k a st
  | .exc x st => .exc x env st
  | .bad => .bad

section
variable {T : Tb} {P : Pin} {Wx : WX} {c c' : Cn} {r : SO} {D D' : Ends} {σ : L2.St} {H : Hp}
theorem ResS.later (l : Le c c') (h : ResS T P Wx c r D) : ResS T P Wx c' r D := by
  cases r with
  | next env st => exact fun c2 σ' H' a b d => h c2 σ' H' (l.trans a) b d
  | ret u st => exact fun c2 σ' H' a b d => h c2 σ' H' (l.trans a) b d
  | brk env st => exact fun c2 σ' H' a b d => h c2 σ' H' (l.trans a) b d
  | cont env st => exact fun c2 σ' H' a b d => h c2 σ' H' (l.trans a) b d
  | exc x env st => exact fun c2 cls d σ' H' a b e f => h c2 cls d σ' H' (l.trans a) b e f
  | bad => exact h
theorem ResS.mono (h : ResS T P Wx c r D) (n : ∀ σ H, D.nx σ H → D'.nx σ H) (rt : ∀ v H, D.rt v H → D'.rt v H) (b : ∀ σ H, D.bk σ H → D'.bk σ H) (ct : ∀ σ H, D.ct σ H → D'.ct σ H) : ResS T P Wx c r D' := by
  cases r with
  | next env st => exact fun c2 σ' H' a e d => n _ _ (h c2 σ' H' a e d)
  | ret u st => exact fun c2 σ' H' a e d => rt _ _ (h c2 σ' H' a e d)
  | brk env st => exact fun c2 σ' H' a e d => b _ _ (h c2 σ' H' a e d)
  | cont env st => exact fun c2 σ' H' a e d => ct _ _ (h c2 σ' H' a e d)
  | exc x env st => exact h
  | bad => exact h
theorem ts_bind {α β : Type} {R : Cn → α → β → Prop} {m : MG α} {k : α → Sto → SO} {env : Env} {st : Sto} (hH : RH T c st H) (hE : RE T P c env σ) (hR : ResS T P Wx c ((m env st).st env k) D) :
    tgOf T P Wx R m σ H fun x H1 => ∃ u c1 st1, Le c c1 ∧ RH T c1 st1 H1 ∧ RE T P c1 env σ ∧ R c1 u x ∧ ResS T P Wx c1 (k u st1) D := by
  refine ⟨c, env, st, hH, hE, ?_⟩
  cases e : m env st with
  | ok u st1 =>
    rw [e] at hR
    exact fun c1 v H1 l h r => ⟨u, c1, st1, l, h, hE.mono l, r, ResS.later l hR⟩
  | exc x st1 =>
    rw [e] at hR
    exact fun c1 cls d H1 l h r => hR c1 cls d σ H1 l h (hE.mono l) r
  | bad =>
    rw [e] at hR
    exact hR
theorem ResS.go {env : Env} {st : Sto} (h : ResS T P Wx c (.next env st) D) (hH : RH T c st H) (hE : RE T P c env σ) : D.nx σ H := h c σ H (Le.refl c) hH hE
end

def sNext : MS := fun env st => .next env st
def sSeq (a b : MS) : MS := fun env st => (a env st).bind b
def sDrop (m : ME) : MS := fun env st => (m env st).st env fun _ st1 => .next env st1
def sRet (m : ME) : MS := fun env st => (m env st).st env fun u st1 => .ret u st1
def sRetN : MS := fun env st => .ret .non st
def sBrk : MS := fun env st => .brk env st
def sCont : MS := fun env st => .cont env st
def sAsg (m : ME) (g : MGt) : MS := fun env st => (m env st).st env fun u st1 => match g u env st1 with
  | some env' => .next env' st1
  | none => .bad
def sIf (mt : MT) (a b : MS) : MS := fun env st => (mt env st).st env fun k st1 => if k = true then a env st1 else b env st1
noncomputable def forM (g : Sto → Prop) (gt : MGt) (b : MS) : List U → MS
  | [], env, st => open Classical in if g st then .next env st else .bad
  | u :: us, env, st => open Classical in if g st then (match gt u env st with
    | none => .bad
    | some env1 => match b env1 st with
      | .next env2 st2 => forM g gt b us env2 st2
      | .cont env2 st2 => forM g gt b us env2 st2
      | .brk env2 st2 => .next env2 st2
      | .ret u st2 => .ret u st2
      | .exc x env2 st2 => .exc x env2 st2
      | .bad => .bad) else .bad
noncomputable def sFor (mi : MI) (gt : MGt) (b : MS) : MS := fun env st => (mi env st).st env fun p st1 => forM p.g gt b p.us env st1

section
variable {X : Cx} {T : Tb} {P : Pin} {Wx : WX} {s : Stmt} {rest : List Stmt} {e : Expr} {ma mb : MS} {m : ME} {pos : Pos}
theorem pssm_nil : PSsm X T P Wx [] sNext := PSs.imp pss_nil fun D σ H ⟨c, env, st, hH, hE, hR⟩ => ResS.go (D := D) hR hH hE
theorem seq_run {t u : TS} (h1 : ∀ D σ H, tsOf T P Wx ma D σ H → t D σ H) (h2 : ∀ D σ H, tsOf T P Wx mb D σ H → u D σ H) (D : Ends) (σ : L2.St) (H : Hp) (h : tsOf T P Wx (sSeq ma mb) D σ H) : tSeq t u D σ H := by
  obtain ⟨c, env, st, hH, hE, hR⟩ := h
  refine h1 _ _ _ ⟨c, env, st, hH, hE, ?_⟩
  unfold sSeq at hR
  cases q : ma env st with
  | next env1 st1 =>
    rw [q] at hR
    exact fun c1 σ1 H1 l1 hH1 hE1 => h2 _ _ _ ⟨c1, env1, st1, hH1, hE1, ResS.later l1 hR⟩
  | ret u st1 => rw [q] at hR; exact hR
  | brk env1 st1 => rw [q] at hR; exact hR
  | cont env1 st1 => rw [q] at hR; exact hR
  | exc x env1 st1 => rw [q] at hR; exact hR
  | bad => rw [q] at hR; exact hR
theorem pssm_cons (h1 : PSm X T P Wx s ma) (h2 : PSsm X T P Wx rest mb) : PSsm X T P Wx (s :: rest) (sSeq ma mb) := PSs.imp (pss_cons h1 h2) (seq_run (fun _ _ _ h => h) fun _ _ _ h => h)
theorem pssm_one (h1 : PSm X T P Wx s ma) : PSsm X T P Wx [s] ma := pss_one h1
theorem psm_cont : PSm X T P Wx (.Continue pos) sCont := PS.imp ps_continue fun D σ H ⟨c, env, st, hH, hE, hR⟩ => hR c σ H (Le.refl c) hH hE
theorem psm_expr (h : PEm X T P Wx e m) (hs : swapsWith e none pos.line X.env = pure false := by rfl) : PSm X T P Wx (.Expr e pos) (sDrop m) := PS.imp (ps_expr h hs) fun D σ H ⟨c, env, st, hH, hE, hR⟩ =>
  (ts_bind hH hE hR).mono fun x H1 ⟨u, c1, st1, l1, hH1, hE1, r1, hR1⟩ => ResS.go (D := D) hR1 hH1 hE1
theorem psm_ret (h : PEm X T P Wx e m) : PSm X T P Wx (.Return (some e) pos) (sRet m) := PS.imp (ps_ret h) fun D σ H ⟨c, env, st, hH, hE, hR⟩ =>
  (ts_bind hH hE hR).mono fun x H1 ⟨u, c1, st1, l1, hH1, hE1, r1, hR1⟩ => hR1 c1 x H1 (Le.refl c1) hH1 r1
theorem asg_run {tg : TG} {g : MGt} (hg : ∀ v σ H Q, tgtOf T P g v σ H Q → tg v σ H Q) (D : Ends) (σ : L2.St) (H : Hp) (h : tsOf T P Wx (sAsg m g) D σ H) : tAsg (teOf T P Wx m) tg D σ H := by
  obtain ⟨c, env, st, hH, hE, hR⟩ := h
  refine (ts_bind hH hE hR).mono fun x H1 ⟨u, c1, st1, l1, hH1, hE1, r1, hR1⟩ => ?_
  split at hR1
  · rename_i env' q
    exact hg _ _ _ _ ⟨c1, env, st1, u, env', hH1, hE1, r1, q, fun σ' hE' => ResS.go (D := D) hR1 hH1 hE'⟩
  · exact hR1.elim
theorem psm_asg {tg : Expr} {g : MGt} (h : PEm X T P Wx e m) (hg : PGm X T P tg g) (hs : swapsWithSole [tg] e pos.line X.env = pure false := by rfl) (hw : swappedStores [tg] e X.env = pure none := by rfl)
    (h1 : (assignEach [tg] X.env).map (·.2) = [assign tg X.env] := by rfl) : PSm X T P Wx (.Assign [tg] e pos) (sAsg m g) := PS.imp (ps_asg h hg hs hw h1) (asg_run fun _ _ _ _ h => h)
theorem psm_set {i : Nat} {x : Str} {pos' : Pos} (hN : X.N.Nodup) (hi : X.N[i]? = some x) (hx : Loc X.env.scope x) (h : PEm X T P Wx e m) (hs : swapsWith e (some (.Name x pos')) pos.line X.env = pure false := by rfl) (hp : pinned P i = false := by rfl)
    (hf : X.fn x = true ∨ X.env.scope.names.lookup x = some .local := by first | exact .inl rfl | exact .inr rfl | assumption) : PSm X T P Wx (.Assign [.Name x pos'] e pos) (sAsg m (gN i)) :=
  PS.imp (ps_set hN hi hx h hs hf) (asg_run fun v σ H Q ⟨c, env, st, u, env', hH, hE, r, q, k⟩ => by
    cases q
    exact k _ (hE.set r i hp))
theorem psm_if {c : Expr} {a b : List Stmt} {mt : MT} (hc : PTm X T P Wx c mt) (ha : PSsm X T P Wx a ma) (hb : PSsm X T P Wx b mb) : PSm X T P Wx (.If c a b pos) (sIf mt ma mb) :=
  PS.imp (ps_if hc ha hb) fun D σ H ⟨c, env, st, hH, hE, hR⟩ => (ts_bind hH hE hR).mono fun k H1 ⟨u, c1, st1, l1, hH1, hE1, r1, hR1⟩ => by
    cases (show u = k from r1)
    cases k with
    | true => exact ⟨c1, env, st1, hH1, hE1, hR1⟩
    | false => exact ⟨c1, env, st1, hH1, hE1, hR1⟩
theorem for_run {J : It} {us : List U} {g : Sto → Prop} {gt : MGt} {tg : TG} {tb : TS} {c0 : Cn} {D : Ends} (hw : WalkM T c0 J us g) (hg : ∀ v σ H Q, tgtOf T P gt v σ H Q → tg v σ H Q) (hb : ∀ D σ H, tsOf T P Wx ma D σ H → tb D σ H)
    {c : Cn} {env : Env} {st : Sto} {σ : L2.St} {H : Hp} (l : Le c0 c) (hH : RH T c st H) (hE : RE T P c env σ) (hR : ResS T P Wx c (forM g gt ma us env st) D) :
    ∃ W : Nat → Nat → L2.St → Hp → Prop, (∃ m, W 0 m σ H) ∧ ∀ i m σ H, W i m σ H →
      (J.stop i H ∧ D.nx σ H) ∨ (J.go i H ∧ ∃ N : L2.St → Hp → Prop, (∀ σ' H', N σ' H' → ∃ m', m' < m ∧ W (i + 1) m' σ' H') ∧ ∀ x H', J.yld i H x H' → tg x σ H' fun σ2 H2 => tb { D with nx := N, ct := N, bk := D.nx } σ2 H2) := by
  obtain ⟨G, Y, w, k⟩ := hw
  refine for_it w (fun i σ H => i ≤ us.length ∧ ∃ c env st, Le c0 c ∧ RH T c st H ∧ RE T P c env σ ∧ ResS T P Wx c (forM g gt ma (us.drop i) env st) D) ⟨Nat.zero_le _, c, env, st, l, hH, hE, hR⟩ ?_ ?_ ?_
  · rintro i σ H hi ⟨_, c, env, st, l, hH, hE, hR⟩
    have hg' : g st := by
      cases q : us.drop i with
      | nil =>
        rw [q] at hR
        unfold forM at hR
        split at hR
        · assumption
        · exact hR.elim
      | cons u r =>
        rw [q] at hR
        unfold forM at hR
        split at hR
        · assumption
        · exact hR.elim
    exact (k c st H l hH hg').1
  · rintro i x σ H H' hi ⟨_, c, env, st, l, hH, hE, hR⟩ y
    have hd : us.drop i = us[i] :: us.drop (i + 1) := List.drop_eq_getElem_cons hi
    rw [hd] at hR
    unfold forM at hR
    split at hR
    · rename_i hg'
      obtain ⟨c1, u, hu, l1, hH1, r1⟩ := (k c st H l hH hg').2 i x H' hi y
      have eu : us[i] = u := by
        rw [List.getElem?_eq_getElem hi] at hu
        exact Option.some.inj hu
      rw [eu] at hR
      split at hR
      · exact hR.elim
      · rename_i env1 q
        refine hg _ _ _ _ ⟨c1, env, st, u, env1, hH1, hE.mono l1, r1, q, fun σ1 hE1 => hb _ _ _ ⟨c1, env1, st, hH1, hE1, ?_⟩⟩
        have l2 := l.trans l1
        cases qb : ma env1 st with
        | next env2 st2 =>
          rw [qb] at hR
          exact fun c2 σ2 H2 l3 hH2 hE2 => ⟨hi, c2, env2, st2, l2.trans l3, hH2, hE2, ResS.later (l1.trans l3) hR⟩
        | cont env2 st2 =>
          rw [qb] at hR
          exact fun c2 σ2 H2 l3 hH2 hE2 => ⟨hi, c2, env2, st2, l2.trans l3, hH2, hE2, ResS.later (l1.trans l3) hR⟩
        | brk env2 st2 =>
          rw [qb] at hR
          exact fun c2 σ2 H2 l3 hH2 hE2 => hR c2 σ2 H2 (l1.trans l3) hH2 hE2
        | ret u2 st2 =>
          rw [qb] at hR
          exact fun c2 v H2 l3 hH2 r2 => hR c2 v H2 (l1.trans l3) hH2 r2
        | exc x2 env2 st2 =>
          rw [qb] at hR
          exact fun c2 cls d σ2 H2 l3 hH2 hE2 r2 => hR c2 cls d σ2 H2 (l1.trans l3) hH2 hE2 r2
        | bad =>
          rw [qb] at hR
          exact hR.elim
    · exact hR.elim
  · rintro σ H ⟨_, c, env, st, l, hH, hE, hR⟩
    rw [List.drop_length] at hR
    unfold forM at hR
    split at hR
    · exact ResS.go (D := D) hR hH hE
    · exact hR.elim
theorem psm_for {tg iter : Expr} {body : List Stmt} {mi : MI} {gt : MGt} (hp : PassesOwn (model X.prog X.w) X.A X.env X.xe) (hc : X.calm = true) (hi : PIm X T P Wx tg iter mi) (hg : PGm X T P tg gt) (hb : PSsm X T P Wx body ma)
    (hs : ∀ x, foldedSetIterable iter X.env x = pure x := by intro _; rfl) : PSm X T P Wx (.For tg iter body [] pos) (sFor mi gt ma) :=
  PS.imp (ps_for hp hc hi hg hb hs) fun D σ H ⟨c, env, st, hH, hE, hR⟩ => (ts_bind hH hE hR).mono fun J H1 ⟨p, c1, st1, l1, hH1, hE1, r1, hR1⟩ =>
    for_run r1 (fun _ _ _ _ h => h) (fun _ _ _ h => h) (Le.refl c1) hH1 hE1 hR1
end
end NK

namespace NK
open PySem L2

mutual
def U.under (n : Nat) : U → Bool
  | .loc i => decide (i < n)
  | .tup us => U.underL n us
  | .lst us => U.underL n us
  | .scr us => U.underL n us
  | .ins _ us => U.underL n us
  | _ => true
def U.underL (n : Nat) : List U → Bool
  | [] => true
  | u :: us => U.under n u && U.underL n us
end
def Ob.under (n : Nat) : Ob → Bool
  | .lst us => U.underL n us
  | .tp us => U.underL n us
  | .dK kvs => U.underL n (kvs.map (·.2))
  | .dT kvs => U.underL n (kvs.map (·.2))
  | .ins _ us => U.underL n us
  | .iset _ => true
  | .dead => true
  | .lk o => o.under n
section
variable {T : Tb} {c c2 : Cn}
mutual
theorem Rp.under : ∀ {u : U} {v : V}, Rp T c u v → u.under c.n = true
  | _, _, .non => rfl
  | _, _, .bl _ => rfl
  | _, _, .int _ => rfl
  | _, _, .str _ => rfl
  | _, _, .ty _ => rfl
  | _, _, .cls _ => rfl
  | _, _, .tup _ r => RpL.under r
  | _, _, .lst _ r => RpL.under r
  | _, _, .scr _ r => RpL.under r
  | _, _, .ins _ _ r => RpL.under r
  | _, _, .loc h => by
    unfold U.under
    exact decide_eq_true h
theorem RpL.under : ∀ {us : List U} {vs : List V}, RpL T c us vs → U.underL c.n us = true
  | _, _, .nil => rfl
  | _, _, .cons r t => by
    unfold U.underL
    rw [Rp.under r, RpL.under t]
    rfl
end
theorem RpK.under {κ : Type} : ∀ {us : List (κ × U)} {vs : List (κ × V)}, RpK T c us vs → U.underL c.n (us.map (·.2)) = true
  | _, _, .nil => rfl
  | _, _, .cons r t => by
    show U.underL c.n (_ :: _) = true
    unfold U.underL
    rw [Rp.under r, RpK.under t]
    rfl
theorem RO.under {o : Ob} {a : Addr} {h : HO} (r : RO T c o a h) : o.under c.n = true := by
  induction o generalizing h with
  | lk o ih => obtain ⟨od, x, _, _, r⟩ := r; exact ih r
  | lst us => obtain ⟨vs, _, r⟩ := r; exact r.under
  | tp us => obtain ⟨vs, _, r⟩ := r; exact r.under
  | dK us => obtain ⟨vs, _, r⟩ := r; exact r.under
  | dT us => obtain ⟨vs, _, r⟩ := r; exact r.under
  | ins k us => obtain ⟨dx, vs, _, _, r⟩ := r; exact r.under
  | iset ks => rfl
  | dead => rfl
def Cn.cut (c : Cn) (n : Nat) : Cn := { c with n := n }
mutual
theorem Rp.cut {n : Nat} : ∀ {u : U} {v : V}, Rp T c u v → u.under n = true → Rp T (c.cut n) u v
  | _, _, .non, _ => .non
  | _, _, .bl b, _ => .bl b
  | _, _, .int i, _ => .int i
  | _, _, .str x, _ => .str x
  | _, _, .ty n, _ => .ty n
  | _, _, .cls k, _ => .cls k
  | _, _, .tup e r, h => .tup e (RpL.cut r h)
  | _, _, .lst e r, h => .lst e (RpL.cut r h)
  | _, _, .scr e r, h => .scr e (RpL.cut r h)
  | _, _, .ins e l r, h => .ins e l (RpL.cut r h)
  | _, _, .loc (i := i) hi, h => by
    unfold U.under at h
    exact .loc (c := c.cut n) (of_decide_eq_true h)
theorem RpL.cut {n : Nat} : ∀ {us : List U} {vs : List V}, RpL T c us vs → U.underL n us = true → RpL T (c.cut n) us vs
  | _, _, .nil, _ => .nil
  | _, _, .cons r t, h => by
    unfold U.underL at h
    rw [Bool.and_eq_true] at h
    exact .cons (Rp.cut r h.1) (RpL.cut t h.2)
end
theorem RpK.cut {κ : Type} {n : Nat} : ∀ {us : List (κ × U)} {vs : List (κ × V)}, RpK T c us vs → U.underL n (us.map (·.2)) = true → RpK T (c.cut n) us vs
  | _, _, .nil, _ => .nil
  | _, _, .cons r t, h => by
    have h' : (U.under n _ && U.underL n _) = true := h
    rw [Bool.and_eq_true] at h'
    exact .cons (Rp.cut r h'.1) (RpK.cut t h'.2)
theorem RO.cut {n : Nat} {o : Ob} {a : Addr} {h : HO} (r : RO T c o a h) (b : o.under n = true) : RO T (c.cut n) o a h := by
  induction o generalizing h with
  | lk o ih => obtain ⟨od, x, e, k, r⟩ := r; exact ⟨od, x, e, k, ih r b⟩
  | lst us => obtain ⟨vs, e, r⟩ := r; exact ⟨vs, e, r.cut b⟩
  | tp us => obtain ⟨vs, e, r⟩ := r; exact ⟨vs, e, r.cut b⟩
  | dK us => obtain ⟨vs, e, r⟩ := r; exact ⟨vs, e, r.cut b⟩
  | dT us => obtain ⟨vs, e, r⟩ := r; exact ⟨vs, e, r.cut b⟩
  | ins k us => obtain ⟨dx, vs, e, z, r⟩ := r; exact ⟨dx, vs, e, z, r.cut b⟩
  | iset ks => exact r
  | dead => exact r.elim
def oldOk (st st' : Sto) : Prop := st.length ≤ st'.length ∧ ∀ i, i < st.length → st'[i]? = st[i]? ∨ ∃ o, st'[i]? = some o ∧ o.under 0 = true
mutual
theorem U.under_mono {n m : Nat} (h : n ≤ m) : ∀ {u : U}, u.under n = true → u.under m = true
  | .loc i, e => by unfold U.under at e ⊢; exact decide_eq_true (Nat.lt_of_lt_of_le (of_decide_eq_true e) h)
  | .tup us, e => U.underL_mono h (us := us) e
  | .lst us, e => U.underL_mono h (us := us) e
  | .scr us, e => U.underL_mono h (us := us) e
  | .ins _ us, e => U.underL_mono h (us := us) e
  | .non, _ => rfl
  | .bl _, _ => rfl
  | .int _, _ => rfl
  | .str _, _ => rfl
  | .ty _, _ => rfl
  | .cls _, _ => rfl
theorem U.underL_mono {n m : Nat} (h : n ≤ m) : ∀ {us : List U}, U.underL n us = true → U.underL m us = true
  | [], _ => rfl
  | u :: us, e => by
    unfold U.underL at e ⊢
    rw [Bool.and_eq_true] at e ⊢
    exact ⟨U.under_mono h e.1, U.underL_mono h e.2⟩
end
theorem Ob.under_mono {n m : Nat} (h : n ≤ m) {o : Ob} (e : o.under n = true) : o.under m = true := by
  induction o with
  | lk o ih => exact ih e
  | lst us => exact U.underL_mono h (us := us) e
  | tp us => exact U.underL_mono h (us := us) e
  | dK us =>
    have e' : U.underL n (us.map fun p => p.2) = true := e
    exact U.underL_mono h e'
  | dT us =>
    have e' : U.underL n (us.map fun p => p.2) = true := e
    exact U.underL_mono h e'
  | ins k us => exact U.underL_mono h (us := us) e
  | iset ks => rfl
  | dead => rfl
theorem scope_cut {st st2 : Sto} {H H2 : Hp} (hH : RH T c st H) (l : Le c c2) (hH2 : RH T c2 st2 H2) (old : oldOk st st2) : Le c (c2.cut c.n) ∧ RH T (c2.cut c.n) (st2.take st.length) H2 := by
  refine ⟨⟨Nat.le_refl _, fun i hi => l.ρ i hi, l.F, l.L⟩, ?_, hH2.sub, fun i o e d => ?_, fun i j a b ea da eb db q => ?_, hH2.lkd, hH2.tab, hH2.ntb⟩
  · show c.n = _
    rw [hH.n, List.length_take]
    have := old.1
    omega
  · have hi : i < st.length := by
      have := (List.getElem?_eq_some_iff.mp e).1
      rw [List.length_take] at this
      omega
    rw [List.getElem?_take_of_lt hi] at e
    obtain ⟨h, h1, h2, h3⟩ := hH2.act i o e d
    refine ⟨h, h1, h2.cut ?_, h3⟩
    rcases old.2 i hi with q | ⟨o', q, b⟩
    · rw [e] at q
      obtain ⟨h', _, h2', _⟩ := hH.act i o q.symm d
      exact h2'.under
    · rw [e] at q
      cases q
      exact Ob.under_mono (Nat.zero_le _) b
  · have hi : i < st.length := by
      have := (List.getElem?_eq_some_iff.mp ea).1
      rw [List.length_take] at this
      omega
    have hj : j < st.length := by
      have := (List.getElem?_eq_some_iff.mp eb).1
      rw [List.length_take] at this
      omega
    rw [List.getElem?_take_of_lt hi] at ea
    rw [List.getElem?_take_of_lt hj] at eb
    exact hH2.inj i j a b ea da eb db q
end

noncomputable def scopeOut (st : Sto) (r : Out U) : Out U := (r.bind frz).bind fun u st2 => open Classical in if u.under st.length = true ∧ oldOk st st2 then .ok u (st2.take st.length) else .bad
noncomputable def eScope (m : ME) : ME := fun env st => scopeOut st (m env st)
section
variable {X : Cx} {T : Tb} {P : Pin} {Wx : WX} {e : Expr} {m : ME} {pos : Pos}
theorem frz_at {c : Cn} {st : Sto} {H : Hp} {u u2 : U} {v : V} {st2 : Sto} (hH : RH T c st H) (r : Rp T c u v) (e : frz u st = .ok u2 st2) : ∃ c2, Le c c2 ∧ RH T c2 st2 H ∧ Rp T c2 u2 v := by
  cases u with
  | loc i =>
    obtain ⟨hi, rfl⟩ := r.inv_loc
    dsimp only [frz] at e
    split at e
    · rename_i us q
      cases e
      obtain ⟨vs, h1, h2⟩ := hH.at_lst q
      have l := le_freeze (x := .lst vs) hH q (fun z => nomatch z)
      exact ⟨_, l, hH.freeze q (fun z => nomatch z) h1, .lst upd_same (h2.mono l)⟩
    · rename_i k us q
      cases e
      obtain ⟨dx, vs, h1, hz, h2⟩ := hH.at_ins q
      have l := le_freeze (x := .ins (T.cls k) dx ((T.fld k).zip vs)) hH q (fun z => nomatch z)
      exact ⟨_, l, hH.freeze q (fun z => nomatch z) h1, .ins upd_same hz (h2.mono l)⟩
    · cases e
  | _ => cases e; exact ⟨c, Le.refl c, hH, r⟩
theorem frz_noexc {u : U} {st : Sto} {x : Ex} {st2 : Sto} : frz u st ≠ .exc x st2 := by
  intro h
  cases u with
  | loc i =>
    dsimp only [frz] at h
    split at h <;> cases h
  | _ => cases h
theorem scope_res {c : Cn} {σ : L2.St} {st : Sto} {H : Hp} {r : Out U} {Q : VK} (hH : RH T c st H) (h : ResG T Wx c σ (Rp T) (scopeOut st r) Q) : ResG T Wx c σ (Rp T) r Q := by
  cases r with
  | ok u st1 =>
    intro c1 v H1 l1 hH1 r1
    unfold scopeOut at h
    cases q : frz u st1 with
    | ok u2 st2 =>
      obtain ⟨c2, l2, hH2, r2⟩ := frz_at hH1 r1 q
      change ResG T Wx c σ (Rp T) ((frz u st1).bind _) Q at h
      rw [q] at h
      change ResG T Wx c σ (Rp T) (open Classical in if u2.under st.length = true ∧ oldOk st st2 then .ok u2 (st2.take st.length) else .bad) Q at h
      split at h
      · rename_i hs
        obtain ⟨l3, hH3⟩ := scope_cut hH (l1.trans l2) hH2 hs.2
        rw [← hH.n] at hs
        exact h _ _ _ l3 hH3 (r2.cut hs.1)
      · exact h.elim
    | exc x st2 => exact absurd q frz_noexc
    | bad =>
      change ResG T Wx c σ (Rp T) ((frz u st1).bind _) Q at h
      rw [q] at h
      exact h.elim
  | exc x st1 => exact h
  | bad => exact h
theorem pem_scope (h : PEm X T P Wx e m) : PEm X T P Wx e (eScope m) := PE.imp h fun σ H Q ⟨c, env, st, hH, hE, hR⟩ => ⟨c, env, st, hH, hE, scope_res hH hR⟩

def wipeE (env : Env) : List Nat → Env
  | [] => env
  | v :: vs => (wipeE env vs).set v none
theorem RE.wipe {c : Cn} {env : Env} {σ : L2.St} (r : RE T P c env σ) : ∀ vs : List Nat, (∀ i ∈ vs, pinned P i = false) → RE T P c (wipeE env vs) (L2.wipe σ vs)
  | [], _ => r
  | v :: vs, h => by
    show RE T P c ((wipeE env vs).set v none) ((L2.wipe σ vs).set v none)
    exact (RE.wipe r vs fun i hi => h i (List.mem_cons_of_mem _ hi)).unset v (h v (List.mem_cons_self ..))
noncomputable def compM (g : Sto → Prop) (gt : MGt) (mt : MT) (me : ME) (D : Nat) (env : Env) : List U → Sto → Out U
  | [], st => open Classical in if g st then .ok (.loc D) st else .bad
  | u :: us, st => open Classical in if g st then (match gt u env st with
    | none => .bad
    | some env1 => match mt env1 st with
      | .ok true st1 => (match me env1 st1 with
        | .ok w st2 => match st2[D]? with
          | some (.lst acc) => if acc.length < 16777216 then compM g gt mt me D env us (st2.set D (.lst (acc ++ [w]))) else .bad
          | _ => .bad
        | _ => .bad)
      | .ok false st1 => compM g gt mt me D env us st1
      | _ => .bad) else .bad
def tYes : MT := fun _ st => .ok true st
noncomputable def eComp (mi : MI) (gt : MGt) (mt : MT) (me : ME) (vs : List Nat) : ME := fun env st => (mi env st).bind fun p st1 => compM p.g gt mt me st1.length (wipeE env vs) p.us (st1 ++ [.lst []])
def Wx0 : WX := fun _ _ _ _ => False
def GW (tg : TG) (vs : List Nat) : Prop := ∀ (v : V) (σ : L2.St) (H : Hp) (Q : L2.St → Hp → Prop), (tg v (L2.wipe σ vs) H fun σ3 H3 => L2.wipe σ3 vs = L2.wipe σ vs → Q σ3 H3) → tg v (L2.wipe σ vs) H fun σ3 H3 => L2.wipe σ3 vs = L2.wipe σ vs ∧ Q σ3 H3
theorem comp_run {J : It} {us : List U} {g : Sto → Prop} {gt : MGt} {tg : TG} {mt : MT} {me : ME} {tt : TT} {te : TE} {vs : List Nat} {c0 : Cn} {Q : VK} {σ : L2.St} (hw : WalkM T c0 J us g)
    (hg : ∀ v σ H Q, tgtOf T P gt v σ H Q → tg v σ H Q) (ht : ∀ σ H Q, ttOf T P Wx0 mt σ H Q → tt σ H Q) (he : ∀ σ H Q, teOf T P Wx0 me σ H Q → te σ H Q)
    (hp : ∀ i ∈ vs, pinned P i = false) (hgw : GW tg vs)
    {c : Cn} {env : Env} {st : Sto} {H : Hp} (l : Le c0 c) (hH : RH T c st H) (hE : RE T P c env σ) {D : Addr} (hD : H D = none) (hR : ResG T Wx c σ (Rp T) (compM g gt mt me st.length (wipeE env vs) us (st ++ [.lst []])) Q) :
    ∃ W : Nat → Nat → Hp → Prop, (∃ m, W 0 m (upd H D (.lst []))) ∧ ∀ i m H, W i m H →
      (J.stop i H ∧ Q (.ref D) H) ∨ (J.go i H ∧ ∃ Nx : Hp → Prop, (∀ H', Nx H' → ∃ m', m' < m ∧ W (i + 1) m' H') ∧ ∀ x H', J.yld i H x H' → tg x (L2.wipe σ vs) H' fun σ2 H2 => L2.wipe σ2 vs = L2.wipe σ vs ∧ tt σ2 H2 fun b H3 =>
        if b = true then te σ2 H3 fun y H4 => ∃ acc, H4 D = some (.lst acc) ∧ acc.length < sizeLine ∧ Nx (upd H4 D (.lst (acc ++ [y]))) else Nx H3) := by
  obtain ⟨G, Y, w, k⟩ := hw
  have start := hH.new hD (o := .lst []) (x := .lst []) ⟨[], rfl, .nil⟩
  have hpos : (c.new D).ρ st.length = D := by rw [← hH.n, new_self]
  have hlt : st.length < (c.new D).n := by show _ < c.n + 1; rw [hH.n]; exact Nat.lt_succ_self _
  have lD := le_new c D
  have hE0 : RE T P c (wipeE env vs) (L2.wipe σ vs) := hE.wipe vs hp
  generalize hn : st.length = n at hR hpos hlt
  refine lc_it w (fun i H => i ≤ us.length ∧ ∃ c1 st1, Le (c.new D) c1 ∧ RH T c1 st1 H ∧ ResG T Wx c σ (Rp T) (compM g gt mt me n (wipeE env vs) (us.drop i) st1) Q) ⟨Nat.zero_le _, _, _, Le.refl _, start, hR⟩ ?_ ?_ ?_
  · rintro i H hi ⟨_, c1, st1, l1, hH1, hR1⟩
    have hg' : g st1 := by
      cases q : us.drop i with
      | nil =>
        rw [q] at hR1
        unfold compM at hR1
        split at hR1
        · assumption
        · exact hR1.elim
      | cons u r =>
        rw [q] at hR1
        unfold compM at hR1
        split at hR1
        · assumption
        · exact hR1.elim
    exact (k c1 st1 H ((l.trans lD).trans l1) hH1 hg').1
  · rintro i x H H' hi ⟨_, c1, st1, l1, hH1, hR1⟩ y
    have hd : us.drop i = us[i] :: us.drop (i + 1) := List.drop_eq_getElem_cons hi
    rw [hd] at hR1
    unfold compM at hR1
    split at hR1
    · rename_i hg'
      obtain ⟨c2, u, hu, l2, hH2, r2⟩ := (k c1 st1 H ((l.trans lD).trans l1) hH1 hg').2 i x H' hi y
      have eu : us[i] = u := by
        rw [List.getElem?_eq_getElem hi] at hu
        exact Option.some.inj hu
      rw [eu] at hR1
      have hE2 : RE T P c2 (wipeE env vs) (L2.wipe σ vs) := hE0.mono ((lD.trans l1).trans l2)
      split at hR1
      · exact hR1.elim
      · rename_i env1 q
        refine hgw x σ _ _ (hg _ _ _ _ ⟨c2, wipeE env vs, st1, u, env1, hH2, hE2, r2, q, fun σ1 hE1 _ => ?_⟩)
        refine ht _ _ _ ⟨c2, env1, st1, hH2, hE1, ?_⟩
        split at hR1
        · rename_i st2 qt
          rw [qt]
          intro c3 b H3 l3 hH3 eb
          cases (show true = b from eb)
          rw [if_pos rfl]
          refine he _ _ _ ⟨c3, env1, st2, hH3, hE1.mono l3, ?_⟩
          split at hR1
          · rename_i w' st3 qe
            rw [qe]
            intro c4 z H4 l4 hH4 r4
            split at hR1
            · rename_i acc qa
              obtain ⟨vacc, h1, ra⟩ := hH4.at_lst qa
              have hl4 := ((l1.trans l2).trans l3).trans l4
              have e4 : c4.ρ n = D := (hl4.ρ n hlt).trans hpos
              rw [e4] at h1
              split at hR1
              · rename_i hz
                refine ⟨vacc, h1, by rw [szl, ← ra.length]; exact hz, hi, c4, _, hl4, ?_, hR1⟩
                have := hH4.set qa (fun z => nomatch z) (o' := .lst (acc ++ [w'])) (x := .lst (vacc ++ [z])) ⟨_, rfl, ra.append (.one r4)⟩
                rw [e4] at this
                exact this
              · exact hR1.elim
            · exact hR1.elim
          · exact hR1.elim
        · rename_i st2 qt
          rw [qt]
          intro c3 b H3 l3 hH3 eb
          cases (show false = b from eb)
          rw [if_neg Bool.false_ne_true]
          exact ⟨hi, c3, st2, (l1.trans l2).trans l3, hH3, hR1⟩
        · exact hR1.elim
    · exact hR1.elim
  · rintro H ⟨_, c1, st1, l1, hH1, hR1⟩
    rw [List.drop_length] at hR1
    unfold compM at hR1
    split at hR1
    · have e : V.ref D = V.ref (c1.ρ n) := by rw [l1.ρ n hlt, hpos]
      rw [e]
      exact hR1 c1 _ H (lD.trans l1) hH1 (.loc (Nat.lt_of_lt_of_le hlt l1.n))
    · exact hR1.elim
theorem wipe_get : ∀ (ws : List Nat) (ρ : L2.St) (j : Nat), (L2.wipe ρ ws)[j]? = if j ∈ ws then (ρ[j]?).map fun _ => none else ρ[j]? := by
  intro ws
  induction ws with
  | nil => intro ρ j; simp [L2.wipe]
  | cons w ws ih =>
    intro ρ j
    show ((L2.wipe ρ ws).set w none)[j]? = _
    by_cases h : w = j
    · subst h
      rw [List.getElem?_set]
      simp only [if_true, List.mem_cons, true_or, L2.wipe_length]
      by_cases hl : w < ρ.length
      · simp [hl]
      · simp [hl]
    · rw [List.getElem?_set_ne h, ih]
      have h' : ¬ j = w := fun z => h z.symm
      simp [h']
theorem wipe_set {σ : L2.St} {i : Nat} {x : Option V} {vs : List Nat} (hi : i ∈ vs) : L2.wipe (σ.set i x) vs = L2.wipe σ vs := by
  apply List.ext_getElem?
  intro j
  rw [wipe_get, wipe_get vs σ]
  by_cases hj : j ∈ vs
  · simp only [hj, if_true]
    by_cases h : i = j
    · subst h
      rw [List.getElem?_set]
      simp only [if_true]
      by_cases hl : i < σ.length
      · simp [hl]
      · simp [hl]
    · rw [List.getElem?_set_ne h]
  · have h : i ≠ j := fun z => hj (z ▸ hi)
    rw [if_neg hj, if_neg hj, List.getElem?_set_ne h]
theorem wipe_wipe {σ : L2.St} {vs : List Nat} : L2.wipe (L2.wipe σ vs) vs = L2.wipe σ vs := by
  apply List.ext_getElem?
  intro j
  rw [wipe_get, wipe_get]
  by_cases hj : j ∈ vs
  · simp only [hj, if_true]
    cases σ[j]? <;> rfl
  · rw [if_neg hj]
theorem gw_name {i : Nat} {vs : List Nat} (hi : i ∈ vs) : GW (gName i) vs := fun v σ H Q h =>
  have e : L2.wipe ((L2.wipe σ vs).set i (some v)) vs = L2.wipe σ vs := (wipe_set hi).trans wipe_wipe
  ⟨e, h e⟩
theorem lc_run {wi : TI} {tg : TG} {tt : TT} {te : TE} {mi : MI} {gt : MGt} {mt : MT} {me : ME} {vs : List Nat} (hi : ∀ σ H R, tiOf T P Wx mi σ H R → wi σ H R) (hg : ∀ v σ H Q, tgtOf T P gt v σ H Q → tg v σ H Q) (ht : ∀ σ H Q, ttOf T P Wx0 mt σ H Q → tt σ H Q) (he : ∀ σ H Q, teOf T P Wx0 me σ H Q → te σ H Q)
    (hgw : GW tg vs) (hp : ∀ i ∈ vs, pinned P i = false) (σ : L2.St) (H : Hp) (Q : VK) (h : teOf T P Wx (eComp mi gt mt me vs) σ H Q) : tLc wi tg tt te vs σ H Q := by
  obtain ⟨c, env, st, hH, hE, hR⟩ := h
  refine hi σ H _ ((tg_bind hH hE hR).mono fun J H1 ⟨p, c1, st1, l1, hH1, hE1, r1, hR1⟩ D hD => ?_)
  exact comp_run r1 hg ht he hp hgw (Le.refl c1) hH1 hE1 hD hR1
theorem pem_comp {elt tg iter : Expr} {ifs : List Expr} {scope : Scope} {own : List (Str × Nat)} {tgr : TG} {mi : MI} {gt : MGt} {mt : MT} {me : ME} (hc : X.calm = true) (hN : X.N.Nodup) (hi : PIm X T P Wx tg iter mi) (ok : BlkOk X.N X.env.scope scope own)
    (hg : ∀ (s : Shared) (H : Hp) (C : Addr) (cl : List (Str × Addr)) (fp : List Addr), PG (X.blk s H scope (compEnvC scope cl C X.env) fp) tg tgr) (hgr : ∀ v σ H Q, tgtOf T P gt v σ H Q → tgr v σ H Q) (hgw : GW tgr (own.map (·.2)))
    (ht : ∀ (s : Shared) (H : Hp) (C : Addr) (cl : List (Str × Addr)) (fp : List Addr), PTs (X.blk s H scope (compEnvC scope cl C X.env) fp) ifs (ttOf T P Wx0 mt))
    (he : ∀ (s : Shared) (H : Hp) (C : Addr) (cl : List (Str × Addr)) (fp : List Addr), PEm (X.blk s H scope (compEnvC scope cl C X.env) fp) T P Wx0 elt me) (hp : ∀ i ∈ own.map (·.2), pinned P i = false := by intro i _; rfl) (hs : ∀ x, foldedSetIterable iter X.env x = pure x := by intro _; rfl) :
    PEm X T P Wx (.ListComp elt [⟨tg, iter, ifs, 0⟩] scope pos) (eComp mi gt mt me (own.map (·.2))) :=
  PE.imp (pe_lc hc hN hi ok hg ht he hs) (lc_run (fun _ _ _ h => h) hgr (fun _ _ _ h => h) (fun _ _ _ h => h) hgw hp)
theorem psm_setLc {i : Nat} {y : Str} {py spos : Pos} {elt tg iter : Expr} {ifs : List Expr} {scope : Scope} {own : List (Str × Nat)} {tgr : TG} {mi : MI} {gt : MGt} {mt : MT} {me : ME} {m' : ME} (hm : ∀ σ H Q, teOf T P Wx m' σ H Q → teOf T P Wx (eComp mi gt mt me (own.map (·.2))) σ H Q)
    (hc : X.calm = true) (hN : X.N.Nodup) (hy : X.N[i]? = some y) (hyl : X.env.scope.names.lookup y = some .local)
    (hsw : swapsWith (.ListComp elt [⟨tg, iter, ifs, 0⟩] scope pos) (some (.Name y py)) spos.line X.env = pure true) (hi : PIm X T P Wx tg iter mi) (ok : BlkOk X.N X.env.scope scope own)
    (hg : ∀ (s : Shared) (H : Hp) (C : Addr) (cl : List (Str × Addr)) (fp : List Addr), PG (X.blk s H scope (compEnvC scope cl C X.env) fp) tg tgr) (hgr : ∀ v σ H Q, tgtOf T P gt v σ H Q → tgr v σ H Q) (hgw : GW tgr (own.map (·.2)))
    (ht : ∀ (s : Shared) (H : Hp) (C : Addr) (cl : List (Str × Addr)) (fp : List Addr), PTs (X.blk s H scope (compEnvC scope cl C X.env) fp) ifs (ttOf T P Wx0 mt))
    (he : ∀ (s : Shared) (H : Hp) (C : Addr) (cl : List (Str × Addr)) (fp : List Addr), PEm (X.blk s H scope (compEnvC scope cl C X.env) fp) T P Wx0 elt me) (hp : ∀ i ∈ own.map (·.2), pinned P i = false := by intro i _; rfl) (hpi : pinned P i = false := by rfl) (hs : ∀ x, foldedSetIterable iter X.env x = pure x := by intro _; rfl) :
    PSm X T P Wx (.Assign [.Name y py] (.ListComp elt [⟨tg, iter, ifs, 0⟩] scope pos) spos) (sAsg m' (gN i)) :=
  PS.imp (ps_setLc hc hN hy hyl hsw hi ok hg ht he hs) fun D σ H h => lc_run (fun _ _ _ h => h) hgr (fun _ _ _ h => h) (fun _ _ _ h => h) hgw hp σ H _ (hm σ H _ (asg_run (tg := gName i) (fun v σ H Q ⟨c, env, st, u, env', hH, hE, r, q, k⟩ => by
    cases q
    exact k _ (hE.set r i hpi)) D σ H h))
theorem ptsm_nil {σ : Unit} : PTs X [] (ttOf T P Wx0 tYes) := ⟨fun pins s σ H Q I h => by
  obtain ⟨c, env, st, hH, hE, hR⟩ := h
  exact pts_nil.run pins s σ H Q I (show L2.tYes σ H Q from ResG.ret (u := true) hR hH rfl)⟩
theorem ptsm_one {c : Expr} {mt : MT} (h : PTm X T P Wx0 c mt) : PTs X [c] (ttOf T P Wx0 mt) := pts_one h
end
end NK

namespace NK
open PySem L2

def fApp : U → List U → Sto → Out U := fun u ws st => match u with
  | .loc i => match ws, st[i]? with
    | [w], some (.lst us) => if us.length < 16777216 then .ok .non (st.set i (.lst (us ++ [w]))) else .bad
    | _, _ => .bad
  | _ => .bad
def isLoc : U → Sto → Bool := fun u st => match u with
  | .loc i => match st[i]? with
    | some (.lst _) => true
    | _ => false
  | _ => false
def eBM (f : U → List U → Sto → Out U) (mo : ME) (ma : MA) : ME := fun env st => (mo env st).bind fun x st1 => if isLoc x st1 = true then (ma env st1).bind fun ws st2 => f x ws st2 else .bad
def MtSim (T : Tb) (r : V → List V → Hp → VK → Prop) (f : U → List U → Sto → Out U) : Prop :=
  ∀ (Wx : WX) (c : Cn) (σ : L2.St) (st : Sto) (H : Hp) (u : U) (x : V) (us : List U) (xs : List V) (Q : VK), RH T c st H → Rp T c u x → RpL T c us xs → ResG T Wx c σ (Rp T) (f u us st) Q → r x xs H Q
section
variable {X : Cx} {T : Tb} {P : Pin} {Wx : WX} {o e : Expr} {es : List Expr} {mo m mi : ME} {ma : MA} {apos cpos pos : Pos}
theorem sim_app : MtSim T rAppend fApp := fun Wx c σ st H u x us xs Q hH ru r hR => by
  cases u with
  | loc i =>
    obtain ⟨hi, rfl⟩ := ru.inv_loc
    dsimp only [fApp] at hR
    split at hR
    · rename_i w us' es'
      obtain ⟨v, vs, rfl, r1, t⟩ := r.inv_cons
      cases t.inv_nil
      obtain ⟨ws, h1, r2⟩ := hH.at_lst es'
      split at hR
      · rename_i hz
        refine ⟨c.ρ i, ws, v, rfl, rfl, h1, by rw [szl, ← r2.length]; exact hz, ?_⟩
        exact hR c _ _ (Le.refl c) (hH.set es' (fun z => nomatch z) ⟨_, rfl, r2.append (.one r1)⟩) .non
      · exact hR.elim
    · exact hR.elim
  | _ => exact hR.elim
theorem pem_bm {r : V → List V → Hp → VK → Prop} {f : U → List U → Sto → Out U} (hs : MtSim T r f) (h : PE X e (tBM X.K "list" r (teOf T P Wx mo) (taOf T P Wx ma))) : PEm X T P Wx e (eBM f mo ma) :=
  PE.imp h fun σ H Q ⟨c, env, st, hH, hE, hR⟩ => by
    refine (tg_bind hH hE hR).mono fun x H1 ⟨u, c1, st1, l1, hH1, hE1, r1, hR1⟩ => ?_
    split at hR1
    · rename_i hl
      cases u with
      | loc i =>
        obtain ⟨hi, rfl⟩ := r1.inv_loc
        refine ⟨?_, ?_⟩
        · dsimp only [isLoc] at hl
          split at hl
          · rename_i us es'
            obtain ⟨vs, h1, _⟩ := hH1.at_lst es'
            exact .inl ⟨rfl, vs, SqL.of h1⟩
          · cases hl
        · refine (tg_bind hH1 hE1 hR1).mono fun ws H2 ⟨us, c2, st2, l2, hH2, hE2, r2, hR2⟩ => ?_
          exact hs Wx c2 σ st2 H2 (.loc i) _ us ws Q hH2 (r1.mono l2) r2 hR2
      | _ => cases hl
    · exact hR1.elim

def setIx (o i w : U) (st : Sto) : Option Sto := match o, i with
  | .loc n, .int k => match st[n]? with
    | some (.lst us) => match ixN us.length k with
      | some j => some (st.set n (.lst (us.set j w)))
      | none => none
    | _ => none
  | _, _ => none
def sSetIx (mo mi m : ME) : MS := fun env st => (m env st).st env fun w st1 => (mo env st1).st env fun o st2 => (mi env st2).st env fun i st3 => match setIx o i w st3 with
  | some st4 => .next env st4
  | none => .bad
theorem psm_setIx {s : Stmt} (h : PS X s (tAsg (teOf T P Wx m) (gSub (teOf T P Wx mo) (teOf T P Wx mi) rSetL))) : PSm X T P Wx s (sSetIx mo mi m) :=
  PS.imp h fun D σ H ⟨c, env, st, hH, hE, hR⟩ => by
    refine (ts_bind hH hE hR).mono fun x H1 ⟨w, c1, st1, l1, hH1, hE1, r1, hR1⟩ => ?_
    refine (ts_bind hH1 hE1 hR1).mono fun y H2 ⟨o, c2, st2, l2, hH2, hE2, r2, hR2⟩ => ?_
    refine (ts_bind hH2 hE2 hR2).mono fun z H3 ⟨i, c3, st3, l3, hH3, hE3, r3, hR3⟩ => ?_
    split at hR3
    · rename_i st4 q
      unfold setIx at q
      split at q
      · rename_i n k
        obtain ⟨hi, rfl⟩ := (r2.mono l3).inv_loc
        cases r3.inv_int
        split at q
        · rename_i us es'
          split at q
          · rename_i j ej
            cases q
            obtain ⟨vs, h1, r4⟩ := hH3.at_lst es'
            refine ⟨_, vs, _, j, rfl, rfl, h1, by rw [← r4.length]; exact ej, ?_⟩
            exact ResS.go (D := D) hR3 (hH3.set es' (fun z => nomatch z) ⟨_, rfl, r4.set j ((r1.mono l2).mono l3)⟩) hE3
          · cases q
        · cases q
      · cases q
    · exact hR3.elim

structure FldOk (T : Tb) (k j : Nat) (f : Str) : Prop where
  cl : Cls T.K (T.cls k)
  na : NoAttr T.K (T.cls k) f
  nm : (T.fld k)[j]? = some f
  nd : (T.fld k).Nodup
  sz : (T.fld k).length ≤ 900
theorem zip_lookup : ∀ {ns : List Str} {vs : List V} {j : Nat} {f : Str} {v : V}, ns.Nodup → ns[j]? = some f → vs[j]? = some v → (ns.zip vs).lookup f = some v
  | [], _, _, _, _, _, h, _ => by simp at h
  | _ :: _, [], _, _, _, _, _, h => by simp at h
  | n :: ns, w :: vs, 0, f, v, nd, h1, h2 => by
    simp at h1 h2
    subst h1 h2
    simp [List.lookup]
  | n :: ns, w :: vs, j + 1, f, v, nd, h1, h2 => by
    have nd' := List.nodup_cons.mp nd
    have h1' : ns[j]? = some f := by simpa using h1
    have ne : (f == n) = false := by
      rw [beq_eq_false_iff_ne]
      rintro rfl
      exact nd'.1 (List.mem_of_getElem? h1')
    simp only [List.zip_cons_cons, List.lookup, ne]
    exact zip_lookup nd'.2 h1' (by simpa using h2)
theorem zip_put : ∀ {ns : List Str} {vs : List V} {j : Nat} {f : Str} {y : V}, ns.Nodup → ns[j]? = some f → j < vs.length → putF f y (ns.zip vs) = ns.zip (vs.set j y)
  | [], _, _, _, _, _, h, _ => by simp at h
  | _ :: _, [], _, _, _, _, _, h => by simp at h
  | n :: ns, w :: vs, 0, f, y, nd, h1, h2 => by
    simp at h1
    subst h1
    simp [putF]
  | n :: ns, w :: vs, j + 1, f, y, nd, h1, h2 => by
    have nd' := List.nodup_cons.mp nd
    have h1' : ns[j]? = some f := by simpa using h1
    have ne : ¬ n = f := by
      rintro rfl
      exact nd'.1 (List.mem_of_getElem? h1')
    simp only [List.zip_cons_cons, List.set_cons_succ, putF, if_neg ne]
    rw [zip_put nd'.2 h1' (by simpa using h2)]
theorem zip_new : ∀ {ns : List Str} {vs : List V} {f : Str} {y : V}, ns.Nodup → ns[vs.length]? = some f → putF f y (ns.zip vs) = ns.zip (vs ++ [y])
  | [], vs, _, _, _, h => by simp at h
  | n :: ns, [], f, y, nd, h1 => by
    simp at h1
    subst h1
    simp [putF]
  | n :: ns, w :: vs, f, y, nd, h1 => by
    have nd' := List.nodup_cons.mp nd
    have h1' : ns[vs.length]? = some f := by simpa using h1
    have ne : ¬ n = f := by
      rintro rfl
      exact nd'.1 (List.mem_of_getElem? h1')
    simp only [List.zip_cons_cons, List.cons_append, putF, if_neg ne]
    rw [zip_new nd'.2 h1']
def asIns (u : U) (st : Sto) : Option (Nat × List U) := match u with
  | .ins k us => some (k, us)
  | .loc i => match st[i]? with
    | some (.ins k us) => some (k, us)
    | _ => none
  | _ => none
theorem asIns_at {c : Cn} {st : Sto} {H : Hp} (h : RH T c st H) {u : U} {v : V} {k : Nat} {us : List U} (r : Rp T c u v) (e : asIns u st = some (k, us)) : ∃ a dx vs, v = .ref a ∧ H a = some (.ins (T.cls k) dx ((T.fld k).zip vs)) ∧ vs.length ≤ (T.fld k).length ∧ RpL T c us vs := by
  cases u with
  | ins k' xs =>
    obtain ⟨a, dx, vs, rfl, h1, h2, h3⟩ := r.inv_ins
    cases e
    exact ⟨a, dx, vs, rfl, h.sub _ _ h1, h2, h3⟩
  | loc i =>
    obtain ⟨_, rfl⟩ := r.inv_loc
    dsimp only [asIns] at e
    split at e
    · rename_i k' us' q
      cases e
      obtain ⟨dx, vs, h1, h2, h3⟩ := h.at_ins q
      exact ⟨_, dx, vs, rfl, h1, h2, h3⟩
    · cases e
  | _ => cases e
def getF (k j : Nat) (u : U) (st : Sto) : Option U := match asIns u st with
  | some (k', us) => if k' = k then us[j]? else none
  | none => none
def eFld (k j : Nat) (m : ME) : ME := fun env st => (m env st).bind fun u st1 => match getF k j u st1 with
  | some w => .ok w st1
  | none => .bad
theorem pem_fld {f : Str} {k j : Nat} (hK : X.K = T.K) (F : FldOk T k j f) (h : PE X e (tFld X.K (teOf T P Wx m) f)) : PEm X T P Wx e (eFld k j m) := PE.imp h fun σ H Q ⟨c, env, st, hH, hE, hR⟩ => by
  refine (tg_bind hH hE hR).mono fun x H1 ⟨u, c1, st1, l1, hH1, hE1, r1, hR1⟩ => ?_
  split at hR1
  · rename_i w q
    unfold getF at q
    split at q
    · rename_i k' us e1
      split at q
      · rename_i ek
        subst ek
        obtain ⟨a, dx, vs, rfl, h1, h2, h3⟩ := asIns_at hH1 r1 e1
        obtain ⟨v, hv, rv⟩ := h3.get q
        rw [hK]
        exact ⟨a, _, dx, _, v, rfl, h1, F.cl, F.na, zip_lookup F.nd F.nm hv, hR1.ret hH1 rv⟩
      · cases q
    · cases q
  · exact hR1.elim
def putFld (k j : Nat) (o w : U) (st : Sto) : Option Sto := match o with
  | .loc i => match st[i]? with
    | some (.ins k' us) => if k' = k then (if j < us.length then some (st.set i (.ins k (us.set j w))) else if j = us.length then some (st.set i (.ins k (us ++ [w]))) else none) else none
    | _ => none
  | _ => none
def sFld (k j : Nat) (mo m : ME) : MS := fun env st => (m env st).st env fun w st1 => (mo env st1).st env fun o st2 => match putFld k j o w st2 with
  | some st3 => .next env st3
  | none => .bad
theorem psm_fld {s : Stmt} {f : Str} {k j : Nat} (hK : X.K = T.K) (F : FldOk T k j f) (h : PS X s (L2.sFld X.K (teOf T P Wx mo) (teOf T P Wx m) f)) : PSm X T P Wx s (NK.sFld k j mo m) := PS.imp h fun D σ H ⟨c, env, st, hH, hE, hR⟩ => by
  refine (ts_bind hH hE hR).mono fun x H1 ⟨w, c1, st1, l1, hH1, hE1, r1, hR1⟩ => ?_
  refine (ts_bind hH1 hE1 hR1).mono fun y H2 ⟨o, c2, st2, l2, hH2, hE2, r2, hR2⟩ => ?_
  split at hR2
  · rename_i st3 q
    unfold putFld at q
    split at q
    · rename_i i
      obtain ⟨hi, rfl⟩ := r2.inv_loc
      split at q
      · rename_i k' us es'
        split at q
        · rename_i ek
          subst ek
          obtain ⟨dx, vs, h1, h2, h3⟩ := hH2.at_ins es'
          have hl : ((T.fld k').zip vs).length < 1000 := by
            have := F.sz
            rw [List.length_zip]
            omega
          have hj : j < (T.fld k').length := (List.getElem?_eq_some_iff.mp F.nm).1
          rw [hK]
          refine ⟨c2.ρ i, _, dx, _, rfl, h1, F.cl, F.na, hl, ?_⟩
          split at q
          · rename_i hlt
            cases q
            rw [zip_put F.nd F.nm (by rw [← h3.length]; exact hlt)]
            exact ResS.go (D := D) hR2 (hH2.set es' (fun z => nomatch z) ⟨dx, _, rfl, by rw [List.length_set]; exact h2, h3.set j (r1.mono l2)⟩) hE2
          · split at q
            · rename_i _ hje
              cases q
              rw [zip_new F.nd (by rw [← h3.length, ← hje]; exact F.nm)]
              exact ResS.go (D := D) hR2 (hH2.set es' (fun z => nomatch z) ⟨dx, _, rfl, by rw [List.length_append, List.length_singleton, ← h3.length, ← hje]; exact hj, h3.append (.one (r1.mono l2))⟩) hE2
            · cases q
        · cases q
      · cases q
    · cases q
  · exact hR2.elim

abbrev MF := List U → Sto → Out U
def spOf (T : Tb) (n : Nat) (mf : MF) : Sp := fun vs H Q E => vs.length = n ∧ ∃ c us st, RH T c st H ∧ RpL T c us vs ∧ ResG T (fun cls d _ H => E cls d H) c [] (Rp T) (mf us st) Q
def runF (n : Nat) (mb : MS) : MF := fun us st => match mb (us.map some ++ List.replicate (n - us.length) none) st with
  | .ret u st' => .ok u st'
  | .next _ st' => .ok .non st'
  | .exc x _ st' => .exc x st'
  | _ => .bad
open PyProof.Rows (envOfC) in
theorem start_RE {c : Cn} {us : List U} {vs : List V} {N : List Str} (r : RpL T c us vs) : RE T none c (us.map some ++ List.replicate (N.length - us.length) none) (L2.start N vs) := by
  unfold L2.start
  refine ⟨by simp [r.length], fun i u h => ?_, fun p e => by cases e⟩
  by_cases hi : i < us.length
  · rw [List.getElem?_append_left (by simpa using hi), List.getElem?_map] at h
    cases q : us[i]? with
    | none => rw [q] at h; cases h
    | some w =>
      rw [q] at h
      cases h
      obtain ⟨v, hv, rv⟩ := r.get q
      exact ⟨v, by rw [List.getElem?_append_left (by rw [List.length_map, ← r.length]; exact hi), List.getElem?_map, hv]; rfl, rv⟩
  · rw [List.getElem?_append_right (by simpa using hi), List.getElem?_replicate] at h
    split at h <;> cases h
open PyProof.Rows (envOfC) in
noncomputable def fScope (mf : MF) : MF := fun us st => scopeOut st (mf us st)
theorem spOf_scope {n : Nat} {mf : MF} (vs : List V) (H : Hp) (Q : VK) (E : XK) (h : spOf T n (fScope mf) vs H Q E) : spOf T n mf vs H Q E := by
  obtain ⟨hl, c, us, st0, hH, r, hR⟩ := h
  exact ⟨hl, c, us, st0, hH, r, scope_res hH hR⟩
def eCall (n : Nat) (mf : MF) (dus : List U) (ma : MA) : ME := fun env st => (ma env st).bind fun us st1 => if (us ++ dus).length = n then mf (us ++ dus) st1 else .bad
theorem ResG.wish {α β : Type} {R : Cn → α → β → Prop} {c : Cn} {σ σ' : L2.St} {r : Out α} {Q : β → Hp → Prop} {W W' : WX} (h : ResG T W c σ R r Q) (k : ∀ cls d H, W cls d σ H → W' cls d σ' H) : ResG T W' c σ' R r Q := by
  cases r with
  | ok u st => exact h
  | exc x st => exact fun c' cls d H' a b e => k _ _ _ (h c' cls d H' a b e)
  | bad => exact h
theorem pem_call {k n : Nat} {f : Addr} {fd : FuncData} {ps : List Str} {mf : MF} {dus : List U} {dvs : List V} {ds : List Value} {x : Str} {p : Pos} (tk : Takes X Wx) (F : FnOk X.prog X.w X.K X.mg X.base (L2.CX X.prog X.w) k f fd ps (spOf T n mf)) (hr : Room k X.A) (hg : Gl X x) (hm : X.mg x = some (.ref f)) (hk : PySem.W.keepIn X.K (.ref f) = true) (hb : Binds X.K fd ps ds) (hd : Vals dvs ds)
    (hdr : ∀ c, RpL T c dus dvs) (hn : ps.length = n) (ha : PAm X T P Wx (e :: es) ma) (hdb : (x == ("__debug__" : Str)) = false := by decide) (he : starEach (e :: es) X.env = (false, eval e X.env) :: starEach es X.env := by rfl) (hpl : (backTo pos (starEach es X.env)).any (·.1) = false := by rfl) :
    PEm X T P Wx (.Call (.Name x p) (e :: es) [] pos) (eCall n mf dus ma) :=
  PE.imp (pe_callSD (E := fun σ cls d H => Wx cls d σ H) F hr hg hm hk hb hd (fun σ => passAt tk σ) ha hdb he hpl) fun σ H Q ⟨c, env, st, hH, hE, hR⟩ => by
    refine (tg_bind hH hE hR).mono fun vs H1 ⟨us, c1, st1, l1, hH1, hE1, r1, hR1⟩ => ?_
    split at hR1
    · rename_i hl
      have r2 := r1.append (hdr c1)
      exact ⟨by rw [← r2.length]; exact hl, c1, _, st1, hH1, r2, hR1.wish fun cls d H h => h⟩
    · exact hR1.elim
end
end NK

namespace NK
open PySem L2

theorem call_mw {P : Program} {w : World} {A : Around} {E : Value → Shared → Prop} {h : Heap} {g : Array GenState} {d : Drawn} {tk : Nat} {os : OsState} {x C t u N' : Addr} {nm qn : Str} {bs bm : List Value} {hdct : Bool} {sn : List Str} {sub : List Value} {ab : Bool} {col : Option Bool}
    {dd : Option Addr} {k0 k1 k2 k3 k5 : Option Value} {rest : List Value} {Q : Value → Shared → Prop} (hC : h.get? C = some (excClassObj nm qn C N' bs bm hdct sn sub ab col dd k0 k1 k2 k3 k5 "ValueError.__new__"))
    (hu : h.get? u = some (PySem.W.kxs_mw "ValueError.__init__" x)) (he : h.get? x = some (PySem.W.excObj C t none .none)) (hz : rest.length ≤ sizeLine)
    (fin : ∀ h' t', (∀ b o, b ≠ x → h.get? b = some o → h'.get? b = some o) → h'.get? x = some (PySem.W.excObj C t' none .none) → Q .none ⟨h', g, d, tk, os⟩) :
    wpAny (model P w) A (call (.ref u) rest) Q E ⟨h, g, d, tk, os⟩ := by
  refine wpAny_call (codeAny_of_tree ?_)
  show wpAny _ A.in1 (callAny (.ref u) ⟨rest, []⟩) _ _ _
  simp only [callAny]
  refine wpAny_bind (wpAny_load hu ?_)
  simp only [PySem.W.kxs_mw, show (Value.type "method-wrapper" == Value.type "method" || Value.type "method-wrapper" == Value.type "builtin_function_or_method" || Value.type "method-wrapper" == Value.type "method-wrapper") = true by decide, if_true]
  refine PySem.W.KFB.if_so (by decide) ?_
  refine wpAny_bind (PySem.W.check_bound_init F.excBase_ValueError.toExcCallFacts hC he rfl ?_)
  refine wpAny_bind (wpAny_pure (wpAny_pure ?_))
  refine ⟨plainId_quiet F.excBase_ValueError.init.plain _, codeAny_builtin F.excBase_ValueError.initEntry ?_⟩
  exact PySem.W.exc_init_tree (cls := .ref C) (t0 := t) (dv := none) (c2 := .none) (c3 := .none) (b4 := .bool false) he hz fun h' k e' _ => fin h' _ k e'

def icx (P : Program) (w : World) (K : PySem.W.Frag) (mg : Str → Option Value) (base : Heap) (N : List Str) (qual : Str) (scope : Scope) (f : Addr) (cd : Value) (cc : Addr) (A : Around) (outer : List PySem.Env) (s : Shared) (H : Hp) (E : XK) : Cx where
  prog := P
  w := w
  K := K
  mg := mg
  base := base
  A := A.deeper (PySem.W.ksEnv qual scope s.heap.objs.size f cd cc)
  N := N
  s_0 := s
  H_0 := H
  env := PySem.W.ksEnv qual scope s.heap.objs.size f cd cc
  outer := outer
  stack := PySem.W.ksEnv qual scope s.heap.objs.size f cd cc :: outer
  ex := []
  calm := true
  fn := fun _ => false
  pn := []
  xe := fun e s' => wpAny (model P w) (A.deeper (PySem.W.ksEnv qual scope s.heap.objs.size f cd cc)) (leaving (PySem.W.ksEnv qual scope s.heap.objs.size f cd cc) e) (fun _ s'' => L2.CX P w outer H s E e s'') (fun e' s'' => L2.CX P w outer H s E e' s'') s'

structure Sup (P : Program) (K : PySem.W.Frag) (mg : Str → Option Value) (N ps : List Str) (sc : Scope) (C cda cc : Addr) : Prop where
  kind : sc.kind = .function
  co : sc.isCoroutine = false
  gen : sc.isGenerator = false
  nd : N.Nodup
  pre : N.take ps.length = ps
  par : ∀ x ∈ ps, sc.names.lookup x = some .local
  nocell : ∀ y ∈ sc.names, y.2 ≠ .cell
  free : ∀ y, sc.names.lookup y = some .free → y = ("__class__" : Str)
  ksup : sc.names.lookup ("super" : Str) = some .globalImplicit
  kcls : sc.names.lookup ("__class__" : Str) = some .free
  code : ∃ ccl cdd vs ccs file tf, K.lookup cda = some ⟨ccl, cdd, .fields vs, ccs⟩ ∧ vs[2]? = some (.str file tf) ∧ ((P.main.file : Str) == file) = true
  cell : ∃ cl cld csl, K.lookup cc = some ⟨cl, cld, .cell (some (.ref C)), csl⟩
  T : OexC K C
  sup : PySem.W.ks_superIn K C C "__init__" = some (some (.builtin "ValueError.__init__"))
  isV : PySem.W.subIn K (.ref C) (.type "ValueError") = some true
  self : PySem.W.mroIn K C (.ref C) = some true
  opq : PySem.W.nsIn K cStatics "thirdparty.any" = some none
  msup : mg "super" = none
  top : (P.main.scope.names.lookup ("super" : Str)).isSome = false

theorem zip_rev_lookup : ∀ {ps : List Str} {us : List Value} {i : Nat} {x : Str} {u : Value}, ps.Nodup → ps[i]? = some x → us[i]? = some u → (ps.zip us).reverse.lookup x = some u := by
  intro ps us i x u nd h1 h2
  have key : ∀ {l : List (Str × Value)} {r : List (Str × Value)}, (∀ v, (x, v) ∉ l) → (l ++ r).lookup x = r.lookup x := by
    intro l r
    induction l with
    | nil => intro _; rfl
    | cons a l ih =>
      intro h
      obtain ⟨y, v⟩ := a
      have ne : (x == y) = false := by
        rw [beq_eq_false_iff_ne]
        rintro rfl
        exact h v List.mem_cons_self
      simp only [List.cons_append, List.lookup, ne]
      exact ih fun v hv => h v (List.mem_cons_of_mem _ hv)
  induction ps generalizing us i with
  | nil => simp at h1
  | cons p ps ih =>
    cases us with
    | nil => simp at h2
    | cons w us =>
      have nd' := List.nodup_cons.mp nd
      simp only [List.zip_cons_cons, List.reverse_cons]
      cases i with
      | zero =>
        simp at h1 h2
        subst h1 h2
        rw [key fun v hv => nd'.1 (List.of_mem_zip (List.mem_reverse.mp hv)).1]
        simp [List.lookup]
      | succ i =>
        have q := ih (us := us) (i := i) nd'.2 (by simpa using h1) (by simpa using h2)
        have e : ∀ {l r : List (Str × Value)}, l.lookup x = some u → (l ++ r).lookup x = some u := by
          intro l r
          induction l with
          | nil => intro h; cases h
          | cons a l ih2 =>
            intro h
            obtain ⟨y, v⟩ := a
            simp only [List.cons_append, List.lookup] at h ⊢
            split
            · rename_i hh; rw [hh] at h; exact h
            · rename_i hh; rw [hh] at h; exact ih2 h
        exact e q

section
variable {P : Program} {w : World} {K : PySem.W.Frag} {mg : Str → Option Value} {base : Heap} {N ps : List Str} {qual : Str} {scope : Scope} {f cda cc C : Addr} {A : Around} {outer : List PySem.Env} {s : Shared} {H : Hp} {E : XK} {us : List Value} {vs : List V}
theorem inv_init {h1 : Heap} {tk : Nat} (S : Sup P K mg N ps scope C cda cc) (hd : A.handled = none) (e0 : Env0 P w K mg base A outer s H) (hl : vs.length = ps.length) (r : Vals vs us)
    (hns : h1.Ns s.heap.objs.size (fun x => (ps.zip us).reverse.lookup x)) (hk : ∀ b o, s.heap.get? b = some o → h1.get? b = some o) :
    Inv (icx P w K mg base N qual scope f (.ref cda) cc A outer s H E) [] (L2.start N vs) H { s with heap := h1, toks := tk } := by
  have hpl : ps.length ≤ N.length := by have := congrArg List.length S.pre; rw [List.length_take] at this; omega
  have noA : ∀ b : Addr, b ∉ (icx P w K mg base N qual scope f (.ref cda) cc A outer s H E).ex := fun b z => absurd (show b ∈ ([] : List Addr) from z) (by simp)
  have one : ∀ {x : Str} {c : Addr}, ([("__class__", cc)] : List (Str × Addr)).lookup x = some c → x = "__class__" ∧ c = cc := fun {x c} h => by
    simp only [List.lookup] at h
    split at h
    · rename_i hh
      exact ⟨beq_iff_eq.mp hh, (Option.some.inj h).symm⟩
    · cases h
  obtain ⟨cl, cld, csl, hcell⟩ := S.cell
  have cin : base.get? cc = some ⟨cl, cld, .cell (some (.ref C)), csl⟩ := e0.mod.kin _ _ hcell
  refine ⟨⟨e0.mod, S.kind, rfl, rfl, Nat.le_refl _, fun y z c h1 h2 => (one h1).1.trans (one h2).1.symm, fun y hy => ?_, fun y c h => (nomatch h), fun _ => hd, Around.frames_deeper e0.frames, .inr ⟨rfl, rfl⟩, fun b z => absurd z (noA b), e0.bs, e0.bsz, fun b _ _ => noA b, fun b z => absurd z (noA b), e0.funs, e0.frf⟩,
    rfl, e0.bare, Un.kept hk, ⟨_, hns, fun i y v h1 h2 h3 => ?_⟩, fun y c h => ?_, e0.hok.fresh (Nat.le_refl _), fun y c h => ?_, fun p hp => absurd (show p ∈ ([] : List (Addr × Obj)) from hp) (by simp), e0.hok.kept hk, ?_⟩
  · have hy : scope.names.lookup y = some .cell ∨ scope.names.lookup y = some .free := hy
    rcases hy with hy | hy
    · exact absurd rfl (S.nocell _ (PySem.mem_of_lookup hy))
    · rw [S.free y hy]
      exact ⟨cc, by show ([("__class__", cc)] : List (Str × Addr)).lookup ("__class__" : Str) = some cc; simp [List.lookup]⟩
  · have hi : i < vs.length := by
      unfold L2.start at h2
      by_cases hi : i < vs.length
      · exact hi
      · rw [List.getElem?_append_right (by simpa using hi)] at h2
        rw [List.getElem?_replicate] at h2
        split at h2 <;> cases h2
    have ha : vs[i]? = some v := by
      unfold L2.start at h2
      rw [List.getElem?_append_left (by simpa using hi), List.getElem?_map] at h2
      cases e : vs[i]? with
      | none => rw [e] at h2; cases h2
      | some a => rw [e] at h2; cases h2; rfl
    obtain ⟨u, hu, rv⟩ := r.get ha
    have hp : ps[i]? = some y := by
      rw [← S.pre, List.getElem?_take_of_lt (by omega)]; exact h1
    have ndP : ps.Nodup := by rw [← S.pre]; exact S.nd.sublist (List.take_sublist _ _)
    exact ⟨u, rv, .inl ⟨S.par y (List.mem_of_getElem? hp), zip_rev_lookup ndP hp hu⟩⟩
  · rw [(one h).2]
    exact ⟨_, _, hk _ _ (e0.bs _ _ cin).1, rfl⟩
  · rw [(one h).2]
    exact (e0.bs _ _ cin).2
  · unfold L2.start
    show _ = N.length
    rw [List.length_append, List.length_map, List.length_replicate]
    omega
end

def IniAt (H0 : Hp) (a C : Addr) (fs : List (Str × V)) (H : Hp) : Prop :=
  (fs = [] ∧ H = upd H0 a (exo a C none)) ∨ ∃ d, H0 d = none ∧ d ≠ a ∧ H = upd (upd H0 d (exd d fs)) a (exo a C (some d))
def spIni (C : Addr) (fs : List Str) : Sp := fun vs H Q _ => vs.length = fs.length + 1 ∧ ∃ a ws H0, vs = .ref a :: ws ∧ H0 a = none ∧ H = upd H0 a (exo a C none) ∧
  ∀ d, H0 d = none → d ≠ a → Q .non (upd (upd H0 d (exd d (fs.zip ws).reverse)) a (exo a C (some d)))
def spIniG (g : List V → Prop) (C : Addr) (fs : List Str) : Sp := fun vs H Q E => g vs ∧ spIni C fs vs H Q E
inductive IniSts (X : Cx) (C : Addr) : Nat → List Stmt → List Str → Prop where
  | nil {i : Nat} : IniSts X C i [] []
  | cons {i : Nat} {f : Str} {fs : List Str} {eo ev : Expr} {p' pos : Pos} {r : List Stmt} (h1 : PE X eo (tVar 0)) (h2 : PE X ev (tVar i)) (h3 : PySem.W.findIn X.K (.ref C) f = some none)
      (hs : swapsWith ev (some (.Attribute eo f p')) pos.line X.env = pure false) (h : IniSts X C (i + 1) r fs) : IniSts X C i (.Assign [.Attribute eo f p'] ev pos :: r) (f :: fs)
def tIni (K : PySem.W.Frag) (C : Addr) (i : Nat) (fs : List Str) : TS := fun D σ H => ∃ a H0 done ws, σ[0]? = some (some (.ref a)) ∧ OexC K C ∧ H0 a = none ∧ IniAt H0 a C done H ∧ done.length + fs.length ≤ 900 ∧ ws.length = fs.length ∧
  (∀ j v, ws[j]? = some v → σ[i + j]? = some (some v)) ∧ ∀ H', IniAt H0 a C ((fs.zip ws).reverse ++ done) H' → D.nx σ H'
theorem ini_sts {X : Cx} {C : Addr} {i : Nat} {sts : List Stmt} {fs : List Str} (h : IniSts X C i sts fs) : PSs X sts (tIni X.K C i fs) := by
  induction h with
  | nil =>
    refine PSs.imp pss_nil fun D σ H ⟨a, H0, done, ws, _, _, _, h4, _, h6, _, h8⟩ => ?_
    exact h8 H (by simpa using h4)
  | @cons i f fs eo ev p' pos r h1 h2 h3 hs h ih =>
    refine PSs.imp (pss_cons (ps_ost h1 h2 hs) ih) fun D σ H ⟨a, H0, done, ws, q1, q2, q3, q4, q5, q6, q7, q8⟩ => ?_
    obtain ⟨v, ws', rfl⟩ : ∃ v ws', ws = v :: ws' := by
      cases ws with
      | nil => simp at q6
      | cons v ws' => exact ⟨v, ws', rfl⟩
    have qv := q7 0 v rfl
    refine ⟨v, by simpa using qv, .ref a, q1, a, C, rfl, q2, h3, ?_⟩
    have more : ∀ H', IniAt H0 a C ((f, v) :: done) H' → tIni X.K C (i + 1) fs D σ H' := fun H' k => by
      refine ⟨a, H0, _, ws', q1, q2, q3, k, by simp at q5 ⊢; omega, by simpa using q6, fun j u e => ?_, fun H2 k2 => q8 H2 ?_⟩
      · have := q7 (j + 1) u (by simpa using e)
        rw [← this]
        congr 1
        omega
      · simpa [List.append_assoc] using k2
    rcases q4 with ⟨rfl, rfl⟩ | ⟨d, n1, n2, rfl⟩
    · refine .inl ⟨upd_same, fun dx nd ne => more _ (.inr ⟨dx, ?_, ne, ?_⟩)⟩
      · rwa [upd_ne ne] at nd
      · funext b
        by_cases hb : b = a
        · rw [hb, upd_same, upd_same]
        · rw [upd_ne hb, upd_ne hb]
          by_cases hd : b = dx
          · rw [hd, upd_same, upd_same]
          · rw [upd_ne hd, upd_ne hd, upd_ne hb]
    · refine .inr ⟨d, done, upd_same, by rw [upd_ne n2, upd_same], by simp at q5; omega, more _ (.inr ⟨d, n1, n2, ?_⟩)⟩
      funext b
      by_cases hd : b = d
      · rw [hd, upd_same, upd_ne n2, upd_same]
      · rw [upd_ne hd]
        by_cases hb : b = a
        · rw [hb, upd_same, upd_same]
        · rw [upd_ne hb, upd_ne hb, upd_ne hd, upd_ne hd]

def Tot (n : Nat) (t : TA) : Prop := ∀ (σ : L2.St) (H : Hp) (Q : List V → Hp → Prop), (∀ i, i < n → ∃ v, σ[i]? = some (some v)) → (∀ vs, vs.length ≤ 1000 → Q vs H) → t σ H Q

theorem init_okG {g : List V → Prop} {P : Program} {w : World} {K : PySem.W.Frag} {mg : Str → Option Value} {base : Heap} {N ps fs : List Str} {k : Nat} {name qual : Str} {params : Arguments} {scope : Scope} {dV kV doc pm ct oc : Value} {an od : Option Addr} {osl : Array (Option Value)} {f cda cc C : Addr}
    {e : Expr} {es : List Expr} {p0 p1 p2 p3 p4 : Pos} {rest : List Stmt} {ar : Arg}
    (lk : K.lookup f = some ⟨oc, od, .func (PySem.W.ksFn name qual params (.Expr (.Call (.Attribute (.Call (.Name "super" p0) [] [] p1) "__init__" p2) (e :: es) [] p3) p4 :: rest) scope dV kV doc pm an (.ref cda) ct cc), osl⟩)
    (hcd : PySem.W.codeIn K (.ref cda) qual = true) (S : Sup P K mg N ps scope C cda cc) (har : (params.posonlyargs ++ params.args).head? = some ar) (hself : N[0]? = some ar.arg) (hnf : ps.length = fs.length + 1) (hfs : fs.length ≤ 900) (hne : fs ≠ [])
    (hargs : ∀ (A : Around) (outer : List PySem.Env) (s : Shared) (H : Hp) (E : XK), ∃ t, PA (icx P w K mg base N qual scope f (.ref cda) cc A outer s H E) (e :: es) t ∧ ∀ vs : List V, vs.length = ps.length → g vs → ∀ (H : Hp) (Q : List V → Hp → Prop), (∀ xs, xs.length ≤ 1000 → Q xs H) → t (L2.start N vs) H Q)
    (hrest : ∀ (A : Around) (outer : List PySem.Env) (s : Shared) (H : Hp) (E : XK), IniSts (icx P w K mg base N qual scope f (.ref cda) cc A outer s H E) C 1 rest fs)
    (he : ∀ L, starEach (e :: es) (PySem.W.ksEnv qual scope L f (.ref cda) cc) = (false, eval e (PySem.W.ksEnv qual scope L f (.ref cda) cc)) :: starEach es (PySem.W.ksEnv qual scope L f (.ref cda) cc) := by intro _; rfl)
    (hpl : ∀ L, (backTo p3 (starEach es (PySem.W.ksEnv qual scope L f (.ref cda) cc))).any (·.1) = false := by intro _; rfl)
    (hsw : ∀ L, swapsWith (.Call (.Attribute (.Call (.Name "super" p0) [] [] p1) "__init__" p2) (e :: es) [] p3) none p4.line (PySem.W.ksEnv qual scope L f (.ref cda) cc) = pure false := by intro _; rfl)
    {pl : Sem Bool} (hev : ∀ L, eval (.Call (.Attribute (.Call (.Name "super" p0) [] [] p1) "__init__" p2) (e :: es) [] p3) (PySem.W.ksEnv qual scope L f (.ref cda) cc) = (do
      let ov ← attributeBase (.Call (.Name "super" p0) [] [] p1) "__init__" (PySem.W.ksEnv qual scope L f (.ref cda) cc) (eval (.Call (.Name "super" p0) [] [] p1) (PySem.W.ksEnv qual scope L f (.ref cda) cc))
      standAt p2.atName
      let (f', first) ← holding [ov] (getMethod ov "__init__" pl)
      callWith p3 f' first (backTo p3 (starEach (e :: es) (PySem.W.ksEnv qual scope L f (.ref cda) cc))) []) := by intro _; rfl) :
    FnOk P w K mg base (L2.CX P w) (k + 1) f (PySem.W.ksFn name qual params (.Expr (.Call (.Attribute (.Call (.Name "super" p0) [] [] p1) "__init__" p2) (e :: es) [] p3) p4 :: rest) scope dV kV doc pm an (.ref cda) ct cc) ps (spIniG g C fs) := by
  refine ⟨fun vs H Q E h => h.2.1.trans hnf.symm, fun A outer s H args us vs Q E hr e0 hb r hsp => ?_⟩
  obtain ⟨hgd, hlen, a, ws, H0, rfl, n0, rfl, hq⟩ := hsp
  have hl : (V.ref a :: ws).length = ps.length := hlen.trans hnf.symm
  have KX : K.In s.heap := e0.mod.kin.keeps fun b o e => (e0.bs b o e).1
  have lim : s.heap.NoLimit := e0.mod.nolimit.keeps fun b o e => (e0.bs b o e).1
  obtain ⟨ccl, cdd, cvs, ccs, file, tf, hcode, hvs, hfile⟩ := S.code
  obtain ⟨cl, cld, csl, hcell⟩ := S.cell
  obtain ⟨nm, q, Nc, bs, bm, sn, sub, ab, col, dd, k0, k1, k2, k3, k5, hC, hbm⟩ := id S.T.cls
  have hcl : PySem.W.clsIn K C = some { name := nm, bases := bs, mro := .ref C :: bm, ns := Nc, qualname := q, hasDict := true, slotNames := sn, subclasses := sub, abstract := ab, collection := col, hasDel := false } := by unfold PySem.W.clsIn; rw [hC] <;> rfl
  refine ks_codeAny_call_defAt (fd := PySem.W.ksFn name qual params (.Expr (.Call (.Attribute (.Call (.Name "super" p0) [] [] p1) "__init__" p2) (e :: es) [] p3) p4 :: rest) scope dV kV doc pm an (.ref cda) ct cc) hr.depth (KX _ _ lk) rfl lim (PySem.W.codeRec_of KX hcd) rfl hb S.nocell
    (fun y hy => S.par y.1 (List.of_mem_zip hy).1) (fun h1 hns hk => ?_) S.co S.gen S.kind
  have I : Inv (icx P w K mg base N qual scope f (.ref cda) cc A outer s (upd H0 a (exo a C none)) E) [] (L2.start N (.ref a :: ws)) (upd H0 a (exo a C none)) { s with heap := h1, toks := s.toks + (ps.zip us).length } := inv_init S hr.hd e0 hl r hns hk
  have self_at : ∃ m, h1.Ns s.heap.objs.size m ∧ m ar.arg = some (.ref a) := by
    cases r with
    | @cons _ u0 _ ur ra rw' =>
      obtain rfl : u0 = Value.ref a := ra
      refine ⟨_, hns, zip_rev_lookup (i := 0) (by rw [← S.pre]; exact S.nd.sublist (List.take_sublist _ _)) ?_ rfl⟩
      rw [← S.pre, List.getElem?_take_of_lt (by omega)]
      exact hself
  have hps : ar.arg ∈ ps := by
    have : ps[0]? = some ar.arg := by rw [← S.pre, List.getElem?_take_of_lt (by omega)]; exact hself
    exact List.mem_of_getElem? this
  obtain ⟨hp0, g0, d0, t0, os0⟩ := s
  have KX1 : K.In h1 := KX.keeps hk
  obtain ⟨tx, hx1⟩ := exo_at I.hok (upd_same (a := a))
  have IA : PySem.W.InstAt h1 a _ C none := ⟨hx1, rfl, rfl, trivial⟩
  obtain ⟨oD, hD1, hD2⟩ : ∃ oD, h1.get? C = some oD ∧ oD.data = .cls { name := nm, bases := bs, mro := .ref C :: bm, ns := Nc, qualname := q, hasDict := true, slotNames := sn, subclasses := sub, abstract := ab, collection := col, hasDel := false } := ⟨_, KX1 _ _ hC, rfl⟩
  obtain ⟨ms, hms, hmself⟩ := self_at
  obtain ⟨mb, hb1, hb2⟩ := I.mod.blt
  have hint : interactive (PySem.W.ksEnv qual scope hp0.objs.size f (.ref cda) cc) = false := by
    unfold interactive
    show (scope.kind == _ && _) = false
    rw [S.kind]
    rfl
  refine ks_wpAt_execs_cons (ks_wpAt_Expr_any (ks_wpAt_MethodCall (pl := pl) ?_ (hev _)) hint (hsw _))
  refine ks_wpAt_super_base (env := PySem.W.ksEnv qual scope hp0.objs.size f (.ref cda) cc) S.ksup S.kcls (by decide) rfl (KX1 _ _ lk) rfl har rfl (KX1 _ _ hcode) rfl hvs hfile S.top ?_
  refine PySem.W.ks_loadName_global S.kind S.ksup (PySem.Calls.loadGlobal_builtin (env := PySem.W.ksEnv qual scope hp0.objs.size f (.ref cda) cc) (I.mod.glob.keeps I.bk) S.msup (hb1.keeps I.bk) ((hb2 _ (by decide +kernel)).trans PyProof.Rows.Boot.«super») ⟨rfl, ?_⟩)
  refine wpAny_loadName_free S.kind S.kcls rfl ⟨_, KX1 _ _ hcell, rfl⟩ ?_
  refine wpAny_loadName_local S.kind (S.par _ hps) hms hmself ?_
  refine ks_wpAny_isType_cls hD1 hD2 ⟨rfl, ?_⟩
  refine ks_wpAny_call_super hD1 hD2 IA.at_ IA.cls (fun c e => by cases e) (PySem.W.looks_mroIn KX1 S.self) (fun h2 e2 k2 => ?_)
  have KX2 : K.In h2 := KX1.keeps k2
  have I2 := I.kept (t' := t0 + (ps.zip us).length) k2
  have IA2 : PySem.W.InstAt h2 a _ C none := ⟨k2 _ _ hx1, rfl, rfl, trivial⟩
  have hm := S.sup
  unfold PySem.W.ks_superIn at hm
  rw [hcl] at hm
  refine PySem.W.kxs_getMethod PySem.W.kxs_ValueError e2 (PySem.W.looks_opaque KX2 S.opq) (l₀ := .ref C :: bm) (fun A Q E s k q => wpAny_bind ((PySem.W.looks_clsIn KX2 hcl) A _ E s k (wpAny_pure q))) rfl KX2 hm (IA2.type.andThen (PySem.W.looks_subIn KX2 S.isV)) (PySem.W.ks_ne KX2 IA2 hcl) (by decide) ?_
  have I3 := I2.kept (t' := t0 + (ps.zip us).length + 1) (h' := h2.push (PySem.W.kxs_mw "ValueError.__init__" a)) fun b o z => Heap.get?_push_of_some _ z
  have hu : (h2.push (PySem.W.kxs_mw "ValueError.__init__" a)).get? h2.objs.size = some (PySem.W.kxs_mw "ValueError.__init__" a) := Heap.get?_push_at rfl rfl
  have I4 := I3.pins_of (pins' := [(h2.objs.size, PySem.W.kxs_mw "ValueError.__init__" a)]) (fun p hp => by
    rcases List.mem_singleton.mp hp with rfl
    refine ⟨hu, I2.hok.fresh (Nat.le_refl _), (Nat.ne_of_lt I2.lt).symm, I2.nofs (Nat.le_refl _), fun v z => by cases z⟩)
  obtain ⟨ta, hta, htot⟩ := hargs A outer ⟨hp0, g0, d0, t0, os0⟩ (upd H0 a (exo a C none)) E
  show wpAny _ _ (callWith p3 (.ref h2.objs.size) [] (backTo p3 (starEach (e :: es) (PySem.W.ksEnv qual scope hp0.objs.size f (.ref cda) cc))) []) _ _ _
  have hrun := hta.run p3 _ _ _ _ (fun vs H1 => vs.length ≤ 1000 ∧ H1 = upd H0 a (exo a C none)) I4 (htot _ hl hgd _ _ fun vs z => ⟨z, rfl⟩)
  have heE : starEach (e :: es) (icx P w K mg base N qual scope f (.ref cda) cc A outer ⟨hp0, g0, d0, t0, os0⟩ (upd H0 a (exo a C none)) E).env = _ := he hp0.objs.size
  rw [he]
  rw [heE] at hrun
  refine PySem.W.kxs_callWith (i := "ValueError.__init__") (x := a) (by show (false || (backTo p3 (starEach es _)).any (·.1)) = false; rw [hpl]; rfl) (PySem.Calls.evalArgs_plain (wpAny_mono hrun (fun vs s2 hv => ?_) fun _ _ x => x))
  obtain ⟨xs, H2, I5, rv, hz, rfl⟩ := hv
  have pin := (I5.pin (h2.objs.size, PySem.W.kxs_mw "ValueError.__init__" a) (List.mem_append_right _ (List.mem_singleton.mpr rfl))).1
  refine ⟨pin, ?_⟩
  obtain ⟨t5, hx5⟩ := exo_at I5.hok (upd_same (a := a))
  obtain ⟨h5, g5, d5, tk5, os5⟩ := s2
  refine call_mw (I5.kIn _ _ hC) pin hx5 (by show List.length _ ≤ sizeLine; rw [List.nil_append, ← Paired.length rv, sizeLine_eq]; omega) fun h6 t6 k6 hx6 => ?_
  have J := I5.write (t' := tk5) (x := a) (e := a) (o := exo a C none) (by rw [upd_same]; exact True.intro) (.inl rfl) k6 ⟨_, hx6⟩ (exo_ok hx6)
  have eu : upd (upd H0 a (exo a C none)) a (exo a C none) = upd H0 a (exo a C none) := by
    funext b
    by_cases hb : b = a
    · rw [hb, upd_same, upd_same]
    · rw [upd_ne hb, upd_ne hb]
  rw [eu] at J
  have J' := J.pins_of (pins' := []) fun p hp => absurd hp (by simp)
  have J0 : Inv (icx P w K mg base N qual scope f (.ref cda) cc A outer ⟨hp0, g0, d0, t0, os0⟩ (upd H0 a (exo a C none)) E) [] (L2.start N (.ref a :: ws)) (upd H0 a (exo a C none)) ⟨h6, g5, d5, tk5, os5⟩ :=
    ⟨J.ok, J.os, J.bare, J.base, J.loc, J.cell, J.free, J.freeC, fun p hp => absurd (show p ∈ ([] : List (Addr × Obj)) from hp) (by simp), J.hok, J.len⟩
  have hread : tIni K C 1 fs { nx := fun _ H' => Q .non H', rt := Q } (L2.start N (.ref a :: ws)) (upd H0 a (exo a C none)) := by
    refine ⟨a, H0, [], ws, ?_, S.T, n0, .inl ⟨rfl, rfl⟩, by simpa using hfs, by simpa using hlen, fun j v e => ?_, fun H' k => ?_⟩
    · unfold L2.start
      rfl
    · have hj : 1 + j < (V.ref a :: ws).length := by
        have := (List.getElem?_eq_some_iff.mp e).1
        simp
        omega
      unfold L2.start
      rw [List.getElem?_append_left (by simpa using hj), List.getElem?_map, Nat.add_comm, List.getElem?_cons_succ, e]
      rfl
    · rcases k with ⟨z, rfl⟩ | ⟨d, n1, n2, rfl⟩
      · exfalso
        have wl : ws.length = fs.length := by simpa using hlen
        cases fs with
        | nil => exact hne rfl
        | cons y ys =>
          cases ws with
          | nil => simp at wl
          | cons z2 zs => simp at z
      · simpa using hq d n1 n2
  refine wpAt_of_wpAny (wpAny_mono ((ini_sts (hrest A outer ⟨hp0, g0, d0, t0, os0⟩ (upd H0 a (exo a C none)) E)).run [] _ _ _ _ J0 hread) (fun fl s' hs => ?_) fun e s' hs => hs)
  have fin : ∀ {σ' : L2.St} {H' : Hp} {v : V} {u : Value}, Inv (icx P w K mg base N qual scope f (.ref cda) cc A outer ⟨hp0, g0, d0, t0, os0⟩ (upd H0 a (exo a C none)) E) [] σ' H' s' → RelV v u → Q v H' → CE outer P w (upd H0 a (exo a C none)) ⟨hp0, g0, d0, t0, os0⟩ Q u s' :=
    fun {σ' H' v u} J rv q => ⟨v, H', J.os, J.bare, J.base, J.hok, rv, q⟩
  cases fl with
  | ret u =>
    obtain ⟨v, σ', H', J, rv, q⟩ := hs
    exact fin J rv q
  | next =>
    obtain ⟨σ', H', J, q⟩ := hs
    exact fin (v := V.non) (u := Value.none) J rfl q
  | brk =>
    obtain ⟨_, _, _, q⟩ := hs
    exact False.elim q
  | cont =>
    obtain ⟨_, _, _, q⟩ := hs
    exact False.elim q
theorem init_ok {P : Program} {w : World} {K : PySem.W.Frag} {mg : Str → Option Value} {base : Heap} {N ps fs : List Str} {k : Nat} {name qual : Str} {params : Arguments} {scope : Scope} {dV kV doc pm ct oc : Value} {an od : Option Addr} {osl : Array (Option Value)} {f cda cc C : Addr}
    {e : Expr} {es : List Expr} {p0 p1 p2 p3 p4 : Pos} {rest : List Stmt} {ar : Arg}
    (lk : K.lookup f = some ⟨oc, od, .func (PySem.W.ksFn name qual params (.Expr (.Call (.Attribute (.Call (.Name "super" p0) [] [] p1) "__init__" p2) (e :: es) [] p3) p4 :: rest) scope dV kV doc pm an (.ref cda) ct cc), osl⟩)
    (hcd : PySem.W.codeIn K (.ref cda) qual = true) (S : Sup P K mg N ps scope C cda cc) (har : (params.posonlyargs ++ params.args).head? = some ar) (hself : N[0]? = some ar.arg) (hnf : ps.length = fs.length + 1) (hfs : fs.length ≤ 900) (hne : fs ≠ [])
    (hargs : ∀ (A : Around) (outer : List PySem.Env) (s : Shared) (H : Hp) (E : XK), ∃ t, PA (icx P w K mg base N qual scope f (.ref cda) cc A outer s H E) (e :: es) t ∧ Tot ps.length t)
    (hrest : ∀ (A : Around) (outer : List PySem.Env) (s : Shared) (H : Hp) (E : XK), IniSts (icx P w K mg base N qual scope f (.ref cda) cc A outer s H E) C 1 rest fs)
    (he : ∀ L, starEach (e :: es) (PySem.W.ksEnv qual scope L f (.ref cda) cc) = (false, eval e (PySem.W.ksEnv qual scope L f (.ref cda) cc)) :: starEach es (PySem.W.ksEnv qual scope L f (.ref cda) cc) := by intro _; rfl)
    (hpl : ∀ L, (backTo p3 (starEach es (PySem.W.ksEnv qual scope L f (.ref cda) cc))).any (·.1) = false := by intro _; rfl)
    (hsw : ∀ L, swapsWith (.Call (.Attribute (.Call (.Name "super" p0) [] [] p1) "__init__" p2) (e :: es) [] p3) none p4.line (PySem.W.ksEnv qual scope L f (.ref cda) cc) = pure false := by intro _; rfl)
    {pl : Sem Bool} (hev : ∀ L, eval (.Call (.Attribute (.Call (.Name "super" p0) [] [] p1) "__init__" p2) (e :: es) [] p3) (PySem.W.ksEnv qual scope L f (.ref cda) cc) = (do
      let ov ← attributeBase (.Call (.Name "super" p0) [] [] p1) "__init__" (PySem.W.ksEnv qual scope L f (.ref cda) cc) (eval (.Call (.Name "super" p0) [] [] p1) (PySem.W.ksEnv qual scope L f (.ref cda) cc))
      standAt p2.atName
      let (f', first) ← holding [ov] (getMethod ov "__init__" pl)
      callWith p3 f' first (backTo p3 (starEach (e :: es) (PySem.W.ksEnv qual scope L f (.ref cda) cc))) []) := by intro _; rfl) :
    FnOk P w K mg base (L2.CX P w) (k + 1) f (PySem.W.ksFn name qual params (.Expr (.Call (.Attribute (.Call (.Name "super" p0) [] [] p1) "__init__" p2) (e :: es) [] p3) p4 :: rest) scope dV kV doc pm an (.ref cda) ct cc) ps (spIni C fs) := by
  have G : FnOk P w K mg base (L2.CX P w) (k + 1) f (PySem.W.ksFn name qual params (.Expr (.Call (.Attribute (.Call (.Name "super" p0) [] [] p1) "__init__" p2) (e :: es) [] p3) p4 :: rest) scope dV kV doc pm an (.ref cda) ct cc) ps (spIniG (fun _ => True) C fs) :=
    init_okG lk hcd S har hself hnf hfs hne (fun A outer s H E => by
      obtain ⟨t, h1, h2⟩ := hargs A outer s H E
      exact ⟨t, h1, fun vs hl _ H Q hq => h2 _ _ _ (fun i hi => by
        have hi' : i < vs.length := by omega
        refine ⟨vs[i], ?_⟩
        unfold L2.start
        rw [List.getElem?_append_left (by simpa using hi'), List.getElem?_map, List.getElem?_eq_getElem hi']
        rfl) hq⟩) hrest he hpl hsw hev
  exact G.imp fun vs H Q E h => ⟨True.intro, h⟩
end NK

namespace PySem.W
open PySem PySem.Spec PySem.Calls PyProof.Rows
section
variable {prog : Program} {w : World} {A : Around} {E : Value → Shared → Prop} {s : Shared} {K : Frag} {x D : Addr} {ox od : Obj}
end
end PySem.W
namespace NK
open PySem L2

def sRaise (k n : Nat) (ma : MA) : MS := fun env st => (ma env st).st env fun us st1 => if us.length = n then .exc ⟨k, us⟩ env st1 else .bad
section
variable {X : Cx} {T : Tb} {P : Pin} {Wx : WX} {e : Expr} {es : List Expr} {ma : MA} {pos pos' p : Pos}
theorem upd_del {H : Hp} {a d : Addr} {o1 o2 o3 : HO} (ha : H a = none) (hd : d ≠ a) : upd (del (upd (upd H d o1) a o2) a) d o3 = upd H d o3 := by
  funext b
  by_cases hb : b = d
  · rw [hb, upd_same, upd_same]
  · rw [upd_ne hb, upd_ne hb]
    by_cases hc : b = a
    · rw [hc, del_same, ha]
    · rw [del_ne hc, upd_ne hc, upd_ne hb]
theorem psm_raise {k kk n : Nat} {x : Str} {fI : Addr} {fd : FuncData} {ps : List Str} (hc : X.calm = true) (tk : Takes X Wx) (OT : OexC X.K (T.cls k)) (iC : PySem.W.findIn X.K (.ref (T.cls k)) "__init__" = some (some (.ref fI))) (tI : PySem.W.typeIn X.K (.ref fI) = some (.type "function"))
    (F1 : FnOk X.prog X.w X.K X.mg X.base (L2.CX X.prog X.w) kk fI fd ps (spIni (T.cls k) (T.fld k))) (hr : Room (kk + 1) X.A) (hb : Binds X.K fd ps []) (hg : Gl X x) (hm : X.mg x = some (.ref (T.cls k))) (hn : (T.fld k).length = n) (hsz : n ≤ 900) (ha : PAm X T P Wx (e :: es) ma)
    (hdb : (x == ("__debug__" : Str)) = false := by decide) (he : starEach (e :: es) X.env = (false, eval e X.env) :: starEach es X.env := by rfl) (hpl : (backTo pos (starEach es X.env)).any (·.1) = false := by rfl) :
    PSm X T P Wx (.Raise (some (.Call (.Name x p) (e :: es) [] pos)) none pos') (sRaise k n ma) :=
  PS.imp (ps_raise hc tk (pmk_oex OT iC tI F1 hr hb .nil (passes_call tk fun _ _ _ _ h => h.elim) hg hm ha hdb he hpl)) fun D σ H ⟨c, env, st, hH, hE, hR⟩ => by
    refine (ts_bind hH hE hR).mono fun vs H1 ⟨us, c1, st1, l1, hH1, hE1, r1, hR1⟩ => ?_
    split at hR1
    · rename_i hl
      have hvl : vs.length = n := by rw [← r1.length]; exact hl
      refine ⟨by omega, fun a na => ⟨by rw [List.append_nil, List.length_cons, hvl, hn], a, vs, H1, by rw [List.append_nil], na, rfl, fun d nd ne => ⟨rfl, d, _, upd_same, by rw [upd_ne ne, upd_same], nd, ?_⟩⟩⟩
      rw [upd_del na ne]
      refine hR1 (c1.still d _) _ _ σ _ (le_still hH1 nd _) (hH1.still nd _) (hE1.mono (le_still hH1 nd _)) ⟨rfl, d, vs, rfl, ?_, by rw [hvl, hn], r1.mono (le_still hH1 nd _)⟩
      show upd c1.F d _ d = _
      rw [upd_same]
    · exact hR1.elim

theorem zrl : ∀ {ps : List Str} {us : List V} {i : Nat} {x : Str} {u : V}, ps.Nodup → ps[i]? = some x → us[i]? = some u → (ps.zip us).reverse.lookup x = some u := by
  intro ps us i x u nd h1 h2
  have key : ∀ {l : List (Str × V)} {r : List (Str × V)}, (∀ v, (x, v) ∉ l) → (l ++ r).lookup x = r.lookup x := by
    intro l r
    induction l with
    | nil => intro _; rfl
    | cons a l ih =>
      intro h
      obtain ⟨y, v⟩ := a
      have ne : (x == y) = false := by
        rw [beq_eq_false_iff_ne]
        rintro rfl
        exact h v List.mem_cons_self
      simp only [List.cons_append, List.lookup, ne]
      exact ih fun v hv => h v (List.mem_cons_of_mem _ hv)
  induction ps generalizing us i with
  | nil => simp at h1
  | cons p ps ih =>
    cases us with
    | nil => simp at h2
    | cons w us =>
      have nd' := List.nodup_cons.mp nd
      simp only [List.zip_cons_cons, List.reverse_cons]
      cases i with
      | zero =>
        simp at h1 h2
        subst h1 h2
        rw [key fun v hv => nd'.1 (List.of_mem_zip (List.mem_reverse.mp hv)).1]
        simp [List.lookup]
      | succ i =>
        have q := ih (us := us) (i := i) nd'.2 (by simpa using h1) (by simpa using h2)
        have e : ∀ {l r : List (Str × V)}, l.lookup x = some u → (l ++ r).lookup x = some u := by
          intro l r
          induction l with
          | nil => intro h; cases h
          | cons a l ih2 =>
            intro h
            obtain ⟨y, v⟩ := a
            simp only [List.cons_append, List.lookup] at h ⊢
            split
            · rename_i hh; rw [hh] at h; exact h
            · rename_i hh; rw [hh] at h; exact ih2 h
        exact e q
end
end NK

set_option maxHeartbeats 4000000
namespace NK
section
open PySem PySem.Spec PyProof.Rows L2 PpSet
theorem addO_ok {X : Cx} {pins : List (Addr × Obj)} {σ : L2.St} {H : Hp} {s : Shared} {E : Value → Shared → Prop} {D : Addr} {S : Int → Bool} {n : Nat} {y : Int} {tk : Tok} {Q : Value → Shared → Prop} (I : Inv X pins σ H s) (hD : H D = some (SetO X.w D S n)) (room : n + 1 < scanBound)
    (h : ∀ s', Inv X pins σ (L2.upd H D (SetO X.w D (fun j => S j || decide (j = y)) (if S y = true then n else n + 1))) s' → Q .none s') : wpAny (model X.prog X.w) X.A (call (.builtin "set.add") [.ref D, .int y tk]) Q E s := by
  have R := setO_get I hD
  refine setR_add R room fun h' sb new => ?_
  have he : ∃ u, h'.get? D = some u := by
    have ⟨o, _, _, _, ho, _⟩ := new
    exact ⟨o, ho⟩
  exact h _ (I.write (e := D) (t' := s.toks + 1) (by rw [hD]; trivial) (.inl rfl) (fun b u hb hu => (sb.2 b hb).trans hu) he (setO_new new))
section
variable {X : Cx}
def tScI (w : World) (wi : TI) (g : TG) (tt : TT) (te : TE) (vs : List Nat) : TE := fun σ H Q => wi σ H fun J H1 => ∀ D, H1 D = none → ∃ W : Nat → Nat → Hp → Prop, (∃ m, W 0 m (upd H1 D (SetO w D (fun _ => false) 0))) ∧ ∀ i m H, W i m H →
  (J.stop i H ∧ Q (.ref D) H) ∨ (J.go i H ∧ ∃ Nx : Hp → Prop, (∀ H', Nx H' → ∃ m', m' < m ∧ W (i + 1) m' H') ∧ ∀ x H', J.yld i H x H' → g x (wipe σ vs) H' fun σ2 H2 => wipe σ2 vs = wipe σ vs ∧ tt σ2 H2 fun b H3 =>
    if b = true then te σ2 H3 fun y H4 => ∃ (c : Int) (S : Int → Bool) (n : Nat), y = .int c ∧ H4 D = some (SetO w D S n) ∧ n + 1 < scanBound ∧ Nx (upd H4 D (SetO w D (fun j => S j || decide (j = c)) (if S c = true then n else n + 1))) else Nx H3)
theorem scI_core {pins : List (Addr × Obj)} {s : Shared} {σ : L2.St} {H : Hp} {Q : VK} {elt tg iter : Expr} {ifs : List Expr} {scope : Scope} {own : List (PySem.Str × Nat)} {pos pos' : Pos} {wi : TI} {g : TG} {tt : TT} {te : TE} {use : Option (Value → Sem Unit)} {Qf : Value → Shared → Prop}
    (hc : X.calm = true) (hN : X.N.Nodup) (I : Inv X pins σ H s) (hi : PI X tg iter wi) (ok : BlkOk X.N X.env.scope scope own)
    (hg : ∀ (s : Shared) (H : Hp) (C : Addr) (cl : List (PySem.Str × Addr)) (fp : List Addr), PG (X.blk s H scope (compEnvC scope cl C X.env) fp) tg g) (ht : ∀ (s : Shared) (H : Hp) (C : Addr) (cl : List (PySem.Str × Addr)) (fp : List Addr), PTs (X.blk s H scope (compEnvC scope cl C X.env) fp) ifs tt)
    (he : ∀ (s : Shared) (H : Hp) (C : Addr) (cl : List (PySem.Str × Addr)) (fp : List Addr), PE (X.blk s H scope (compEnvC scope cl C X.env) fp) elt te) (hs : ∀ x, foldedSetIterable iter X.env x = pure x)
    (h : tScI X.w wi g tt te (own.map (·.2)) σ H Q)
    (hRR : ∀ D C s' m H', Inv X pins σ H' s' → Q (.ref D) H' → s'.heap.Ns C m → FpOk X pins H' C → compPost (model X.prog X.w) X.A X.xe use Qf (.ref D) C (.ok .next) s') :
    wpAny (model X.prog X.w) X.A (comprehension (.SetComp elt [⟨tg, iter, ifs, 0⟩] scope pos) scope X.env pos' (newSet (.type "set")) false (eval iter X.env) use) Qf X.xe s := by
  have hfree : ∀ y ∈ scope.names, y.2 = .free → ∃ c, X.env.cells.lookup y.1 = some c := fun y hy e => by
    rcases ok.free y hy e with k | k
    · exact I.ok.has _ (.inl k)
    · exact I.ok.has _ (.inr k)
  refine wpAny_comprehension_free (use := use) rfl hs (closure_ok hfree) ok.kind (fun y hy e => by rw [ok.uniq y hy, e])
    (thn (hi.run pins s σ H _ I h) fun xv s1 hx => thn hx fun itv s2 h2 => ?_)
  obtain ⟨it, fp, tn, J, H2, e, I2, T, st2, f2, q⟩ := h2
  subst e
  refine newSet_ok (newEnv_comp ?_)
  generalize hD : s2.heap.objs.size = D
  have hDn : H2 D = none := I2.hok.fresh (Nat.le_of_eq hD)
  obtain ⟨W, ⟨m0, w0⟩, turn⟩ := q D hDn
  -- the new list
  generalize hs3 : ({ s2 with heap := s2.heap.push { cls := .type "set", dict := none, data := .set #[] 0 (.fresh 0 0 (!X.w.params.followText "set-order")) } } : Shared) = s3
  have I3 : Inv X pins σ (upd H2 D (SetO X.w D (fun _ => false) 0)) s3 := by
    rw [← hs3]
    refine I2.laid (t' := s2.toks) (fun b o e => Heap.get?_push_of_some _ e) (Nat.le_of_eq hD) ?_
    rw [← hD]
    exact setO_new (setR_fresh X.w)
  have h3 : s3.heap = s2.heap.push { cls := .type "set", dict := none, data := .set #[] 0 (.fresh 0 0 (!X.w.params.followText "set-order")) } := by rw [← hs3]
  have sz : ∀ b ∈ fp, b < s2.heap.objs.size := fun b hb => by
    obtain ⟨o, e, _⟩ := T.obj _ _ st2 b hb
    exact Heap.lt_size e
  have f3 : ∀ b ∈ fp, FpOk X pins (upd H2 D (SetO X.w D (fun _ => false) 0)) b ∧ b < s3.heap.objs.size := fun b hb => by
    have hlt := sz b hb
    refine ⟨⟨?_, (f2 b hb).2⟩, by rw [h3, Heap.size_push]; exact Nat.lt_succ_of_lt hlt⟩
    rw [upd_ne (by rw [← hD]; exact Nat.ne_of_lt hlt)]
    exact (f2 b hb).1
  have st3 : tn 0 s3.heap := T.keep _ _ _ st2 fun b _ o e => by rw [h3]; exact Heap.get?_push_of_some _ e
  have I4 := block_start I3 ok hN f3
  have pg := hg s3 (upd H2 D (SetO X.w D (fun _ => false) 0)) s3.heap.objs.size (cellsFrom (s3.heap.objs.size + 1) scope.names (cloFrom X.env.cells scope.names [])) fp
  have pt := ht s3 (upd H2 D (SetO X.w D (fun _ => false) 0)) s3.heap.objs.size (cellsFrom (s3.heap.objs.size + 1) scope.names (cloFrom X.env.cells scope.names [])) fp
  have pe := he s3 (upd H2 D (SetO X.w D (fun _ => false) 0)) s3.heap.objs.size (cellsFrom (s3.heap.objs.size + 1) scope.names (cloFrom X.env.cells scope.names [])) fp
  show codeAny _ _ (.compStart (.SetComp elt [⟨tg, iter, ifs, 0⟩] scope pos) 0 (.ref it) (.ref D) (compEnvC scope (cellsFrom (s3.heap.objs.size + 1) scope.names (cloFrom X.env.cells scope.names [])) s3.heap.objs.size X.env)) (compPost (model X.prog X.w) X.A X.xe use Qf (.ref D) s3.heap.objs.size) { s3 with heap := pushCells (s3.heap.push { cls := .type "dict", data := .dict #[] }) scope.names }
  have nfp : ∀ b ∈ fp, (upd H2 D (SetO X.w D (fun _ => false) 0)) b = none := fun b hb => (f3 b hb).1.1
  generalize hce : compEnvC scope (cellsFrom (s3.heap.objs.size + 1) scope.names (cloFrom X.env.cells scope.names [])) s3.heap.objs.size X.env = ce at I4 pg pt pe ⊢
  have cL : ce.locals = s3.heap.objs.size := by subst hce; rfl
  generalize hH3 : upd H2 D (SetO X.w D (fun _ => false) 0) = H3 at I3 I4 pg pt pe w0 nfp f3
  generalize hs4 : ({ s3 with heap := pushCells (s3.heap.push { cls := .type "dict", data := .dict #[] }) scope.names } : Shared) = s4 at I4 ⊢
  have st4 : tn 0 s4.heap := T.keep _ _ _ st3 fun b _ o e => by rw [← hs4]; exact pushCells_keeps _ _ _ _ (Heap.get?_push_of_some _ e)
  have stat : ∀ {σ' : L2.St} {H' : Hp} {s' : Shared}, Inv (X.blk s3 H3 scope ce fp) [] σ' H' s' → (∀ b ∈ fp, H' b = none) → ∀ b ∈ fp, FpOk (X.blk s3 H3 scope ce fp) [] H' b := fun {σ' H' s'} I' hn b hb =>
    ⟨hn b hb, (I'.ok.exf b hb).1, I'.ok.exfs b hb, .inl hb, fun x c e => (I'.ok.exf b hb).2 x c e, fun p hp => absurd (show p ∈ ([] : List (Addr × Obj)) ++ [] from hp) (by simp)⟩
  have loop : codeAny (model X.prog X.w) X.A (.compLoop (.SetComp elt [⟨tg, iter, ifs, 0⟩] scope pos) 0 (.ref it) (.ref D) ce) (compPost (model X.prog X.w) X.A X.xe use Qf (.ref D) s3.heap.objs.size) s4 := by
    refine compLoopS_any (fun n s' => ∃ i H', Inv (X.blk s3 H3 scope ce fp) [] (wipe σ (own.map (·.2))) H' s' ∧ tn i s'.heap ∧ (∀ b ∈ fp, H' b = none) ∧ W i n H') ?_ m0 ⟨0, H3, I4, st4, nfp, w0⟩
    rintro n s5 ⟨i, H5, I5, st5, n5, w5⟩
    rcases turn i n H5 w5 with ⟨stop, qq⟩ | ⟨go, Nx, hNx, step⟩
    · have td := T.done (X.blk s3 H3 scope ce fp) rfl rfl rfl hc i [] s5 _ H5 (fun _ _ => False) I5 (stat I5 n5) st5 stop
      refine thnF td fun r s6 ⟨hr, I6⟩ => ?_
      subst hr
      -- back in the def's context
      have I7 : Inv X pins σ H5 s6 := I3.call' (ch := fp) I6.os I6.base I6.hok I6.bare fun b hb => ⟨(f3 b hb).1.2.2.2.1, (f3 b hb).1.2.1, (f3 b hb).1.2.2.2.2.1, (f3 b hb).1.2.2.2.2.2⟩
      have nC : H5 s3.heap.objs.size = none := by
        have z : H5 ce.locals = none := I6.free
        rw [cL] at z
        exact z
      obtain ⟨m, hn, _⟩ := I6.loc
      have hn : s6.heap.Ns ce.locals m := hn
      rw [cL] at hn
      exact hRR D s3.heap.objs.size s6 m H5 I7 qq hn (I3.fpOk (Nat.le_refl _) nC)
    · have ti := T.item (X.blk s3 H3 scope ce fp) rfl rfl rfl hc i [] s5 _ H5 (fun _ _ => False) I5 (stat I5 n5) st5 go
      refine thnF ti fun r s6 ⟨u, hr, h6⟩ => ?_
      subst hr
      refine thnF h6 fun _ s7 ⟨x, H7, I7, r7, y7, st7, n7⟩ => ?_
      have I7' := I7.pinned (stat I7 n7) (T.obj _ _ st7)
      refine thnF (pg.run _ s7 _ H7 x u _ I7' r7 (step x H7 y7)) fun _ s8 ⟨σ8, H8, I8, hw8, q8⟩ => ?_
      refine thnF (pt.run _ s8 σ8 H8 _ I8 q8) fun b s9 ⟨H9, I9, q9⟩ => ?_
      -- the turn's end
      have fin : ∀ {s' : Shared} {H' : Hp}, Inv (X.blk s3 H3 scope ce fp) ([] ++ pinsAt fp s7.heap) σ8 H' s' → Nx H' → ∃ m, m < n ∧ ∃ i H', Inv (X.blk s3 H3 scope ce fp) [] (wipe σ (own.map (·.2))) H' s' ∧ tn i s'.heap ∧ (∀ b ∈ fp, H' b = none) ∧ W i m H' := fun {s' H'} I' nx => by
        obtain ⟨m', hm, w'⟩ := hNx H' nx
        have pin' : ∀ b ∈ fp, ∀ o, s7.heap.get? b = some o → s'.heap.get? b = some o ∧ H' b = none := fun b hb o e =>
          let z := I'.pin (b, o) (List.mem_append_right _ (List.mem_append_right _ (mem_pinsAt hb e)))
          ⟨z.1, z.2.1⟩
        have hl : (wipe σ (own.map (·.2))).length = σ8.length := by rw [← hw8, wipe_length]
        refine ⟨m', hm, i + 1, H', (I'.unpinned (pins := [])).weak hl (fun j v e => ?_), T.keep _ _ _ st7 fun b hb o e => (pin' b hb o e).1, fun b hb => ?_, w'⟩
        · rw [← hw8] at e
          exact (wipe_some e).1
        · obtain ⟨o, e, _⟩ := T.obj _ _ st7 b hb
          exact (pin' b hb o e).2
      cases b with
      | false =>
        simp only [Bool.false_eq_true, if_false] at q9 ⊢
        exact fin I9 q9
      | true =>
        simp only [if_true] at q9 ⊢
        refine thnF (pe.run _ s9 σ8 H9 _ I9 q9) fun z s10 ⟨yv, H10, I10, r10, cb, S0, n0, ey, hD10, hz10, nx⟩ => ?_
        subst ey
        obtain ⟨tkz, rfl⟩ := (show ∃ t, z = Value.int cb t from r10)
        exact addO_ok (X := X.blk s3 H3 scope ce fp) I10 hD10 hz10 fun s11 I11 => fin I11 nx
  exact codeAny_compStart_set loop (T.self X.A 0 _ _ _ st4 loop)
theorem pe_scI {elt tg iter : Expr} {ifs : List Expr} {scope : Scope} {own : List (PySem.Str × Nat)} {pos : Pos} {wi : TI} {g : TG} {tt : TT} {te : TE} (hc : X.calm = true) (hN : X.N.Nodup) (hi : PI X tg iter wi) (ok : BlkOk X.N X.env.scope scope own)
    (hg : ∀ (s : Shared) (H : Hp) (C : Addr) (cl : List (PySem.Str × Addr)) (fp : List Addr), PG (X.blk s H scope (compEnvC scope cl C X.env) fp) tg g) (ht : ∀ (s : Shared) (H : Hp) (C : Addr) (cl : List (PySem.Str × Addr)) (fp : List Addr), PTs (X.blk s H scope (compEnvC scope cl C X.env) fp) ifs tt)
    (he : ∀ (s : Shared) (H : Hp) (C : Addr) (cl : List (PySem.Str × Addr)) (fp : List Addr), PE (X.blk s H scope (compEnvC scope cl C X.env) fp) elt te) (hs : ∀ x, foldedSetIterable iter X.env x = pure x := by intro _; rfl) :
    PE X (.SetComp elt [⟨tg, iter, ifs, 0⟩] scope pos) (tScI X.w wi g tt te (own.map (·.2))) := by
  refine ⟨fun pins s σ H Q I h => ?_⟩
  rw [eval_SetComp]
  refine scI_core hc hN I hi ok hg ht he hs h fun D C s' m H' I' q hn f => ⟨m, hn, fun h'' sb => ?_⟩
  obtain ⟨f0, f1, f2, f3, f4, f5⟩ := f
  exact ⟨.ref D, H', I'.turned (t' := s'.toks) (fun b o hb e => (sb.2 b hb).trans e) f0 f1 f3 f4 f5, rfl, q⟩
end
end
end NK

set_option maxHeartbeats 2000000
namespace NK
open PySem L2

def valU {κ : Type} [DecidableEq κ] (kvs : List (κ × U)) (k : κ) : Option U := (kvs.find? fun kv => decide (kv.1 = k)).map (·.2)
def putU {κ : Type} [DecidableEq κ] (kvs : List (κ × U)) (k : κ) (v : U) : List (κ × U) :=
  if (kvs.any fun kv => decide (kv.1 = k)) = true then kvs.map (fun kv => if kv.1 = k then (kv.1, v) else kv) else kvs ++ [(k, v)]
def keyU (u : U) : Option Key := match u with
  | .int i => some (.inl i)
  | .str x => some (.inr x)
  | _ => none
section
variable {κ : Type} [DecidableEq κ] {T : Tb} {c : Cn}
theorem RpK.length : ∀ {us : List (κ × U)} {vs : List (κ × V)}, RpK T c us vs → us.length = vs.length
  | _, _, .nil => rfl
  | _, _, .cons _ t => by simp [RpK.length t]
theorem RpK.any : ∀ {us : List (κ × U)} {vs : List (κ × V)} (k : κ), RpK T c us vs → (us.any fun kv => decide (kv.1 = k)) = (vs.any fun kv => decide (kv.1 = k))
  | _, _, _, .nil => rfl
  | _, _, k, .cons _ t => by simp only [List.any_cons, RpK.any k t]
theorem RpK.val : ∀ {us : List (κ × U)} {vs : List (κ × V)} {k : κ}, RpK T c us vs → (∀ u, valU us k = some u → ∃ v, valV vs k = some v ∧ Rp T c u v) ∧ (valU us k = none → valV vs k = none)
  | _, _, _, .nil => ⟨fun u h => by simp [valU] at h, fun _ => rfl⟩
  | _, _, k, .cons (k := k') (u := u0) (v := v0) (us := us) (vs := vs) r t => by
    obtain ⟨h1, h2⟩ := RpK.val (k := k) t
    by_cases e : k' = k
    · subst e
      refine ⟨fun u h => ?_, fun h => ?_⟩
      · simp [valU] at h
        subst h
        exact ⟨v0, by simp [valV], r⟩
      · simp [valU] at h
    · have a : valU ((k', u0) :: us) k = valU us k := by simp [valU, List.find?, e]
      have b : valV ((k', v0) :: vs) k = valV vs k := by simp [valV, List.find?, e]
      rw [a, b]
      exact ⟨h1, h2⟩
theorem RpK.mapPut (k : κ) {u : U} {v : V} (q : Rp T c u v) : ∀ {us : List (κ × U)} {vs : List (κ × V)}, RpK T c us vs → RpK T c (us.map fun kv => if kv.1 = k then (kv.1, u) else kv) (vs.map fun kv => if kv.1 = k then (kv.1, v) else kv)
  | _, _, .nil => .nil
  | _, _, .cons (k := k') r t => by
    simp only [List.map_cons]
    by_cases e : k' = k
    · rw [if_pos e, if_pos e]; exact .cons q (RpK.mapPut k q t)
    · rw [if_neg e, if_neg e]; exact .cons r (RpK.mapPut k q t)
theorem RpK.snoc {k : κ} {u : U} {v : V} (q : Rp T c u v) : ∀ {us : List (κ × U)} {vs : List (κ × V)}, RpK T c us vs → RpK T c (us ++ [(k, u)]) (vs ++ [(k, v)])
  | _, _, .nil => .cons q .nil
  | _, _, .cons r t => .cons r (RpK.snoc q t)
theorem RpK.put {us : List (κ × U)} {vs : List (κ × V)} {u : U} {v : V} (k : κ) (h : RpK T c us vs) (q : Rp T c u v) : RpK T c (putU us k u) (putK vs k v) := by
  unfold putU putK
  rw [h.any k]
  by_cases a : (vs.any fun kv => decide (kv.1 = k)) = true
  · rw [if_pos a, if_pos a]; exact h.mapPut k q
  · rw [if_neg a, if_neg a]; exact h.snoc q
theorem key_at {u : U} {v : V} {k : Key} (r : Rp T c u v) (e : keyU u = some k) : v = kV k := by
  cases u with
  | int i => cases e; cases r; rfl
  | str x => cases e; cases r; rfl
  | _ => cases e
end
def dictAt (u : U) (st : Sto) : Option (Nat × List (Key × U)) := match u with
  | .loc i => match st[i]? with
    | some (.dK kvs) => some (i, kvs)
    | _ => none
  | _ => none
theorem dict_at {T : Tb} {c : Cn} {st : Sto} {H : Hp} (h : RH T c st H) {u : U} {v : V} {i : Nat} {kvs : List (Key × U)} (r : Rp T c u v) (e : dictAt u st = some (i, kvs)) : u = .loc i ∧ st[i]? = some (.dK kvs) ∧ ∃ vs, v = .ref (c.ρ i) ∧ H (c.ρ i) = some (.dK vs) ∧ RpK T c kvs vs := by
  cases u with
  | loc j =>
    obtain ⟨_, rfl⟩ := r.inv_loc
    dsimp only [dictAt] at e
    split at e
    · rename_i kvs' q
      cases e
      obtain ⟨vs, h1, h2⟩ := h.at_dK q
      exact ⟨rfl, q, vs, rfl, h1, h2⟩
    · cases e
  | _ => cases e
def dictRd (u : U) (st : Sto) : Option (List (Key × U)) := match u with
  | .loc i => match st[i]? with
    | some (.dK kvs) => some kvs
    | some (.lk (.dK kvs)) => some kvs
    | _ => none
  | _ => none
theorem dictRd_at {T : Tb} {c : Cn} {st : Sto} {H : Hp} (h : RH T c st H) {u : U} {v : V} {kvs : List (Key × U)} (r : Rp T c u v) (e : dictRd u st = some kvs) : ∃ a vs, v = .ref a ∧ Rd H a (.dK vs) ∧ RpK T c kvs vs := by
  cases u with
  | loc j =>
    obtain ⟨_, rfl⟩ := r.inv_loc
    dsimp only [dictRd] at e
    split at e
    · rename_i kvs' q
      cases e
      obtain ⟨vs, h1, h2⟩ := h.at_dK q
      exact ⟨_, vs, rfl, .inl h1, h2⟩
    · rename_i kvs' q
      cases e
      obtain ⟨y, h1, ⟨od, x, rfl, _, vs, rfl, h2⟩, _⟩ := h.act j _ q (fun z => nomatch z)
      exact ⟨_, vs, rfl, .inr ⟨od, h1⟩, h2⟩
    · cases e
  | _ => cases e
def eDict : ME := fun _ st => .ok (.loc st.length) (st ++ [.dK []])
def fDGet (o i : U) (st : Sto) : Out U := match dictRd o st, keyU i with
  | some kvs, some k => match valU kvs k with
    | some w => .ok w st
    | none => .bad
  | _, _ => .bad
def fDIn (neg : Bool) (i o : U) (st : Sto) : Out U := match dictRd o st, keyU i with
  | some kvs, some k => .ok (.bl ((valU kvs k).isSome != neg)) st
  | _, _ => .bad
def dput (o i w : U) (st : Sto) : Option Sto := match dictAt o st, keyU i with
  | some (n, kvs), some k => if kvs.length < 16777216 then some (st.set n (.dK (putU kvs k w))) else none
  | _, _ => none
def sDPut (mo mi m : ME) : MS := fun env st => (m env st).st env fun w st1 => (mo env st1).st env fun o st2 => (mi env st2).st env fun i st3 => match dput o i w st3 with
  | some st4 => .next env st4
  | none => .bad
section
variable {X : Cx} {T : Tb} {P : Pin} {Wx : WX} {o i e value : Expr} {es : List Expr} {mo mi m ma mb : ME} {mas : MA} {pos pos' apos p p2 : Pos}
theorem pem_dict : PEm X T P Wx (.Dict [] [] pos) eDict := PE.imp pe_dnewK fun σ H Q ⟨c, env, st, hH, hE, hR⟩ p hp => by
  have l := le_new c p
  have hlt : st.length < (c.new p).n := by show _ < c.n + 1; rw [hH.n]; exact Nat.lt_succ_self _
  have e : V.ref p = V.ref ((c.new p).ρ st.length) := by rw [← hH.n, new_self]
  rw [e]
  exact hR _ _ _ l (hH.new hp (o := .dK []) (x := .dK []) ⟨[], rfl, .nil⟩) (.loc hlt)
theorem units1 {k : Nat} {A : Around} (r : Room k A) : A.units + 1 < cLine := by have := r.units; omega
theorem pem_dget (hu : X.A.units + 1 < cLine) (ho : PEm X T P Wx o mo) (hi : PEm X T P Wx i mi) (hs : NoSl i) : PEm X T P Wx (.Subscript o i pos) (eOp fDGet mo mi) := PE.imp (pe_dget hu ho hi hs) fun σ H Q ⟨c, env, st, hH, hE, hR⟩ => by
  refine (tg_bind hH hE hR).mono fun x H1 ⟨u, c1, st1, l1, hH1, hE1, r1, hR1⟩ => ?_
  refine (tg_bind hH1 hE1 hR1).mono fun y H2 ⟨w, c2, st2, l2, hH2, hE2, r2, hR2⟩ => ?_
  unfold fDGet at hR2
  split at hR2
  · rename_i kvs k e1 e2
    obtain ⟨a, vs, rfl, h1, h2⟩ := dictRd_at hH2 (r1.mono l2) e1
    cases key_at r2 e2
    split at hR2
    · rename_i w' e3
      obtain ⟨v, hv, rv⟩ := h2.val.1 _ e3
      exact ⟨_, v, rfl, by rw [← hv]; exact .inl ⟨vs, k, h1, rfl, rfl⟩, hR2.ret hH2 rv⟩
    · exact hR2.elim
  · exact hR2.elim
theorem din_run {neg : Bool} (σ : L2.St) (H : Hp) (Q : VK) (h : teOf T P Wx (eOp (fDIn neg) mi mo) σ H Q) : teOf T P Wx mi σ H fun y H1 => teOf T P Wx mo σ H1 fun x H2 => ∃ a o, x = .ref a ∧ DGet H2 a y o ∧ Q (.bl (o.isSome != neg)) H2 := by
  obtain ⟨c, env, st, hH, hE, hR⟩ := h
  refine (tg_bind hH hE hR).mono fun x H1 ⟨u, c1, st1, l1, hH1, hE1, r1, hR1⟩ => ?_
  refine (tg_bind hH1 hE1 hR1).mono fun y H2 ⟨w, c2, st2, l2, hH2, hE2, r2, hR2⟩ => ?_
  unfold fDIn at hR2
  split at hR2
  · rename_i kvs k e1 e2
    obtain ⟨a, vs, rfl, h1, h2⟩ := dictRd_at hH2 r2 e1
    cases key_at (r1.mono l2) e2
    refine ⟨_, _, rfl, .inl ⟨vs, k, h1, rfl, rfl⟩, ?_⟩
    have e3 : (valU kvs k).isSome = (valV vs k).isSome := by
      cases q : valU kvs k with
      | none => rw [h2.val.2 q]; rfl
      | some u => obtain ⟨v, hv, _⟩ := h2.val.1 _ q; rw [hv]; rfl
    rw [e3] at hR2
    exact hR2.ret hH2 (.bl _)
  · exact hR2.elim
theorem pcm_dnotin (hu : X.A.units + 1 < cLine) (hi : PEm X T P Wx i mi) (ho : PEm X T P Wx o mo) : PC X .NotIn i o (teOf T P Wx (eOp (fDIn true) mi mo)) := ⟨fun pins s σ H Q I h => (pc_dnotin hu hi ho).run pins s σ H Q I ((din_run (neg := true) σ H Q h).mono fun y H1 h => tgOf.mono h fun x H2 ⟨a, o, e, g, q⟩ => ⟨a, o, e, g, by simpa using q⟩)⟩
theorem ptm_pc {op : CmpOp} {a b : Expr} (h : PC X op a b (teOf T P Wx m)) (h1 : behindInMarks op b = false := by first | exact nobehind _ (by decide) (by decide) | rfl) : PTm X T P Wx (.Compare a [op] [b] pos) (NK.tB m) := PT.imp (pt_cmp h h1) (test_run fun _ _ _ h => h)
theorem psm_dput {s : Stmt} (h : PS X s (L2.sDPut (teOf T P Wx mo) (teOf T P Wx mi) (teOf T P Wx m))) : PSm X T P Wx s (NK.sDPut mo mi m) :=
  PS.imp h fun D σ H ⟨c, env, st, hH, hE, hR⟩ => by
    refine (ts_bind hH hE hR).mono fun x H1 ⟨w, c1, st1, l1, hH1, hE1, r1, hR1⟩ => ?_
    refine (ts_bind hH1 hE1 hR1).mono fun y H2 ⟨o, c2, st2, l2, hH2, hE2, r2, hR2⟩ => ?_
    refine (ts_bind hH2 hE2 hR2).mono fun z H3 ⟨i, c3, st3, l3, hH3, hE3, r3, hR3⟩ => ?_
    split at hR3
    · rename_i st4 q
      unfold dput at q
      split at q
      · rename_i n kvs k e1 e2
        obtain ⟨rfl, q0, vs, e0, h1, h2⟩ := dict_at hH3 (r2.mono l3) e1
        cases key_at r3 e2
        split at q
        · rename_i hz
          cases q
          refine ⟨_, _, e0, DPut.k h1 (by rw [szl, ← h2.length]; exact hz), ?_⟩
          exact ResS.go (D := D) hR3 (hH3.set q0 (fun z => nomatch z) ⟨_, rfl, h2.put k ((r1.mono l2).mono l3)⟩) hE3
        · cases q
      · cases q
    · exact hR3.elim

def fLenO : List U → Sto → Out U := fun us st => match us with
  | [.loc i] => match st[i]? with
    | some (.dK kvs) => .ok (.int kvs.length) st
    | some (.iset ks) => .ok (.int ks.length) st
    | _ => .bad
  | _ => .bad
def rLenO (w : World) : List V → Hp → VK → Prop := fun xs H Q => ∃ a, xs = [.ref a] ∧ ((∃ kvs : List (Key × V), H a = some (.dK kvs) ∧ Q (.int kvs.length) H) ∨ ∃ S n, H a = some (SetO w a S n) ∧ Q (.int n) H)
open PySem PyProof.Rows in
theorem call_lenO : CallR X (.builtin "len") (rLenO X.w) := by
  intro pins s σ H xs us Q I r h
  obtain ⟨a, rfl, h⟩ := h
  obtain ⟨u, rfl, rx⟩ := vals1 r
  cases rx
  rcases h with ⟨kvs, h1, q⟩ | ⟨S, n, h1, q⟩
  · exact d_len I (.inl h1) fun t s' I' => ⟨.int kvs.length, H, I', ⟨_, rfl⟩, q⟩
  · obtain ⟨o, es, ep, t, ho, hex, hd, _, _, hl, hf, hn⟩ := (setO_get I h1).setOf (P := X.prog)
    have hsz : (es.size : Int) < 2 ^ 63 := by
      have hl := hl
      have : scanBound = 4096 := rfl
      omega
    exact call_len_set ho hex hd hf hsz ⟨.int n, H, I.tok _, ⟨_, by rw [hn]⟩, q⟩
theorem sim_lenO : CallSim T (rLenO T.w) fLenO := fun Wx c σ st H us xs Q hH r hR => by
  unfold fLenO at hR
  split at hR
  · rename_i i
    obtain ⟨v, vs, rfl, r1, t⟩ := r.inv_cons
    cases t.inv_nil
    obtain ⟨_, rfl⟩ := r1.inv_loc
    split at hR
    · rename_i kvs q
      obtain ⟨vs, h1, h2⟩ := hH.at_dK q
      refine ⟨_, rfl, .inl ⟨vs, h1, ?_⟩⟩
      rw [← h2.length]
      exact hR.ret hH (.int _)
    · rename_i ks q
      obtain ⟨o, h1, h2, _⟩ := hH.act i _ q (fun z => nomatch z)
      have h2' : o = SetO T.w (c.ρ i) (fun k => decide (k ∈ ks)) ks.length := h2
      subst h2'
      exact ⟨_, rfl, .inr ⟨_, _, h1, hR.ret hH (.int _)⟩⟩
    · exact hR.elim
  · exact hR.elim

def isK (k : Nat) (u : U) (st : Sto) : Bool := match asIns u st with
  | some (k', _) => k' == k
  | none => false
def eMeth (k n : Nat) (mf : MF) (dus : List U) (mo : ME) (ma : MA) : ME := fun env st => (mo env st).bind fun o st1 => if isK k o st1 = true then (ma env st1).bind fun us st2 => if (o :: (us ++ dus)).length = n then mf (o :: (us ++ dus)) st2 else .bad else .bad
theorem isK_at {c : Cn} {st : Sto} {H : Hp} (h : RH T c st H) {k : Nat} {u : U} {v : V} (r : Rp T c u v) (e : isK k u st = true) : ∃ a dx vs, v = .ref a ∧ H a = some (.ins (T.cls k) dx ((T.fld k).zip vs)) := by
  unfold isK at e
  split at e
  · rename_i k' us q
    cases beq_iff_eq.mp e
    obtain ⟨a, dx, vs, h1, h2, _⟩ := asIns_at h r q
    exact ⟨a, dx, vs, h1, h2⟩
  · cases e
section
variable {kk k n : Nat} {f C : Addr} {fd : FuncData} {ps : List Str} {mf : MF} {dus : List U} {dvs : List V} {ds : List Value} {x mn : Str} {sp : Sp}
theorem RH.grow {c : Cn} {st : Sto} {H : Hp} (h : RH T c st H) {p : Addr} (hp : H p = none) (o : HO) : RH T c st (L2.upd H p o) := by
  refine ⟨h.n, fun a u e => ?_, fun i ob e d => ?_, h.inj, fun a u e => ⟨by rw [upd_ne (h.lk_new hp e)]; exact (h.lkd a u e).1, (h.lkd a u e).2⟩, fun q hq => (h.tab q hq).mono (fun _ _ z => z) (tbl_upd (.inl hp) ·), h.ntb⟩
  · rw [upd_ne (fun z => by rw [z, h.F_new hp] at e; cases e)]
    exact h.sub a u e
  · obtain ⟨x, h1, h2, h3⟩ := h.act i ob e d
    exact ⟨x, by rw [upd_ne (h.ne_new hp e d)]; exact h1, h2, h3⟩
def eMake (k n : Nat) (mf : MF) (dus : List U) (ma : MA) : ME := fun env st => (ma env st).bind fun us st1 => if (U.loc st1.length :: (us ++ dus)).length = n then (mf (.loc st1.length :: (us ++ dus)) (st1 ++ [.ins k []])).bind fun r st2 => match r with
  | .non => .ok (.loc st1.length) st2
  | _ => .bad else .bad
theorem run_makeSD {CX : CXT} {E : L2.St → XK} {pins : List (Addr × Obj)} {σ : L2.St} {H : Hp} {s : Shared} {Q : VK} {us : List Value} {vs : List V} (M : Mk X.K C f) (F : FnOk X.prog X.w X.K X.mg X.base CX kk f fd ps sp) (hr : Room (kk + 1) X.A) (hb : Binds X.K fd ps ds) (hd : Vals dvs ds)
    (hx : PassesAt CX X σ (E σ)) (I : Inv X pins σ H s) (r : Vals vs us)
    (h : ∀ x dx, H x = none → H dx = none → dx ≠ x → sp (.ref x :: (vs ++ dvs)) (L2.upd (L2.upd H dx (.own x)) x (.ins C dx [])) (fun v H2 => v = .non ∧ Q (.ref x) H2) (E σ)) :
    wpAny (model X.prog X.w) X.A (call (.ref C) us) (EP X pins σ Q) X.xe s := by
  have hq := h (s.heap.objs.size + 1) s.heap.objs.size (I.hok.fresh (Nat.le_succ _)) (I.hok.fresh (Nat.le_refl _)) (Nat.ne_of_lt (Nat.lt_succ_self _))
  have I2 := Inv.made (C := C) I
  have r2 : Vals (V.ref (s.heap.objs.size + 1) :: (vs ++ dvs)) (Value.ref (s.heap.objs.size + 1) :: (us ++ ds)) := .cons rfl (r.append hd)
  have hl : (Value.ref (s.heap.objs.size + 1) :: us ++ ds).length = ps.length := by
    have e := r2.length
    rw [F.len _ _ _ _ hq] at e
    exact e.symm
  refine wpAny_call (L2.make_map (f := f) I.kIn M.makes M.init (beq_iff_eq.mp M.fn) (codeAny_mono (F.run _ X.stack _ _ ⟨Value.ref (s.heap.objs.size + 1) :: us, []⟩ (Value.ref (s.heap.objs.size + 1) :: (us ++ ds)) _ _ (E σ) (hr.make C us [])
    (I2.env0.make C us []) (hb _ (Value.ref (s.heap.objs.size + 1) :: us) I2.kIn hl) r2 hq) fun r s' hq' => ?_))
  cases r with
  | error e => exact hx pins _ _ e s' I2 hq'
  | ok fl =>
    cases fl with
    | ret u =>
      obtain ⟨v, H', I3, rv, ev, q3⟩ := I2.after hq'
      subst ev
      exact ⟨rv, ⟨V.ref (s.heap.objs.size + 1), H', I3, rfl, q3⟩⟩
    | next => exact False.elim hq'
    | brk => exact False.elim hq'
    | cont => exact False.elim hq'
theorem pem_make (tk : Takes X Wx) (M : Mk X.K (T.cls k) f) (F : FnOk X.prog X.w X.K X.mg X.base (L2.CX X.prog X.w) kk f fd ps (spOf T n mf)) (hr : Room (kk + 1) X.A) (hg : Gl X x) (hm : X.mg x = some (.ref (T.cls k))) (hb : Binds X.K fd ps ds) (hd : Vals dvs ds) (hdr : ∀ c, RpL T c dus dvs)
    (ha : PAm X T P Wx (e :: es) mas) (hdb : (x == ("__debug__" : Str)) = false := by decide) (he : starEach (e :: es) X.env = (false, eval e X.env) :: starEach es X.env := by rfl) (hpl : (backTo pos (starEach es X.env)).any (·.1) = false := by rfl) :
    PEm X T P Wx (.Call (.Name x p) (e :: es) [] pos) (eMake k n mf dus mas) := by
  refine ⟨fun pins s σ H Q I ⟨c, env, st, hH, hE, hR⟩ => ?_⟩
  refine wpAny_Call_Name_kw (ld_glob I hg hm ?_ hdb)
  refine PySem.W.callWith_K (h₀ := X.base) I.ok.mod.kin M.kp (thn (ha.run pos pins s σ H _ I (tg_bind hH hE hR)) fun us s1 ⟨vs, H1, I1, r, us', c1, st1, l1, hH1, hE1, r1, hR1⟩ => ⟨I1.kIn, ?_⟩) he hpl
  split at hR1
  · rename_i hl
    refine run_makeSD (E := fun σ cls d H => Wx cls d σ H) M F hr hb hd (passAt tk σ) I1 r fun x dx nx nd ne => ?_
    have hH2 := hH1.grow nd (.own x)
    have nx2 : L2.upd H1 dx (.own x) x = none := by rw [upd_ne (Ne.symm ne)]; exact nx
    have hH3 := hH2.new nx2 (o := .ins k []) (x := .ins (T.cls k) dx []) ⟨dx, [], by simp, Nat.zero_le _, .nil⟩
    have l2 := le_new c1 x
    have hlt : st1.length < (c1.new x).n := by show _ < c1.n + 1; rw [hH1.n]; exact Nat.lt_succ_self _
    have ex : V.ref x = V.ref ((c1.new x).ρ st1.length) := by rw [← hH1.n, new_self]
    have r3 : RpL T (c1.new x) (.loc st1.length :: (us' ++ dus)) (.ref x :: (vs ++ dvs)) := .cons (by rw [ex]; exact .loc hlt) ((r1.mono l2).append (hdr _))
    refine ⟨by rw [← hl]; exact r3.length.symm, c1.new x, _, _, hH3, r3, ?_⟩
    cases q : mf (.loc st1.length :: (us' ++ dus)) (st1 ++ [.ins k []]) with
    | ok u st2 =>
      rw [q] at hR1
      intro c3 v H3 l3 hH4 r4
      cases u with
      | non =>
        cases r4.inv_non
        refine ⟨rfl, ?_⟩
        rw [ex, ← l3.ρ _ hlt]
        exact hR1 c3 _ H3 (l2.trans l3) hH4 (.loc (Nat.lt_of_lt_of_le hlt l3.n))
      | _ => exact hR1.elim
    | exc x2 st2 =>
      rw [q] at hR1
      exact fun c3 cls d H3 l3 hH4 e4 => hR1 c3 cls d H3 (l2.trans l3) hH4 e4
    | bad => rw [q] at hR1; exact hR1.elim
  · exact hR1.elim
end
end
end NK

namespace PySem
open AutoSeq1 (wpAny_loadPart')
theorem nk_enumerate_newT (l : Addr) (items : Array Value) (n : Nat) (dct : Option Addr) (sl : Array (Option Value)) :
    Meets (Builtin.«enumerate.__new__» ⟨[.type "enumerate", .ref l], []⟩) (fun _ R s => s.heap.get? l = some { cls := .type "tuple", dict := dct, data := .seq items n, slots := sl } ∧
      R (.ok (.ret (.ref (s.heap.push { cls := .type "tuple_iterator", data := .fields #[.ref l, .int 0 0] }).objs.size)))
        { s with heap := (s.heap.push { cls := .type "tuple_iterator", data := .fields #[.ref l, .int 0 0] }).push { cls := .type "enumerate", data := .fields #[.none, .bool false, .ref s.heap.objs.size, rawInt 0, .none, .none] } }) :=
  .of_wp fun prog w A R s h => by
    obtain ⟨hp, g, d, tk, os⟩ := s; obtain ⟨hl, h⟩ := h
    have hsub := sub_enumerate
    have hL : Heap.IsTuple (Shared.heap ⟨hp, g, d, tk, os⟩) l items := ⟨_, hl, rfl, n, rfl⟩
    wp_walk using wpAny_loadPart' hl
    refine wpAny_stack_any fun st => wpAny_pure ?_
    split
    · rename_i c _ _ _ _ _
      cases (c == Value.type "enumerate")
      · wp_walk using wpAny_loadPart' hl, wpAny_pyIter_tuple hL
        exact ⟨_, rfl, h⟩
      · wp_walk using wpAny_loadPart' hl, wpAny_pyIter_tuple hL
        exact ⟨_, rfl, h⟩
    · wp_walk using wpAny_loadPart' hl, wpAny_pyIter_tuple hL
      exact ⟨_, rfl, h⟩
section
variable {prog : Program} {w : World} {A : Around} {E : Value → Shared → Prop} {s : Shared}
theorem nk_call_enumerate_tuple {l : Addr} {items : Array Value} {Q : Value → Shared → Prop} (hL : s.heap.IsTuple l items)
    (h : ∀ h', IsEnum h' (s.heap.objs.size + 1) s.heap.objs.size 0 .none → h'.IsTupleIter s.heap.objs.size l 0 → h'.objs.size = s.heap.objs.size + 2 →
      (∀ b o, s.heap.get? b = some o → h'.get? b = some o) → Q (.ref (s.heap.objs.size + 1)) { s with heap := h' }) :
    wpAny (model prog w) A (call (.type "enumerate") [.ref l]) Q E s := by
  obtain ⟨⟨c, dct, dt, sl⟩, hl, hc, n, hd⟩ := hL
  replace hc : c = .type "tuple" := hc
  replace hd : dt = .seq items n := hd
  subst hc hd
  refine callType_new F.called_enumerate (by decide) (F.typeCall_enumerate_1 _) (F.newCall_enumerate_1 _) (fun obj => F.args_object_init_2 obj _) F.entry_enumerate_new
    (nk_enumerate_newT l items n dct sl) ⟨hl, ?_⟩
  have hz : (s.heap.push { cls := .type "tuple_iterator", data := .fields #[.ref l, .int 0 0] }).objs.size = s.heap.objs.size + 1 := Heap.size_push ..
  show _ ∧ _
  rw [hz]
  have he : IsEnum ((s.heap.push { cls := .type "tuple_iterator", data := .fields #[.ref l, .int 0 0] }).push
      { cls := .type "enumerate", data := .fields #[.none, .bool false, .ref s.heap.objs.size, rawInt 0, .none, .none] }) (s.heap.objs.size + 1) s.heap.objs.size 0 .none := by
    have := Heap.get?_push_size (s.heap.push { cls := .type "tuple_iterator", data := .fields #[.ref l, .int 0 0] })
      (o := { cls := .type "enumerate", data := .fields #[.none, .bool false, .ref s.heap.objs.size, rawInt 0, .none, .none] }) rfl
    rw [hz] at this; exact this
  refine ⟨⟨_, he, rfl⟩, h _ he ⟨_, Heap.get?_push_of_some _ (Heap.get?_push_size _ rfl), rfl, rfl⟩ (by rw [Heap.size_push, hz]) fun b o x => Heap.get?_push_of_some _ (Heap.get?_push_of_some _ x)⟩
end
end PySem
namespace NK
section
open PySem PySem.Spec PyProof.Rows L2
def IteT (K : PySem.W.Frag) (a : Addr) : It :=
  ⟨fun i H => ∃ (xs : List V) (x : V), SqT K H a xs ∧ xs[i]? = some x, fun i H v H' => ∃ T x, v = .ref T ∧ H T = none ∧ H' = L2.upd H T (.tup [.int (i : Nat), x]) ∧ ∀ xs, SqT K H a xs → xs[i]? = some x, fun i H => ∃ xs : List V, SqT K H a xs ∧ xs.length ≤ i⟩
theorem tup_inj {X : Cx} {pins : List (Addr × Obj)} {σ : L2.St} {H : Hp} {s : Shared} {a : Addr} {xs ys : List V} (I : Inv X pins σ H s) (h : SqT X.K H a xs) (g : SqT X.K H a ys) : xs = ys := by
  obtain ⟨its, r, t, _⟩ := I.tuple h
  obtain ⟨its', r', t', _⟩ := I.tuple g
  obtain ⟨o, h1, _, n, h2⟩ := t
  obtain ⟨o', h1', _, n', h2'⟩ := t'
  rw [h1] at h1'
  cases h1'
  rw [h2] at h2'
  have e : its = its' := by
    have := congrArg Array.toList (Data.seq.inj h2').1
    simpa using this
  subst e
  exact Vals.inj r r'
theorem turn_enumT {P : Program} {w : World} {K : PySem.W.Frag} {elts : List Expr} {kk : Nat} {tpos : Pos} (a e it : Addr) (hai : a ≠ it) (hae : a ≠ e) :
    Turn P w K (.Tuple elts kk tpos) (IteT K a) [e, it] e (fun i h => (∃ old, IsEnum h e it ((i : Nat) : Int) old) ∧ h.IsTupleIter it a i ∧ e ≠ it) where
  mem := by simp
  obj := fun i h st b hb => by
    obtain ⟨⟨old, he⟩, ⟨o, ho, hc, hd⟩, _⟩ := st
    have e' : b = e ∨ b = it := by simpa using hb
    rcases e' with z | z
    · rw [z]; exact ⟨_, he, fun v q => nomatch q⟩
    · rw [z]; exact ⟨o, ho, fun v q => by rw [hd] at q; cases q⟩
  keep := fun i h h' st k => let ⟨⟨old, he⟩, hi, hne⟩ := st; ⟨⟨old, k e (by simp) _ he⟩, hi.at fun o q => k it (by simp) o q, hne⟩
  item := by
    intro X hP hw hK hc i pins s σ H E I hf st hg
    subst hP hw hK
    obtain ⟨⟨old, he⟩, hit, hne⟩ := st
    obtain ⟨xs, x, hq, hx⟩ := hg
    obtain ⟨its, rv, p, hz⟩ := I.tuple hq
    obtain ⟨u, hu, ru⟩ := rv.get hx
    have hel : e < s.heap.objs.size := Heap.lt_size he
    have hil : it < s.heap.objs.size := by obtain ⟨_, q, _⟩ := hit; exact Heap.lt_size q
    have hlen : i < its.toArray.size := by
      have := (List.getElem?_eq_some_iff.mp hu).1
      simpa using this
    refine wpAny_pyNext_enum_itemD (Draws.tuple (A := X.A.in1) (I.ok.hd hc) it a hai its.toArray) he ⟨hit, p⟩ hlen hne (by simp [hne, Ne.symm hae]) fun x' h' tk hPx ho hs' hT hsz hk => ?_
    have ex : x' = u := by
      have hPx' : its.toArray[i]? = some x' := hPx
      have : its[i]? = some x' := by simpa using hPx'
      rw [hu] at this
      exact (Option.some.inj this).symm
    subst ex
    obtain ⟨hit', _⟩ := hs'
    refine ⟨_, rfl, wpAny_letOwnedTupleGo_enum (s := { s with heap := h', toks := tk + 1 }) ho fun h'' he' sb => ?_⟩
    have hT2 : h''.get? s.heap.objs.size = some { cls := .type "tuple", data := .seq #[.int i tk, x'] } := (sb.2 _ (Nat.ne_of_gt hel)).trans hT
    have new : ObjOk X.prog X.w (L2.upd H s.heap.objs.size (.tup [.int (i : Nat), x])) h'' s.heap.objs.size (.tup [.int (i : Nat), x]) :=
      ⟨by show 2 ≤ sizeLine; decide, [.int i tk, x'], .cons ⟨_, rfl⟩ (.cons ru .nil), ⟨_, hT2, rfl, _, rfl⟩⟩
    have I1 : Inv X pins σ (L2.upd H s.heap.objs.size (.tup [.int (i : Nat), x])) { s with heap := h'', toks := tk + 1 } :=
      I.turnedNew (ch := [e, it]) (fun b ob hb q => (sb.2 b (fun z => hb (by simp [z]))).trans (hk b ob (fun z => hb (by simp [z])) (fun z => hb (by simp [z])) q)) hf (Nat.le_refl _) new
    refine ⟨.ref s.heap.objs.size, _, I1, rfl, ⟨_, x, rfl, I.hok.fresh (Nat.le_refl _), rfl, fun ys hy => by rw [tup_inj I hy hq]; exact hx⟩, ⟨⟨x', ?_⟩, hit'.at fun o q => (sb.2 it (Ne.symm hne)).trans q, hne⟩, fun b hb => ?_⟩
    · have e1 : ((i + 1 : Nat) : Int) = (i : Int) + 1 := by omega
      rw [e1]; exact he'
    · have hb' : b < s.heap.objs.size := by
        have e' : b = e ∨ b = it := by simpa using hb
        rcases e' with z | z
        · rw [z]; exact hel
        · rw [z]; exact hil
      rw [upd_ne (Nat.ne_of_lt hb')]
      exact (hf b hb).1
  done := by
    intro X hP hw hK hc i pins s σ H E I hf st hg
    subst hP hw hK
    obtain ⟨⟨old, he⟩, hit, hne⟩ := st
    obtain ⟨xs, hq, hx⟩ := hg
    obtain ⟨its, rv, p, hz⟩ := I.tuple hq
    obtain ⟨f0, f1, f2, f3, f4, f5⟩ := hf it (by simp)
    have hl := rv.length
    have hTe : s.TypeIs (.ref e) "enumerate" := ⟨_, he, rfl⟩
    unfold pyNext
    refine wpAny_bind (wpAny_attempt (wpAny_callSpecial?_slot (name := Str.ofString "__next__") hTe PySem.F.slot_enumerate_next
      (wpAny_call_entry PySem.F.slot_enumerate_next hTe PySem.F.entry_enumerate_next ?_ (PySem.F.args_enumerate_next_1 _))))
    show wpAny _ _ (field (.ref e) 2 >>= _) _ _ _
    refine wpAny_bind (wpAny_field he rfl (x := .ref it) rfl ?_)
    refine wpAny_bind (wpAny_nextOf_tuple_end (A := X.A.in1) (I.ok.hd hc) hit p (by simp; omega) fun h' x he' hx' => ?_)
    obtain ⟨o, ho, hcx⟩ := hx'
    refine wpAny_bind (wpAny_isInstance (T := "StopIteration") (b := true) ⟨o, ho, hcx⟩ isSubtype_stop ?_)
    exact wpAny_pure ⟨rfl, I.turned (t' := s.toks) (fun b o hb q => he' b o hb q) f0 f1 f3 f4 f5⟩
  self := fun A i s Q E st h => let ⟨⟨_, he⟩, _⟩ := st; wpAny_pyIter_enum he h
def iEnumA2 (K : PySem.W.Frag) (ta : TA) : TI := fun σ H R => ta σ H fun vs H1 => ∃ a xs, vs = [.ref a] ∧ ((SqL K H1 a xs ∧ R (Ite K a) H1) ∨ (SqT K H1 a xs ∧ R (IteT K a) H1))
theorem pi_enumA {X : Cx} {e : Expr} {ta : TA} {p pos tpos : Pos} {elts : List Expr} {kk : Nat} (hg : Gl X "enumerate") (hm : X.mg "enumerate" = none) (ha : PA X [e] ta) (hs : starEach [e] X.env = [(false, eval e X.env)] := by rfl) :
    PI X (.Tuple elts kk tpos) (.Call (.Name "enumerate" p) [e] [] pos) (iEnumA2 X.K ta) := by
  refine ⟨fun pins s σ H R I h => ?_⟩
  refine Call_ (ld_blt I hg hm boot_enumerate (PyProof.Rows.callWith_type1 (thn (ha.run pos pins s σ H _ I h) fun us s1 ⟨vs, H1, I1, r1, q1⟩ => ?_) hs rfl))
  obtain ⟨a, xs, ex, hq⟩ := q1
  subst ex
  have fresh2 : ∀ b ∈ [s1.heap.objs.size + 1, s1.heap.objs.size], FpOk X pins H1 b := fun b hb => by
    have e' : b = s1.heap.objs.size + 1 ∨ b = s1.heap.objs.size := by simpa using hb
    have hle : s1.heap.objs.size ≤ b := by
      rcases e' with z | z
      · rw [z]; exact Nat.le_add_right _ _
      · rw [z]; exact Nat.le_refl _
    exact I1.fpOk hle (I1.hok.fresh hle)
  cases r1 with
  | cons r rr =>
    cases rr
    cases r
    rcases hq with ⟨hq, q⟩ | ⟨hq, q⟩
    · obtain ⟨its, rv, p', hz⟩ := I1.list hq
      refine call_enumerate_list p'.isList fun h' he hit hsz hk => wpAny_pyIter_enum he ?_
      have I2 : Inv X pins σ H1 { s1 with heap := h' } := I1.kept (t' := s1.toks) hk
      exact ⟨s1.heap.objs.size + 1, [s1.heap.objs.size + 1, s1.heap.objs.size], _, _, H1, rfl, I2, turn_enum a (s1.heap.objs.size + 1) s1.heap.objs.size, ⟨⟨.none, he⟩, hit, Nat.succ_ne_self _⟩, fresh2, q⟩
    · obtain ⟨its, rv, p', hz⟩ := I1.tuple hq
      have hal : a < s1.heap.objs.size := by obtain ⟨o, ho, _⟩ := p'; exact Heap.lt_size ho
      refine nk_call_enumerate_tuple p' fun h' he hit hsz hk => wpAny_pyIter_enum he ?_
      have I2 : Inv X pins σ H1 { s1 with heap := h' } := I1.kept (t' := s1.toks) hk
      exact ⟨s1.heap.objs.size + 1, [s1.heap.objs.size + 1, s1.heap.objs.size], _, _, H1, rfl, I2, turn_enumT a (s1.heap.objs.size + 1) s1.heap.objs.size (Nat.ne_of_lt hal) (Nat.ne_of_lt (Nat.lt_succ_of_lt hal)), ⟨⟨.none, he⟩, hit, Nat.succ_ne_self _⟩, fresh2, q⟩
end
section
open PySem L2
def iEnumA (ma : MA) : MI := fun env st => (ma env st).bind fun us st1 => match us with
  | [.tup us] => .ok ⟨enumFrom 0 us, fun _ => True⟩ st1
  | [.lst us] => .ok ⟨enumFrom 0 us, fun _ => True⟩ st1
  | [.scr us] => .ok ⟨enumFrom 0 us, fun _ => True⟩ st1
  | [.loc i] => match st1[i]? with
    | some (.lst us) => .ok ⟨enumFrom 0 us, fun s => s[i]? = some (Ob.lst us)⟩ st1
    | _ => .bad
  | _ => .bad
theorem walk_of_enumT {T : Tb} {c0 : Cn} {a : Addr} {us : List U} {g : Sto → Prop} (h : ∀ c st H, Le c0 c → RH T c st H → g st → ∃ vs, SqT T.K H a vs ∧ RpL T c us vs) : WalkM T c0 (IteT T.K a) (enumFrom 0 us) g := by
  refine ⟨fun H => ∃ vs, SqT T.K H a vs ∧ vs.length = us.length, fun i H v H' => ∃ t x, v = .ref t ∧ H t = none ∧ H' = L2.upd H t (.tup [.int (i : Nat), x]) ∧ ∀ xs, SqT T.K H a xs → xs[i]? = some x, ⟨fun i H hi ⟨vs, h1, h2⟩ => ?_, fun H ⟨vs, h1, h2⟩ => ⟨vs, h1, ?_⟩, fun i H x H' hi _ y => y⟩, fun c st H l hH hg => ?_⟩
  · have hi' : i < vs.length := by rw [h2, ← enum_len 0 us]; exact hi
    exact ⟨vs, vs[i], h1, by simp [hi']⟩
  · rw [enum_len, h2]; exact Nat.le_refl _
  · obtain ⟨vs, h1, r⟩ := h c st H l hH hg
    refine ⟨⟨vs, h1, r.length.symm⟩, fun i x H' hi y => ?_⟩
    obtain ⟨t, z, rfl, ht, rfl, hx⟩ := y
    obtain ⟨u, hu, ru⟩ := r.getV (hx vs h1)
    obtain ⟨n1, n2, n3⟩ := new_pair hH (.int (i : Int)) ru ht
    refine ⟨_, _, enum_get 0 us i u hu, n1, n2, ?_⟩
    rw [Nat.zero_add]
    exact n3
theorem pim_enumA {X : Cx} {T : Tb} {P : Pin} {Wx : WX} {e : Expr} {ma : MA} {p pos tpos : Pos} {elts : List Expr} {kk : Nat} (hK : X.K = T.K) (hg : Gl X "enumerate") (hm : X.mg "enumerate" = none) (ha : PAm X T P Wx [e] ma) (hs : starEach [e] X.env = [(false, eval e X.env)] := by rfl) :
    PIm X T P Wx (.Tuple elts kk tpos) (.Call (.Name "enumerate" p) [e] [] pos) (iEnumA ma) := by
  refine PI.imp (pi_enumA hg hm ha hs) fun σ H R ⟨c, env, st, hH, hE, hR⟩ => ?_
  refine (tg_bind hH hE hR).mono fun vs H1 ⟨us, c1, st1, l1, hH1, hE1, r1, hR1⟩ => ?_
  split at hR1
  · rename_i us'
    obtain ⟨v, vs', rfl, r, t⟩ := r1.inv_cons
    cases t.inv_nil
    obtain ⟨a, ws, rfl, h1, r2⟩ := r.inv_tup
    refine ⟨a, ws, rfl, .inr ⟨by rw [hK]; exact sqT_up hH1 h1, ?_⟩⟩
    rw [hK]
    exact ResG.ret hR1 hH1 (walk_of_enumT fun c2 st2 H2 l2 hH2 _ => ⟨ws, sqT_up hH2 (sqT_mono l2.F h1), r2.mono l2⟩)
  · rename_i us'
    obtain ⟨v, vs', rfl, r, t⟩ := r1.inv_cons
    cases t.inv_nil
    obtain ⟨a, ws, rfl, h1, r2⟩ := r.inv_lst
    refine ⟨a, ws, rfl, .inl ⟨by rw [hK]; exact SqL.of (hH1.sub _ _ h1), ?_⟩⟩
    rw [hK]
    exact ResG.ret hR1 hH1 (walk_of_enum fun c2 st2 H2 l2 hH2 _ => ⟨ws, SqL.of (hH2.sub _ _ (l2.F _ _ h1)), r2.mono l2⟩)
  · rename_i us'
    obtain ⟨v, vs', rfl, r, t⟩ := r1.inv_cons
    cases t.inv_nil
    obtain ⟨a, ws, rfl, h1, r2⟩ := r.inv_scr
    refine ⟨a, ws, rfl, .inl ⟨by rw [hK]; exact sqL_up hH1 h1, ?_⟩⟩
    rw [hK]
    exact ResG.ret hR1 hH1 (walk_of_enum fun c2 st2 H2 l2 hH2 _ => ⟨ws, sqL_up hH2 (sqL_mono l2.F h1), r2.mono l2⟩)
  · rename_i i
    obtain ⟨v, vs', rfl, r, t⟩ := r1.inv_cons
    cases t.inv_nil
    obtain ⟨hi, rfl⟩ := r.inv_loc
    split at hR1
    · rename_i us' es
      obtain ⟨ws, h1, r2⟩ := hH1.at_lst es
      refine ⟨_, ws, rfl, .inl ⟨by rw [hK]; exact SqL.of h1, ?_⟩⟩
      rw [hK]
      refine ResG.ret hR1 hH1 (walk_of_enum fun c2 st2 H2 l2 hH2 hg' => ?_)
      obtain ⟨ws', h2, r3⟩ := hH2.at_lst hg'
      rw [l2.ρ i hi] at h2
      exact ⟨ws', SqL.of h2, r3⟩
    · exact hR1.elim
  · exact hR1.elim
end
end NK

namespace NK
open PySem L2

noncomputable def scM (g : Sto → Prop) (gt : MGt) (mt : MT) (me : ME) (D : Nat) (env : Env) : List U → Sto → Out U
  | [], st => open Classical in if g st then .ok (.loc D) st else .bad
  | u :: us, st => open Classical in if g st then (match gt u env st with
    | none => .bad
    | some env1 => match mt env1 st with
      | .ok true st1 => (match me env1 st1 with
        | .ok (.int k) st2 => match st2[D]? with
          | some (.iset ks) => if ks.length < 1000 then scM g gt mt me D env us (st2.set D (.iset (if k ∈ ks then ks else ks ++ [k]))) else .bad
          | _ => .bad
        | _ => .bad)
      | .ok false st1 => scM g gt mt me D env us st1
      | _ => .bad) else .bad
noncomputable def eSc (mi : MI) (gt : MGt) (mt : MT) (me : ME) (vs : List Nat) : ME := fun env st => (mi env st).bind fun p st1 => scM p.g gt mt me st1.length (wipeE env vs) p.us (st1 ++ [.iset []])
section
variable {X : Cx} {T : Tb} {P : Pin} {Wx : WX}
theorem iset_add (w : World) (a : Addr) (ks : List Int) (k : Int) : SetO w a (fun j => decide (j ∈ ks) || decide (j = k)) (if decide (k ∈ ks) = true then ks.length else ks.length + 1) = SetO w a (fun j => decide (j ∈ (if k ∈ ks then ks else ks ++ [k]))) (if k ∈ ks then ks else ks ++ [k]).length := by
  have e1 : (fun j : Int => decide (j ∈ ks) || decide (j = k)) = fun j => decide (j ∈ (if k ∈ ks then ks else ks ++ [k])) := by
    funext j
    by_cases h : k ∈ ks
    · rw [if_pos h]
      by_cases hj : j = k
      · subst hj; simp [h]
      · simp [hj]
    · rw [if_neg h]
      simp
  have e2 : (if decide (k ∈ ks) = true then ks.length else ks.length + 1) = (if k ∈ ks then ks else ks ++ [k]).length := by
    by_cases h : k ∈ ks
    · rw [if_pos h, if_pos (by simpa using h)]
    · rw [if_neg h, if_neg (by simpa using h)]
      simp
  rw [e1, e2]
theorem sc_run {J : It} {us : List U} {g : Sto → Prop} {gt : MGt} {tg : TG} {mt : MT} {me : ME} {tt : TT} {te : TE} {vs : List Nat} {c0 : Cn} {Q : VK} {σ : L2.St} (hw : WalkM T c0 J us g)
    (hg : ∀ v σ H Q, tgtOf T P gt v σ H Q → tg v σ H Q) (ht : ∀ σ H Q, ttOf T P Wx0 mt σ H Q → tt σ H Q) (he : ∀ σ H Q, teOf T P Wx0 me σ H Q → te σ H Q)
    (hp : ∀ i ∈ vs, pinned P i = false) (hgw : GW tg vs)
    {c : Cn} {env : Env} {st : Sto} {H : Hp} (l : Le c0 c) (hH : RH T c st H) (hE : RE T P c env σ) {D : Addr} (hD : H D = none) (hR : ResG T Wx c σ (Rp T) (scM g gt mt me st.length (wipeE env vs) us (st ++ [.iset []])) Q) :
    ∃ W : Nat → Nat → Hp → Prop, (∃ m, W 0 m (L2.upd H D (SetO T.w D (fun _ => false) 0))) ∧ ∀ i m H, W i m H →
      (J.stop i H ∧ Q (.ref D) H) ∨ (J.go i H ∧ ∃ Nx : Hp → Prop, (∀ H', Nx H' → ∃ m', m' < m ∧ W (i + 1) m' H') ∧ ∀ x H', J.yld i H x H' → tg x (L2.wipe σ vs) H' fun σ2 H2 => L2.wipe σ2 vs = L2.wipe σ vs ∧ tt σ2 H2 fun b H3 =>
        if b = true then te σ2 H3 fun y H4 => ∃ (c : Int) (S : Int → Bool) (n : Nat), y = .int c ∧ H4 D = some (SetO T.w D S n) ∧ n + 1 < scanBound ∧ Nx (L2.upd H4 D (SetO T.w D (fun j => S j || decide (j = c)) (if S c = true then n else n + 1))) else Nx H3) := by
  obtain ⟨G, Y, w, k⟩ := hw
  have start := hH.new hD (o := .iset []) (x := SetO T.w D (fun _ => false) 0) (show SetO T.w D (fun _ => false) 0 = SetO T.w D (fun k => decide (k ∈ ([] : List Int))) 0 by simp)
  have hpos : (c.new D).ρ st.length = D := by rw [← hH.n, new_self]
  have hlt : st.length < (c.new D).n := by show _ < c.n + 1; rw [hH.n]; exact Nat.lt_succ_self _
  have lD := le_new c D
  have hE0 : RE T P c (wipeE env vs) (L2.wipe σ vs) := hE.wipe vs hp
  generalize hn : st.length = n at hR hpos hlt
  obtain ⟨w0, w1, w2⟩ := w
  refine ⟨fun i m H => m = us.length - i ∧ i ≤ us.length ∧ ∃ c1 st1, Le (c.new D) c1 ∧ RH T c1 st1 H ∧ ResG T Wx c σ (Rp T) (scM g gt mt me n (wipeE env vs) (us.drop i) st1) Q, ⟨us.length, rfl, Nat.zero_le _, _, _, Le.refl _, start, hR⟩, ?_⟩
  rintro i m H ⟨rfl, hi, c1, st1, l1, hH1, hR1⟩
  have hg' : g st1 := by
    cases q : us.drop i with
    | nil =>
      rw [q] at hR1
      unfold scM at hR1
      split at hR1
      · assumption
      · exact hR1.elim
    | cons u r =>
      rw [q] at hR1
      unfold scM at hR1
      split at hR1
      · assumption
      · exact hR1.elim
  have kk := k c1 st1 H ((l.trans lD).trans l1) hH1 hg'
  by_cases hlt' : i < us.length
  · refine .inr ⟨w0 i H hlt' kk.1, fun H' => i + 1 ≤ us.length ∧ ∃ c1 st1, Le (c.new D) c1 ∧ RH T c1 st1 H' ∧ ResG T Wx c σ (Rp T) (scM g gt mt me n (wipeE env vs) (us.drop (i + 1)) st1) Q, fun H' h' => ⟨us.length - (i + 1), by omega, rfl, h'.1, h'.2⟩, fun x H' y => ?_⟩
    have y' := w2 i H x H' hlt' kk.1 y
    have hd : us.drop i = us[i] :: us.drop (i + 1) := List.drop_eq_getElem_cons hlt'
    rw [hd] at hR1
    unfold scM at hR1
    rw [if_pos hg'] at hR1
    obtain ⟨c2, u, hu, l2, hH2, r2⟩ := kk.2 i x H' hlt' y'
    have eu : us[i] = u := by
      rw [List.getElem?_eq_getElem hlt'] at hu
      exact Option.some.inj hu
    rw [eu] at hR1
    have hE2 : RE T P c2 (wipeE env vs) (L2.wipe σ vs) := hE0.mono ((lD.trans l1).trans l2)
    split at hR1
    · exact hR1.elim
    · rename_i env1 q
      refine hgw x σ _ _ (hg _ _ _ _ ⟨c2, wipeE env vs, st1, u, env1, hH2, hE2, r2, q, fun σ1 hE1 _ => ?_⟩)
      refine ht _ _ _ ⟨c2, env1, st1, hH2, hE1, ?_⟩
      split at hR1
      · rename_i st2 qt
        rw [qt]
        intro c3 b H3 l3 hH3 eb
        cases (show true = b from eb)
        rw [if_pos rfl]
        refine he _ _ _ ⟨c3, env1, st2, hH3, hE1.mono l3, ?_⟩
        split at hR1
        · rename_i kv st3 qe
          rw [qe]
          intro c4 z H4 l4 hH4 r4
          cases r4.inv_int
          split at hR1
          · rename_i ks qa
            obtain ⟨o, h1, ra, _⟩ := hH4.act n _ qa (fun z => nomatch z)
            have hl4 := ((l1.trans l2).trans l3).trans l4
            have e4 : c4.ρ n = D := (hl4.ρ n hlt).trans hpos
            rw [e4] at h1
            have ra' : o = SetO T.w D (fun k => decide (k ∈ ks)) ks.length := by
              have : o = SetO T.w (c4.ρ n) (fun k => decide (k ∈ ks)) ks.length := ra
              rw [this, e4]
            subst ra'
            split at hR1
            · rename_i hz
              refine ⟨kv, _, _, rfl, h1, by have : scanBound = 4096 := rfl; omega, hlt', c4, _, hl4, ?_, hR1⟩
              rw [iset_add]
              have := hH4.set qa (fun z => nomatch z) (o' := .iset (if kv ∈ ks then ks else ks ++ [kv])) (x := SetO T.w (c4.ρ n) (fun j => decide (j ∈ (if kv ∈ ks then ks else ks ++ [kv]))) (if kv ∈ ks then ks else ks ++ [kv]).length) rfl
              rw [e4] at this
              exact this
            · exact hR1.elim
          · exact hR1.elim
        · exact hR1.elim
      · rename_i st2 qt
        rw [qt]
        intro c3 b H3 l3 hH3 eb
        cases (show false = b from eb)
        rw [if_neg Bool.false_ne_true]
        exact ⟨hlt', c3, st2, (l1.trans l2).trans l3, hH3, hR1⟩
      · exact hR1.elim
  · have ei : i = us.length := by omega
    subst ei
    refine .inl ⟨w1 H kk.1, ?_⟩
    rw [List.drop_length] at hR1
    unfold scM at hR1
    rw [if_pos hg'] at hR1
    have e : V.ref D = V.ref (c1.ρ n) := by rw [l1.ρ n hlt, hpos]
    rw [e]
    exact hR1 c1 _ H (lD.trans l1) hH1 (.loc (Nat.lt_of_lt_of_le hlt l1.n))
theorem pem_sc {elt tg iter : Expr} {ifs : List Expr} {scope : Scope} {pos : Pos} {own : List (Str × Nat)} {tgr : TG} {mi : MI} {gt : MGt} {mt : MT} {me : ME} (hw : X.w = T.w) (hc : X.calm = true) (hN : X.N.Nodup) (hi : PIm X T P Wx tg iter mi) (ok : BlkOk X.N X.env.scope scope own)
    (hg : ∀ (s : Shared) (H : Hp) (C : Addr) (cl : List (Str × Addr)) (fp : List Addr), PG (X.blk s H scope (compEnvC scope cl C X.env) fp) tg tgr) (hgr : ∀ v σ H Q, tgtOf T P gt v σ H Q → tgr v σ H Q) (hgw : GW tgr (own.map (·.2)))
    (ht : ∀ (s : Shared) (H : Hp) (C : Addr) (cl : List (Str × Addr)) (fp : List Addr), PTs (X.blk s H scope (compEnvC scope cl C X.env) fp) ifs (ttOf T P Wx0 mt))
    (he : ∀ (s : Shared) (H : Hp) (C : Addr) (cl : List (Str × Addr)) (fp : List Addr), PEm (X.blk s H scope (compEnvC scope cl C X.env) fp) T P Wx0 elt me) (hp : ∀ i ∈ own.map (·.2), pinned P i = false := by intro i _; rfl) (hs : ∀ x, foldedSetIterable iter X.env x = pure x := by intro _; rfl) :
    PEm X T P Wx (.SetComp elt [⟨tg, iter, ifs, 0⟩] scope pos) (eSc mi gt mt me (own.map (·.2))) :=
  PE.imp (pe_scI hc hN hi ok hg ht he hs) fun σ H Q ⟨c, env, st, hH, hE, hR⟩ => by
    refine (tg_bind hH hE hR).mono fun J H1 ⟨p, c1, st1, l1, hH1, hE1, r1, hR1⟩ D hD => ?_
    rw [hw]
    exact sc_run r1 hgr (fun _ _ _ h => h) (fun _ _ _ h => h) hp hgw (Le.refl c1) hH1 hE1 hD hR1
end

inductive Tr where
  | b (t : Ty)
  | o (k : Nat)
  deriving DecidableEq
def Tr.v (T : Tb) : Tr → Value
  | .b t => .type t.name
  | .o k => .ref (T.cls k)
def Tr.x (T : Tb) : Tr → V
  | .b t => .ty t.name
  | .o k => .ref (T.cls k)
def trOf (u : U) (st : Sto) : Option Tr := match u with
  | .non => some (.b .none)
  | .bl _ => some (.b .bool)
  | .int _ => some (.b .int)
  | .str _ => some (.b .str)
  | .tup _ => some (.b .tuple)
  | .lst _ => some (.b .list)
  | .scr _ => some (.b .list)
  | .ins k _ => some (.o k)
  | .loc i => match st[i]? with
    | some (.lst _) => some (.b .list)
    | some (.dK _) => some (.b .dict)
    | some (.ins k _) => some (.o k)
    | _ => none
  | _ => none
def isiB : Ty → Ty → Option Bool
  | _, .none => none
  | .bool, .int => some true
  | a, b => some (a == b)
theorem isiB_ok {K : PySem.W.Frag} {a b : Ty} {r : Bool} (h : isiB a b = some r) : PySem.W.kitOne K (.type a.name) (.type b.name) = some r := by
  refine kit_ty ?_
  cases a <;> cases b <;> first | (cases h; decide +kernel) | cases h
abbrev IsL := List ((Tr × Tr) × Bool)
def isOne (l : IsL) (t c : Tr) : Option Bool := match t, c with
  | .b x, .b y => isiB x y
  | t, c => l.lookup (t, c)
def isAny (l : IsL) (t : Tr) : List Tr → Option Bool
  | [] => some false
  | c :: r => match isOne l t c with
    | some true => some true
    | some false => isAny l t r
    | none => none
structure InsC (T : Tb) (k : Nat) : Prop where
  cl : Cls T.K (T.cls k)
  ha : PySem.W.findIn T.K (.ref (T.cls k)) "__class__" = some (some (.builtin "object.__class__"))
  hn : PySem.W.specialIn T.K (.builtin "object.__class__") "__get__" = some (some (.builtin "getset_descriptor.__get__"))
  ht : PySem.W.takesIn T.K (.builtin "object.__class__") = some true
  hm : PySem.W.mroIn T.K (T.cls k) (.type "object") = some true
def TrOk (T : Tb) : Tr → Prop
  | .b _ => True
  | .o k => InsC T k
def IsOk (T : Tb) (l : IsL) : Prop := ∀ p ∈ l, TrOk T p.1.1 ∧ PySem.W.kitOne T.K (p.1.1.v T) (p.1.2.v T) = some p.2
theorem mem_lookup {l : IsL} {k : Tr × Tr} {b : Bool} : l.lookup k = some b → (k, b) ∈ l := by
  induction l with
  | nil => intro h; cases h
  | cons a l ih =>
    intro h
    obtain ⟨y, v⟩ := a
    simp only [List.lookup] at h
    split at h
    · rename_i hh
      cases h
      rw [beq_iff_eq] at hh
      subst hh
      exact List.mem_cons_self
    · exact List.mem_cons_of_mem _ (ih h)
theorem isOne_ok {T : Tb} {l : IsL} (h : IsOk T l) {t c : Tr} {b : Bool} (e : isOne l t c = some b) : TrOk T t ∧ PySem.W.kitOne T.K (t.v T) (c.v T) = some b := by
  unfold isOne at e
  split at e
  · exact ⟨True.intro, isiB_ok e⟩
  · exact h _ (mem_lookup e)
theorem isAny_ok {T : Tb} {l : IsL} (h : IsOk T l) {t : Tr} : ∀ {cs : List Tr} {b : Bool}, cs ≠ [] → isAny l t cs = some b → TrOk T t ∧ PySem.W.kitAny T.K (t.v T) (cs.map (·.v T)) = some b
  | [], _, n, _ => absurd rfl n
  | c :: r, b, _, e => by
    unfold isAny at e
    cases q : isOne l t c with
    | none => rw [q] at e; cases e
    | some b1 =>
      obtain ⟨h1, h2⟩ := isOne_ok h q
      refine ⟨h1, kitAny_cons h2 (fun hb => ?_) fun hb => ?_⟩
      · subst hb
        rw [q] at e
        cases r with
        | nil => cases e; exact kitAny_nil
        | cons d r => exact (isAny_ok h (cs := d :: r) (by simp) e).2
      · subst hb
        rw [q] at e
        exact (Option.some.inj e).symm
section
variable {X : Cx} {T : Tb} {P : Pin} {Wx : WX} {e ce : Expr} {es : List Expr} {me : ME} {p pos p2 : Pos}
theorem tr_at {c : Cn} {st : Sto} {H : Hp} (h : RH T c st H) {u : U} {v : V} {t : Tr} (r : Rp T c u v) (e : trOf u st = some t) (ok : TrOk T t) : TyX T.K H v (t.v T) := by
  have lst : ∀ {a : Addr} {vs : List V}, SqL T.K H a vs → TyX T.K H (.ref a) (.type "list") := fun {a vs} q => by
    rcases q with (q | ⟨o, q⟩) | q
    · exact .base (.lst q)
    · exact .base (.frz q)
    · obtain ⟨o, _, _, q1, q2, _⟩ := q
      exact .kList q1 q2
  have tup : ∀ {a : Addr} {vs : List V}, SqT T.K H a vs → TyX T.K H (.ref a) (.type "tuple") := fun {a vs} q => by
    rcases q with (q | ⟨o, q⟩) | q
    · exact .base (.tup q)
    · exact .fTuple q
    · obtain ⟨o, _, _, q1, q2, _⟩ := q
      exact .kTuple q1 q2
  cases u with
  | non => cases r; cases e; exact .base .non
  | bl b => cases r; cases e; exact .base (.bl b)
  | int b => cases r; cases e; exact .base (.int b)
  | str b => cases r; cases e; exact .base (.str b)
  | tup us => obtain ⟨a, vs, rfl, h1, _⟩ := r.inv_tup; cases e; exact tup (sqT_up h h1)
  | lst us => obtain ⟨a, vs, rfl, h1, _⟩ := r.inv_lst; cases e; exact .base (.lst (h.sub _ _ h1))
  | scr us => obtain ⟨a, vs, rfl, h1, _⟩ := r.inv_scr; cases e; exact lst (sqL_up h h1)
  | ins k us =>
    obtain ⟨a, dx, vs, rfl, h1, _⟩ := r.inv_ins
    cases e
    exact .base (.ins (h.sub _ _ h1) ok.cl ok.ha ok.hn ok.ht ok.hm)
  | loc i =>
    obtain ⟨_, rfl⟩ := r.inv_loc
    dsimp only [trOf] at e
    split at e
    · rename_i us q
      cases e
      obtain ⟨vs, h1, _⟩ := h.at_lst q
      exact .base (.lst h1)
    · rename_i us q
      cases e
      obtain ⟨vs, h1, _⟩ := h.at_dK q
      exact .base (.dK h1)
    · rename_i k us q
      cases e
      obtain ⟨dx, vs, h1, _⟩ := h.at_ins q
      exact .base (.ins h1 ok.cl ok.ha ok.hn ok.ht ok.hm)
    · cases e
  | _ => cases e
def eIsi (l : IsL) (cs : List Tr) (me : ME) : ME := fun env st => (me env st).bind fun u st1 => match trOf u st1 with
  | some t => match isAny l t cs with
    | some b => .ok (.bl b) st1
    | none => .bad
  | none => .bad
theorem clsV (t : Tr) : ClsV (t.x T) (t.v T) := by
  cases t with
  | b t => exact .ty _
  | o k => exact .own _
theorem pem_isi1 {l : IsL} {c : Tr} (ok : IsOk T l) (hK : X.K = T.K) (hg : Gl X "isinstance") (hm : X.mg "isinstance" = none) (he : PEm X T P Wx e me) (hc : PE X ce (tC (c.x T)))
    (hs : starEach [e, ce] X.env = (false, eval e X.env) :: starEach [ce] X.env := by rfl) (hs2 : starEach [ce] X.env = (false, eval ce X.env) :: starEach [] X.env := by rfl) (hpl : (backTo pos (starEach [ce] X.env)).any (·.1) = false := by rfl) :
    PEm X T P Wx (.Call (.Name "isinstance" p) [e, ce] [] pos) (eIsi l [c] me) :=
  PE.imp (pe_callB call_isi hg hm PyProof.Rows.Boot.«isinstance» (pa_cons he (pa_cons hc pa_nil hs2) hs) (by decide) (by decide) hs hpl) fun σ H Q ⟨cn, env, st, hH, hE, hR⟩ => by
    refine (tg_bind hH hE hR).mono fun x H1 ⟨u, c1, st1, l1, hH1, hE1, r1, hR1⟩ => ?_
    split at hR1
    · rename_i t e1
      split at hR1
      · rename_i b e2
        have e3 : isOne l t c = some b := by
          unfold isAny at e2
          split at e2
          · rename_i q; rw [q]; exact e2
          · rename_i q; rw [q]; exact e2
          · cases e2
        obtain ⟨h1, h2⟩ := isOne_ok ok e3
        refine ⟨x, c.x T, t.v T, c.v T, b, rfl, clsV c, ?_, ?_, hR1.ret hH1 (.bl b)⟩
        · rw [hK]; exact tr_at hH1 r1 e1 h1
        · rw [hK]; exact h2
      · exact hR1.elim
    · exact hR1.elim
theorem clsVs : ∀ cs : List Tr, Paired ClsV (cs.map (·.x T)) (cs.map (·.v T))
  | [] => .nil
  | c :: r => .cons (clsV c) (clsVs r)
def tTrs (T : Tb) : List Tr → TA
  | [] => tNil
  | c :: r => tCons (tC (c.x T)) (tTrs T r)
theorem trs_run (cs : List Tr) (σ : L2.St) (H : Hp) (Q : List V → Hp → Prop) (h : Q (cs.map (·.x T)) H) : tTrs T cs σ H Q := by
  induction cs generalizing Q with
  | nil => exact h
  | cons c r ih => exact ih _ h
theorem pem_isiT {l : IsL} {cs : List Tr} {x1} (ok : IsOk T l) (hK : X.K = T.K) (hg : Gl X "isinstance") (hm : X.mg "isinstance" = none) (he : PEm X T P Wx e me) (hc : PA X es (tTrs T cs)) (hne : cs ≠ []) (hsz : cs.length ≤ 1000)
    (hs : starEach [e, .Tuple es x1 p2] X.env = (false, eval e X.env) :: starEach [.Tuple es x1 p2] X.env := by rfl) (hs2 : starEach [.Tuple es x1 p2] X.env = (false, eval (.Tuple es x1 p2) X.env) :: starEach [] X.env := by rfl) (hpl : (backTo pos (starEach [.Tuple es x1 p2] X.env)).any (·.1) = false := by rfl) :
    PEm X T P Wx (.Call (.Name "isinstance" p) [e, .Tuple es x1 p2] [] pos) (eIsi l cs me) :=
  PE.imp (pe_callB call_isiT hg hm PyProof.Rows.Boot.«isinstance» (pa_cons he (pa_cons (pe_tup hc) pa_nil hs2) hs) (by decide) (by decide) hs hpl) fun σ H Q ⟨cn, env, st, hH, hE, hR⟩ => by
    refine (tg_bind hH hE hR).mono fun x H1 ⟨u, c1, st1, l1, hH1, hE1, r1, hR1⟩ => ?_
    refine trs_run cs σ H1 _ ⟨by rw [List.length_map, sizeLine_eq]; omega, fun tp htp => ?_⟩
    split at hR1
    · rename_i t e1
      split at hR1
      · rename_i b e2
        obtain ⟨h1, h2⟩ := isAny_ok ok hne e2
        have l2 := le_still hH1 htp (.tup (cs.map (·.x T)))
        have hH2 := hH1.still htp (.tup (cs.map (·.x T)))
        refine ⟨x, tp, cs.map (·.x T), t.v T, cs.map (·.v T), b, rfl, upd_same, ?_, ?_, ?_, hR1 _ _ _ l2 hH2 (.bl b)⟩
        · exact clsVs cs
        · rw [hK]; exact tr_at hH2 (r1.mono l2) e1 h1
        · rw [hK]; exact h2
      · exact hR1.elim
    · exact hR1.elim

def cutU (us : List U) (lo hi : Option Int) : List U := (us.drop (HT.sIx us.length 0 lo)).take (HT.sIx us.length us.length hi - HT.sIx us.length 0 lo)
def eSl (m : ME) (lo hi : Option ME) : ME := fun env st => (m env st).bind fun x st1 =>
  ((match lo with | none => Out.ok none st1 | some f => (f env st1).bind fun i s => match i with | .int k => .ok (some k) s | _ => .bad) : Out (Option Int)).bind fun l st2 =>
  ((match hi with | none => Out.ok none st2 | some f => (f env st2).bind fun i s => match i with | .int k => .ok (some k) s | _ => .bad) : Out (Option Int)).bind fun h st3 =>
  match lsts x st3 with
  | some us => .ok (.loc st3.length) (st3 ++ [.lst (cutU us l h)])
  | none => .bad
where lsts (u : U) (st : Sto) : Option (List U) := match u with
  | .lst us => some us
  | .scr us => some us
  | .loc i => match st[i]? with
    | some (.lst us) => some us
    | _ => none
  | _ => none
theorem lsts_at {c : Cn} {st : Sto} {H : Hp} (h : RH T c st H) {u : U} {v : V} {us : List U} (r : Rp T c u v) (e : eSl.lsts u st = some us) : ∃ a vs, v = .ref a ∧ SqL T.K H a vs ∧ RpL T c us vs := by
  cases u with
  | lst xs => obtain ⟨a, vs, rfl, h1, h2⟩ := r.inv_lst; cases e; exact ⟨a, vs, rfl, SqL.of (h.sub _ _ h1), h2⟩
  | scr xs => obtain ⟨a, vs, rfl, h1, h2⟩ := r.inv_scr; cases e; exact ⟨a, vs, rfl, sqL_up h h1, h2⟩
  | loc i =>
    obtain ⟨_, rfl⟩ := r.inv_loc
    dsimp only [eSl.lsts] at e
    split at e
    · rename_i xs q
      cases e
      obtain ⟨vs, h1, h2⟩ := h.at_lst q
      exact ⟨_, vs, rfl, SqL.of h1, h2⟩
    · cases e
  | _ => cases e
def toOf (T : Tb) (P : Pin) (Wx : WX) (m : Option ME) : TO := match m with
  | none => tNoPart
  | some f => tPart (teOf T P Wx f)
def POm (X : Cx) (T : Tb) (P : Pin) (Wx : WX) (e : Option Expr) (m : Option ME) : Prop := PO X e (toOf T P Wx m)
theorem pom_none : POm X T P Wx none none := po_none
theorem pom_some (h : PEm X T P Wx e me) : POm X T P Wx (some e) (some me) := po_some h
theorem part_run {c : Cn} {env : Env} {st : Sto} {σ : L2.St} {H : Hp} {Q : VK} {m : Option ME} {kk : Option Int → Sto → Out U} (hH : RH T c st H) (hE : RE T P c env σ)
    (hR : ResG T Wx c σ (Rp T) (((match m with | none => Out.ok none st | some f => (f env st).bind fun i s => match i with | .int k => .ok (some k) s | _ => .bad) : Out (Option Int)).bind kk) Q) :
    toOf T P Wx m σ H fun o H1 => ∃ c1 st1, Le c c1 ∧ RH T c1 st1 H1 ∧ RE T P c1 env σ ∧ ResG T Wx c1 σ (Rp T) (kk o st1) Q := by
  cases m with
  | none => exact ⟨c, st, Le.refl c, hH, hE, hR⟩
  | some f =>
    refine ⟨c, env, st, hH, hE, ?_⟩
    dsimp only at hR
    cases q : f env st with
    | ok u st1 =>
      rw [q] at hR
      intro c1 v H1 l hH1 r
      cases u with
      | int k =>
        cases r.inv_int
        exact ⟨k, rfl, c1, st1, l, hH1, hE.mono l, ResG.later l hR⟩
      | _ => exact hR.elim
    | exc x st1 => rw [q] at hR; exact hR
    | bad => rw [q] at hR; exact hR
theorem pem_sl {lo hi : Option Expr} {ml mh : Option ME} (hK : X.K = T.K) (he : PEm X T P Wx e me) (hl : POm X T P Wx lo ml) (hu : POm X T P Wx hi mh) : PEm X T P Wx (.Subscript e (.Slice lo hi none p2) pos) (eSl me ml mh) :=
  PE.imp (pe_slice sl_list he hl hu) fun σ H Q ⟨c, env, st, hH, hE, hR⟩ => by
    refine (tg_bind hH hE hR).mono fun x H1 ⟨u, c1, st1, l1, hH1, hE1, r1, hR1⟩ => ?_
    have mo : ∀ {m : Option ME} {σ : L2.St} {H : Hp} {Q Q' : Option Int → Hp → Prop}, toOf T P Wx m σ H Q → (∀ o H, Q o H → Q' o H) → toOf T P Wx m σ H Q' := fun {m σ H Q Q'} h k => by
      cases m with
      | none => exact k _ _ h
      | some f => exact tgOf.mono h fun v H ⟨i, e, q⟩ => ⟨i, e, k _ _ q⟩
    refine mo (part_run hH1 hE1 hR1) fun lo H2 ⟨c2, st2, l2, hH2, hE2, hR2⟩ => ?_
    refine mo (part_run hH2 hE2 hR2) fun hi H3 ⟨c3, st3, l3, hH3, hE3, hR3⟩ => ?_
    split at hR3
    · rename_i us e1
      obtain ⟨a, vs, rfl, h1, h2⟩ := lsts_at hH3 ((r1.mono l2).mono l3) e1
      refine ⟨a, vs, rfl, by rw [hK]; exact h1, fun p hp => ?_⟩
      have l := le_new c3 p
      have hlt : st3.length < (c3.new p).n := by show _ < c3.n + 1; rw [hH3.n]; exact Nat.lt_succ_self _
      have e : V.ref p = V.ref ((c3.new p).ρ st3.length) := by rw [← hH3.n, new_self]
      have r3 : RpL T c3 (cutU us lo hi) (cutV vs lo hi) := by
        unfold cutU cutV
        rw [h2.length]
        exact (h2.drop _).take _
      rw [e]
      exact hR3 _ _ _ l (hH3.new hp (o := .lst (cutU us lo hi)) (x := .lst (cutV vs lo hi)) ⟨_, rfl, r3⟩) (.loc hlt)
    · exact hR3.elim
end
end NK

namespace NK
open PySem L2
theorem bt_len : bootBuiltins "len" = some (.builtin "len") := by decide +kernel
theorem bt_abs : bootBuiltins "abs" = some (.builtin "abs") := by decide +kernel
theorem bt_min : bootBuiltins "min" = some (.builtin "min") := by decide +kernel
theorem bt_int : bootBuiltins "int" = some (.type "int") := by decide +kernel
theorem bt_bool : bootBuiltins "bool" = some (.type "bool") := by decide +kernel
theorem bt_list : bootBuiltins "list" = some (.type "list") := by decide +kernel
theorem bt_tuple : bootBuiltins "tuple" = some (.type "tuple") := by decide +kernel
theorem gr_name {T : Tb} {P : Pin} {i : Nat} (hp : pinned P i = false) (v : V) (σ : L2.St) (H : Hp) (Q : L2.St → Hp → Prop) (h : tgtOf T P (gN i) v σ H Q) : gName i v σ H Q := by
  obtain ⟨c, env, st, u, env', hH, hE, r, e, k⟩ := h
  cases e
  exact k _ (hE.set r i hp)
section
variable {P : Program} {w : World} {K : PySem.W.Frag} {mg : Str → Option Value} {base : Heap} {T : Tb} {x qual : Str} {params : Arguments} {body : List Stmt} {scope : Scope} {dvs : List V} {kws : List (Str × V)} {f : Addr} {fd : FuncData} {N ps : List Str} {k : Nat} {mb : MS}
open PyProof.Rows (envOfC) in
theorem fund_okm (F : FunD K x qual params body scope dvs kws f fd) (S : FnScope N ps scope)
    (hb : ∀ (cdv : Value) (A : Around) (outer : List PySem.Env) (s : Shared) (H : Hp) (E : XK), Room k (A.deeper (envOfC qual scope s.heap.objs.size f cdv)) →
      PSsm (cxOf (L2.CX P w) P w K mg base N qual scope f cdv A outer s H E) T none (fun cls d _ H => E cls d H) body mb) : FnOk P w K mg base (L2.CX P w) (k + 1) f fd ps (spOf T ps.length (fScope (runF N.length mb))) := by
  refine (F.ok S (fun vs H Q E h => h.1) (fun cdv A outer s H vs Q E hr h => ⟨_, hb cdv A outer s H E hr, ?_⟩) : FnOk P w K mg base (L2.CX P w) (k + 1) f fd ps (spOf T ps.length (runF N.length mb))).imp spOf_scope
  obtain ⟨hl, c, us, st0, hH, r, hR⟩ := h
  refine ⟨c, _, st0, hH, start_RE r, ?_⟩
  unfold runF at hR
  cases q : mb (us.map some ++ List.replicate (N.length - us.length) none) st0 with
  | ret u st' => rw [q] at hR; exact fun c' v H' a b d => hR c' v H' a b d
  | next env st' => rw [q] at hR; exact fun c' σ' H' a b d => hR c' .non H' a b .non
  | exc x' env st' => rw [q] at hR; exact fun c' cls d σ' H' a b _ e => hR c' cls d H' a b e
  | brk env st' => rw [q] at hR; exact hR.elim
  | cont env st' => rw [q] at hR; exact hR.elim
  | bad => rw [q] at hR; exact hR.elim
open PyProof.Rows (envOfC) in
theorem fund_okl (F : FunD K x qual params body scope dvs kws f fd) (S : FnScope N ps scope)
    (hb : ∀ (cdv : Value) (A : Around) (outer : List PySem.Env) (s : Shared) (H : Hp) (E : XK), Room k (A.deeper (envOfC qual scope s.heap.objs.size f cdv)) →
      PSsm (cxOf (L2.CX P w) P w K mg base N qual scope f cdv A outer s H E) T none (fun cls d _ H => E cls d H) body mb) : FnOk P w K mg base (L2.CX P w) (k + 1) f fd ps (spOf T ps.length (runF N.length mb)) := by
  refine F.ok S (fun vs H Q E h => h.1) (fun cdv A outer s H vs Q E hr h => ⟨_, hb cdv A outer s H E hr, ?_⟩)
  obtain ⟨hl, c, us, st0, hH, r, hR⟩ := h
  refine ⟨c, _, st0, hH, start_RE r, ?_⟩
  unfold runF at hR
  cases q : mb (us.map some ++ List.replicate (N.length - us.length) none) st0 with
  | ret u st' => rw [q] at hR; exact fun c' v H' a b d => hR c' v H' a b d
  | next env st' => rw [q] at hR; exact fun c' σ' H' a b d => hR c' .non H' a b .non
  | exc x' env st' => rw [q] at hR; exact fun c' cls d σ' H' a b _ e => hR c' cls d H' a b e
  | brk env st' => rw [q] at hR; exact hR.elim
  | cont env st' => rw [q] at hR; exact hR.elim
  | bad => rw [q] at hR; exact hR.elim
end
def sPar (i j : Nat) (ma : MA) : MS := fun env st => (ma env st).st env fun us st1 => match us with
  | [u, w] => .next ((env.set i (some u)).set j (some w)) st1
  | _ => .bad
theorem psm_par {X : Cx} {T : Tb} {P : Pin} {Wx : WX} {i j : Nat} {x y : Str} {a b : Expr} {ma : MA} {px py pt pos : Pos} {kt k2 pt2} (hc : X.calm = true) (hN : X.N.Nodup) (hi : X.N[i]? = some x) (hj : X.N[j]? = some y) (hij : i ≠ j)
    (hx : X.env.scope.names.lookup x = some .local) (hy : X.env.scope.names.lookup y = some .local) (ha : PAm X T P Wx [a, b] ma)
    (hw : swappedStores [.Tuple [.Name x px, .Name y py] kt pt] (.Tuple [a, b] k2 pt2) X.env = pure (some [x, y])) (hpi : pinned P i = false := by rfl) (hpj : pinned P j = false := by rfl)
    (hs : swapsWithSole [.Tuple [.Name x px, .Name y py] kt pt] (.Tuple [a, b] k2 pt2) pos.line X.env = pure false := by rfl) :
    PSm X T P Wx (.Assign [.Tuple [.Name x px, .Name y py] kt pt] (.Tuple [a, b] k2 pt2) pos) (sPar i j ma) :=
  PS.imp (ps_par hc hN hi hj hij hx hy ha hw hs) fun D σ H ⟨c, env, st, hH, hE, hR⟩ => by
    refine (ts_bind hH hE hR).mono fun vs H1 ⟨us, c1, st1, l1, hH1, hE1, r1, hR1⟩ => ?_
    split at hR1
    · rename_i u w
      obtain ⟨v, vs', rfl, r2, t⟩ := r1.inv_cons
      obtain ⟨v2, vs2, rfl, r3, t2⟩ := t.inv_cons
      cases t2.inv_nil
      exact ⟨v, v2, rfl, ResS.go (D := D) hR1 hH1 ((hE1.set r2 i hpi).set r3 j hpj)⟩
    · exact hR1.elim
theorem cx_false {P : Program} {w : World} {outer : List PySem.Env} {H : Hp} {s : Shared} {e : Value} {s' : Shared} (h : L2.CX P w outer H s (fun _ _ _ => False) e s') : False := by
  obtain ⟨_, _, _, _, _, _, _, _, _, _, _, _, z⟩ := h
  exact z
theorem rpl_ints {T : Tb} {c : Cn} : ∀ ns : List Int, RpL T c (ns.map U.int) (ns.map V.int)
  | [] => .nil
  | n :: ns => .cons (.int n) (rpl_ints ns)
def begF (H : Hp) (a : Addr) : Hp := fun b => if b = a then (match H a with
  | some o => if isTbl o = true then none else some o
  | none => none) else none
theorem begF_in {H : Hp} {a b : Addr} {o : HO} (e : begF H a b = some o) : b = a ∧ H a = some o ∧ isTbl o = false := by
  unfold begF at e
  split at e
  · rename_i hb
    split at e
    · rename_i u hu
      split at e
      · cases e
      · rename_i k
        cases e
        exact ⟨hb, hu, by simpa using k⟩
    · cases e
  · cases e
theorem begF_at {H : Hp} {a : Addr} {o : HO} (e : H a = some o) (k : isTbl o = false) : begF H a a = some o := by
  unfold begF
  rw [if_pos rfl, e]
  simp [k]
theorem beg_sq {K : PySem.W.Frag} {H : Hp} {a : Addr} {vs : List V} (h : SqL K H a vs) : SqL K (begF H a) a vs := by
  rcases h with h | h
  · rcases h with h | ⟨o, h⟩
    · exact .inl (.inl (begF_at h rfl))
    · exact .inl (.inr ⟨o, begF_at h rfl⟩)
  · exact .inr h
theorem beg_rh {T : Tb} {H : Hp} {a : Addr} (ht : ∀ p ∈ T.tabs, H p.1 = some (.tbl #[])) : RH T ⟨fun _ => 0, 0, begF H a, fun _ => none⟩ [] H where
  n := rfl
  sub := fun b o q => by
    obtain ⟨h1, h2, _⟩ := begF_in q
    rw [h1]
    exact h2
  act := fun i o q => by simp at q
  inj := fun i j x y q => by simp at q
  lkd := fun b o q => by cases q
  tab := fun p hp => ⟨#[], ht p hp, True.intro, fun z v e => by
    have e : codeAmong z [] = some v := e
    simp [codeAmong] at e⟩
  ntb := fun b o q => (begF_in q).2.2
end NK

set_option maxHeartbeats 1000000
namespace NK
open PySem L2

section
variable {α β : Type} {a : α} {s : Sto} {x : Ex} {env : Env}
theorem ob {f : α → Sto → Out β} : (Out.ok a s).bind f = f a s := rfl
theorem xb {f : α → Sto → Out β} : (Out.exc x s : Out α).bind f = .exc x s := rfl
theorem os {k : α → Sto → SO} : (Out.ok a s).st env k = k a s := rfl
theorem xs {k : α → Sto → SO} : (Out.exc x s : Out α).st env k = .exc x env s := rfl
theorem nb {k : MS} : (SO.next env s).bind k = k env s := rfl
theorem rb {k : MS} {u : U} : (SO.ret u s).bind k = .ret u s := rfl
theorem kb {k : MS} : (SO.cont env s).bind k = .cont env s := rfl
theorem eb {k : MS} : (SO.exc x env s).bind k = .exc x env s := rfl
end

def Old (st st2 : Sto) : Prop := st2.length = st.length ∧ ∀ i, i < st.length → st2[i]? = st[i]? ∨ ∃ o, st2[i]? = some o ∧ o.under 0 = true
theorem Old.refl (st : Sto) : Old st st := ⟨rfl, fun _ _ => .inl rfl⟩
theorem Old.hand {h h' : Ob} {rest : Sto} (e : h'.under 0 = true) : Old (h :: rest) (h' :: rest) := by
  refine ⟨rfl, fun i _ => ?_⟩
  cases i with
  | zero => exact .inr ⟨h', rfl, e⟩
  | succ i => exact .inl rfl
theorem Old.trans {a b c : Sto} (h : Old a b) (g : Old b c) : Old a c := by
  refine ⟨g.1.trans h.1, fun i hi => ?_⟩
  rcases g.2 i (by rw [h.1]; exact hi) with q | q
  · rw [q]; exact h.2 i hi
  · exact .inr q
theorem Old.ok {st st2 ext : Sto} (h : Old st st2) : oldOk st (st2 ++ ext) := by
  refine ⟨by rw [List.length_append, h.1]; omega, fun i hi => ?_⟩
  rw [List.getElem?_append_left (by rw [h.1]; exact hi)]
  exact h.2 i hi
theorem Old.take {st st2 ext : Sto} (h : Old st st2) : (st2 ++ ext).take st.length = st2 := by rw [← h.1, List.take_left']; rfl
theorem under_up {u : U} (h : u.under 0 = true) (n : Nat) : u.under n = true := U.under_mono (Nat.zero_le n) h
theorem sc_val {u : U} {st st2 : Sto} (ext : Sto) (h : Old st st2) (hu : u.under 0 = true) : scopeOut st (.ok u (st2 ++ ext)) = .ok u st2 := by
  have f : frz u (st2 ++ ext) = .ok u (st2 ++ ext) := by
    cases u with
    | loc i => simp [U.under] at hu
    | _ => rfl
  show ((frz u (st2 ++ ext)).bind _) = _
  rw [f]
  show (open Classical in if u.under st.length = true ∧ oldOk st (st2 ++ ext) then Out.ok u ((st2 ++ ext).take st.length) else .bad) = _
  rw [if_pos ⟨under_up hu _, h.ok⟩, h.take]
theorem sc_same {u : U} {st : Sto} (hu : u.under 0 = true) : scopeOut st (.ok u st) = .ok u st := by
  have := sc_val (u := u) [] (Old.refl st) hu
  rwa [List.append_nil] at this
theorem sc_old {u : U} {st st2 : Sto} (h : Old st st2) (hu : u.under 0 = true) : scopeOut st (.ok u st2) = .ok u st2 := by
  have := sc_val (u := u) [] h hu
  rwa [List.append_nil] at this
theorem set_app {st2 ext : Sto} {j : Nat} {o : Ob} : (st2 ++ ext).set (st2.length + j) o = st2 ++ ext.set j o := by
  have e := List.set_append (s := st2) (t := ext) (i := st2.length + j) (x := o)
  rw [if_neg (by omega), show st2.length + j - st2.length = j by omega] at e
  exact e
theorem sc_loc {us : List U} {st st2 : Sto} (ext : Sto) {j : Nat} (h : Old st st2) (hj : ext[j]? = some (.lst us)) (hu : U.underL 0 us = true) : scopeOut st (.ok (.loc (st.length + j)) (st2 ++ ext)) = .ok (.lst us) st2 := by
  have q : (st2 ++ ext)[st.length + j]? = some (.lst us) := by
    rw [List.getElem?_append_right (by rw [h.1]; omega), h.1]
    rw [show st.length + j - st.length = j by omega]
    exact hj
  have f : frz (.loc (st.length + j)) (st2 ++ ext) = .ok (.lst us) (st2 ++ ext.set j .dead) := by
    dsimp only [frz]
    rw [q]
    dsimp only
    rw [← h.1, set_app]
  show ((frz (.loc (st.length + j)) (st2 ++ ext)).bind _) = _
  rw [f]
  show (open Classical in if (U.lst us).under st.length = true ∧ oldOk st (st2 ++ ext.set j .dead) then Out.ok (U.lst us) ((st2 ++ ext.set j .dead).take st.length) else .bad) = _
  rw [if_pos ⟨under_up (u := .lst us) (by unfold U.under; exact hu) _, h.ok⟩, h.take]
theorem sc_obj {us : List U} {k : Nat} {st st2 : Sto} (ext : Sto) {j : Nat} (h : Old st st2) (hj : ext[j]? = some (.ins k us)) (hu : U.underL 0 us = true) : scopeOut st (.ok (.loc (st.length + j)) (st2 ++ ext)) = .ok (.ins k us) st2 := by
  have q : (st2 ++ ext)[st.length + j]? = some (.ins k us) := by
    rw [List.getElem?_append_right (by rw [h.1]; omega), h.1]
    rw [show st.length + j - st.length = j by omega]
    exact hj
  have f : frz (.loc (st.length + j)) (st2 ++ ext) = .ok (.ins k us) (st2 ++ ext.set j .dead) := by
    dsimp only [frz]
    rw [q]
    dsimp only
    rw [← h.1, set_app]
  show ((frz (.loc (st.length + j)) (st2 ++ ext)).bind _) = _
  rw [f]
  show (open Classical in if (U.ins k us).under st.length = true ∧ oldOk st (st2 ++ ext.set j .dead) then Out.ok (U.ins k us) ((st2 ++ ext.set j .dead).take st.length) else .bad) = _
  rw [if_pos ⟨under_up (u := .ins k us) (by unfold U.under; exact hu) _, h.ok⟩, h.take]
theorem underL_app {n : Nat} : ∀ {us ws : List U}, U.underL n us = true → U.underL n ws = true → U.underL n (us ++ ws) = true
  | [], _, _, h => h
  | u :: us, ws, h, g => by
    unfold U.underL at h
    rw [Bool.and_eq_true] at h
    show U.underL n (u :: (us ++ ws)) = true
    unfold U.underL
    rw [h.1, underL_app h.2 g]
    rfl
theorem underL_all {n : Nat} : ∀ {us : List U}, (∀ u ∈ us, u.under n = true) → U.underL n us = true
  | [], _ => rfl
  | u :: us, h => by
    unfold U.underL
    rw [h u List.mem_cons_self, underL_all fun w hw => h w (List.mem_cons_of_mem _ hw)]
    rfl
theorem underL_mem {n : Nat} : ∀ {us : List U} {u : U}, U.underL n us = true → u ∈ us → u.under n = true
  | w :: us, u, h, hm => by
    unfold U.underL at h
    rw [Bool.and_eq_true] at h
    rcases List.mem_cons.mp hm with rfl | hm
    · exact h.1
    · exact underL_mem h.2 hm

mutual
def datU : U → PyData
  | .bl b => .bool b
  | .int i => .int i
  | .str x => .str x
  | .tup us => .tuple (datL us)
  | .lst us => .list (datL us)
  | _ => .none
def datL : List U → List PyData
  | [] => []
  | u :: us => datU u :: datL us
end
def okU : Nat → U → Bool
  | 0, _ => false
  | n + 1, u => match u with
    | .non => true
    | .bl _ => true
    | .int _ => true
    | .str x => PyData.canLay0 (.str x)
    | .tup us => us.all (okU n)
    | .lst us => us.all (okU n)
    | _ => false
theorem okU_D {st : Sto} : ∀ (n : Nat) (u : U), okU n u = true → toD st n u = some (datU u) ∧ PyData.canLay0 (datU u) = true ∧ PyData.depth (datU u) ≤ n
  | 0, _, h => by cases h
  | n + 1, u, h => by
    have lst : ∀ us : List U, us.all (okU n) = true → allD (toD st n) us = some (datL us) ∧ PyData.canLayAll0 (datL us) = true ∧ PyData.depthAll (datL us) ≤ n := by
      intro us
      induction us with
      | nil => intro _; exact ⟨rfl, rfl, Nat.zero_le _⟩
      | cons w us ih =>
        intro hh
        rw [List.all_cons, Bool.and_eq_true] at hh
        obtain ⟨a1, a2, a3⟩ := okU_D n w hh.1
        obtain ⟨b1, b2, b3⟩ := ih hh.2
        refine ⟨?_, ?_, ?_⟩
        · unfold allD
          rw [a1, b1]
          rfl
        · unfold datL PyData.canLayAll0
          rw [a2, b2]
          rfl
        · unfold datL PyData.depthAll
          exact Nat.max_le.mpr ⟨a3, b3⟩
    cases u with
    | non => exact ⟨rfl, rfl, Nat.zero_le _⟩
    | bl b => exact ⟨rfl, rfl, Nat.zero_le _⟩
    | int i => exact ⟨rfl, rfl, Nat.zero_le _⟩
    | str x => exact ⟨rfl, h, Nat.zero_le _⟩
    | tup us =>
      obtain ⟨a, b, c⟩ := lst us h
      refine ⟨?_, ?_, ?_⟩
      · show (allD (toD st n) us).map _ = _
        rw [a]
        rfl
      · unfold datU PyData.canLay0
        exact b
      · unfold datU PyData.depth
        omega
    | lst us =>
      obtain ⟨a, b, c⟩ := lst us h
      refine ⟨?_, ?_, ?_⟩
      · show (allD (toD st n) us).map _ = _
        rw [a]
        rfl
      · unfold datU PyData.canLay0
        exact b
      · unfold datU PyData.depth
        omega
    | _ => cases h
def eqvU (u w : U) : Bool := PyData.eqv (datU u) (datU w)
theorem okU_shaped {u : U} (h : okU 12 u = true) : SeqAt.shaped (datU u) = true := by
  obtain ⟨_, b, c⟩ := okU_D (st := []) 12 u h
  unfold SeqAt.shaped
  rw [b, Bool.true_and]
  exact decide_eq_true (by omega)
theorem fEqB_ok {g : Bool → Bool} {u w : U} {st : Sto} (hu : okU 12 u = true) (hw : okU 12 w = true) : fEqB g u w st = .ok (.bl (g (eqvU u w))) st := by
  unfold fEqB
  rw [(okU_D 12 u hu).1, (okU_D 12 w hw).1]
  dsimp only
  rw [if_pos ⟨okU_shaped hu, okU_shaped hw⟩]
  rfl
theorem fEq_ok {u w : U} {st : Sto} (hu : okU 12 u = true) (hw : okU 12 w = true) : fEq u w st = .ok (.bl (eqvU u w)) st := fEqB_ok hu hw
theorem fNe_ok {u w : U} {st : Sto} (hu : okU 12 u = true) (hw : okU 12 w = true) : fNe u w st = .ok (.bl (!eqvU u w)) st := fEqB_ok hu hw
theorem eqvU_same {u : U} (h : okU 12 u = true) : eqvU u u = true := PySem.SeqAt.eqv_refl _ (okU_D (st := []) 12 u h).2.1
theorem okU_up : ∀ (n : Nat) (u : U), okU n u = true → okU (n + 1) u = true
  | 0, _, h => by cases h
  | n + 1, u, h => by
    have lst : ∀ us : List U, us.all (okU n) = true → us.all (okU (n + 1)) = true := fun us hh => by
      rw [List.all_eq_true] at hh ⊢
      exact fun w hw => okU_up n w (hh w hw)
    cases u with
    | tup us => exact lst us h
    | lst us => exact lst us h
    | _ => exact h
mutual
theorem okU_under : ∀ (n : Nat) (u : U), okU n u = true → u.under 0 = true
  | 0, _, h => by cases h
  | n + 1, u, h => by
    cases u with
    | tup us => unfold U.under; exact okU_underL n us h
    | lst us => unfold U.under; exact okU_underL n us h
    | non => rfl
    | bl b => rfl
    | int i => rfl
    | str x => rfl
    | _ => cases h
theorem okU_underL : ∀ (n : Nat) (us : List U), us.all (okU n) = true → U.underL 0 us = true
  | _, [], _ => rfl
  | n, u :: us, h => by
    rw [List.all_cons, Bool.and_eq_true] at h
    unfold U.underL
    rw [okU_under n u h.1, okU_underL n us h.2]
    rfl
end
end NK

namespace NK
open PySem L2
section
variable {g : Sto → Prop} {gt : MGt} {b : MS} {u : U} {us : List U} {env env1 env2 : Env} {st st2 : Sto} {x : Ex} {r : U}
theorem forM_nil (hg : g st) : forM g gt b [] env st = .next env st := by unfold forM; rw [if_pos hg]
theorem forM_n (hg : g st) (ht : gt u env st = some env1) (hb : b env1 st = .next env2 st2) : forM g gt b (u :: us) env st = forM g gt b us env2 st2 := by
  rw [forM, if_pos hg, ht]; dsimp only; rw [hb]
theorem forM_r (hg : g st) (ht : gt u env st = some env1) (hb : b env1 st = .ret r st2) : forM g gt b (u :: us) env st = .ret r st2 := by
  rw [forM, if_pos hg, ht]; dsimp only; rw [hb]
theorem forM_x (hg : g st) (ht : gt u env st = some env1) (hb : b env1 st = .exc x env2 st2) : forM g gt b (u :: us) env st = .exc x env2 st2 := by
  rw [forM, if_pos hg, ht]; dsimp only; rw [hb]
end
theorem wipe1 (env : Env) (i : Nat) (u : U) : (wipeE env [i]).set i (some u) = env.set i (some u) := by
  show (env.set i none).set i (some u) = _
  rw [List.set_set]
section
variable {g : Sto → Prop} {i : Nat} {mt : MT} {me : ME} {mi : MI} {env : Env} {st : Sto}
theorem compM_pure (f : U → U) (p : U → Bool) (hg : ∀ acc, g (st ++ [.lst acc])) : ∀ (us acc : List U), acc.length + us.length ≤ 16777216 →
    (∀ u ∈ us, ∀ acc, mt (env.set i (some u)) (st ++ [.lst acc]) = .ok (p u) (st ++ [.lst acc]) ∧ (p u = true → me (env.set i (some u)) (st ++ [.lst acc]) = .ok (f u) (st ++ [.lst acc]))) →
    compM g (gN i) mt me st.length (wipeE env [i]) us (st ++ [.lst acc]) = .ok (.loc st.length) (st ++ [.lst (acc ++ (us.filter p).map f)])
  | [], acc, _, _ => by unfold compM; rw [if_pos (hg acc)]; simp
  | u :: us, acc, hz, h => by
    have ih := compM_pure f p hg us
    obtain ⟨h1, h2⟩ := h u List.mem_cons_self acc
    have h' := fun w hw => h w (List.mem_cons_of_mem _ hw)
    rw [List.length_cons] at hz
    unfold compM
    rw [if_pos (hg acc)]
    show (match mt ((wipeE env [i]).set i (some u)) (st ++ [.lst acc]) with | .ok true st1 => _ | .ok false st1 => _ | _ => Out.bad) = _
    rw [wipe1, h1]
    cases hp : p u with
    | false =>
      dsimp only
      rw [ih acc (by omega) h', List.filter_cons_of_neg (by simp [hp])]
    | true =>
      dsimp only
      rw [h2 hp]
      dsimp only
      have e : (st ++ [Ob.lst acc])[st.length]? = some (.lst acc) := by simp
      rw [e]
      dsimp only
      rw [if_pos (by omega)]
      have e2 : (st ++ [Ob.lst acc]).set st.length (.lst (acc ++ [f u])) = st ++ [.lst (acc ++ [f u])] := by simp
      rw [e2, ih (acc ++ [f u]) (by simp; omega) h', List.filter_cons_of_pos hp]
      simp [List.append_assoc]
theorem comp_pure (f : U → U) (p : U → Bool) {us : List U} (hm : mi env st = .ok ⟨us, g⟩ st) (hg : ∀ acc, g (st ++ [.lst acc])) (hz : us.length ≤ 16777216)
    (h : ∀ u ∈ us, ∀ acc, mt (env.set i (some u)) (st ++ [.lst acc]) = .ok (p u) (st ++ [.lst acc]) ∧ (p u = true → me (env.set i (some u)) (st ++ [.lst acc]) = .ok (f u) (st ++ [.lst acc]))) :
    eComp mi (gN i) mt me [i] env st = .ok (.loc st.length) (st ++ [.lst ((us.filter p).map f)]) := by
  unfold eComp
  rw [hm, ob, compM_pure f p hg us [] (by simpa using hz) h, List.nil_append]
theorem comp_scope (f : U → U) (p : U → Bool) {us : List U} (hm : mi env st = .ok ⟨us, g⟩ st) (hg : ∀ acc, g (st ++ [.lst acc])) (hz : us.length ≤ 16777216)
    (h : ∀ u ∈ us, ∀ acc, mt (env.set i (some u)) (st ++ [.lst acc]) = .ok (p u) (st ++ [.lst acc]) ∧ (p u = true → me (env.set i (some u)) (st ++ [.lst acc]) = .ok (f u) (st ++ [.lst acc])))
    (hu : U.underL 0 ((us.filter p).map f) = true) : eScope (eComp mi (gN i) mt me [i]) env st = .ok (.lst ((us.filter p).map f)) st := by
  unfold eScope
  rw [comp_pure f p hm hg hz h]
  exact sc_loc (j := 0) [.lst _] (Old.refl st) rfl hu
def dedup : List Int → List Int → List Int
  | acc, [] => acc
  | acc, k :: r => dedup (if k ∈ acc then acc else acc ++ [k]) r
theorem scM_pure (f : U → Int) (p : U → Bool) (hg : ∀ acc, g (st ++ [.iset acc])) : ∀ (us : List U) (acc : List Int), acc.length + us.length ≤ 999 →
    (∀ u ∈ us, ∀ acc, mt (env.set i (some u)) (st ++ [.iset acc]) = .ok (p u) (st ++ [.iset acc]) ∧ (p u = true → me (env.set i (some u)) (st ++ [.iset acc]) = .ok (.int (f u)) (st ++ [.iset acc]))) →
    scM g (gN i) mt me st.length (wipeE env [i]) us (st ++ [.iset acc]) = .ok (.loc st.length) (st ++ [.iset (dedup acc ((us.filter p).map f))])
  | [], acc, _, _ => by unfold scM; rw [if_pos (hg acc)]; simp [dedup]
  | u :: us, acc, hz, h => by
    have ih := scM_pure f p hg us
    obtain ⟨h1, h2⟩ := h u List.mem_cons_self acc
    have h' := fun w hw => h w (List.mem_cons_of_mem _ hw)
    rw [List.length_cons] at hz
    unfold scM
    rw [if_pos (hg acc)]
    show (match mt ((wipeE env [i]).set i (some u)) (st ++ [.iset acc]) with | .ok true st1 => _ | .ok false st1 => _ | _ => Out.bad) = _
    rw [wipe1, h1]
    cases hp : p u with
    | false =>
      dsimp only
      rw [ih acc (by omega) h', List.filter_cons_of_neg (by simp [hp])]
    | true =>
      dsimp only
      rw [h2 hp]
      dsimp only
      have e : (st ++ [Ob.iset acc])[st.length]? = some (.iset acc) := by simp
      rw [e]
      dsimp only
      rw [if_pos (by omega)]
      have e2 : (st ++ [Ob.iset acc]).set st.length (.iset (if f u ∈ acc then acc else acc ++ [f u])) = st ++ [.iset (if f u ∈ acc then acc else acc ++ [f u])] := by simp
      rw [e2, ih _ (by split <;> (try simp) <;> omega) h', List.filter_cons_of_pos hp, List.map_cons]
      rfl
theorem sc_pure (f : U → Int) (p : U → Bool) {us : List U} (hm : mi env st = .ok ⟨us, g⟩ st) (hg : ∀ acc, g (st ++ [.iset acc])) (hz : us.length ≤ 999)
    (h : ∀ u ∈ us, ∀ acc, mt (env.set i (some u)) (st ++ [.iset acc]) = .ok (p u) (st ++ [.iset acc]) ∧ (p u = true → me (env.set i (some u)) (st ++ [.iset acc]) = .ok (.int (f u)) (st ++ [.iset acc]))) :
    eScope (eCB fLenO (aCons (eSc mi (gN i) mt me [i]) aNil)) env st = .ok (.int (dedup [] ((us.filter p).map f)).length) st := by
  have e : eSc mi (gN i) mt me [i] env st = .ok (.loc st.length) (st ++ [.iset (dedup [] ((us.filter p).map f))]) := by
    unfold eSc
    rw [hm, ob, scM_pure f p hg us [] (by simpa using hz) h]
  unfold eScope eCB aCons aNil
  rw [e]
  simp only [ob]
  have e2 : fLenO [.loc st.length] (st ++ [.iset (dedup [] ((us.filter p).map f))]) = .ok (.int (dedup [] ((us.filter p).map f)).length) (st ++ [.iset (dedup [] ((us.filter p).map f))]) := by
    unfold fLenO
    simp
  rw [e2]
  exact sc_val _ (Old.refl st) rfl
end
end NK

namespace NK
open PySem L2
section
variable {n : Nat} {mb : MS} {us : List U} {env env' : Env} {st st2 ext : Sto} {u : U} {x : Ex}
theorem run_ret (he : us.map some ++ List.replicate (n - us.length) none = env) (h : mb env st = .ret u st2) : runF n mb us st = .ok u st2 := by
  unfold runF; rw [he, h]
theorem run_next (he : us.map some ++ List.replicate (n - us.length) none = env) (h : mb env st = .next env' st2) : runF n mb us st = .ok .non st2 := by
  unfold runF; rw [he, h]
theorem run_exc (he : us.map some ++ List.replicate (n - us.length) none = env) (h : mb env st = .exc x env' st2) : runF n mb us st = .exc x st2 := by
  unfold runF; rw [he, h]
theorem fs_val (he : us.map some ++ List.replicate (n - us.length) none = env) (h : mb env st = .ret u (st2 ++ ext)) (o : Old st st2) (hu : u.under 0 = true) : fScope (runF n mb) us st = .ok u st2 := by
  show scopeOut st (runF n mb us st) = _
  rw [run_ret he h]
  exact sc_val ext o hu
theorem fs_same (he : us.map some ++ List.replicate (n - us.length) none = env) (h : mb env st = .ret u st) (hu : u.under 0 = true) : fScope (runF n mb) us st = .ok u st := by
  show scopeOut st (runF n mb us st) = _
  rw [run_ret he h]
  exact sc_same hu
theorem fs_old (he : us.map some ++ List.replicate (n - us.length) none = env) (h : mb env st = .ret u st2) (o : Old st st2) (hu : u.under 0 = true) : fScope (runF n mb) us st = .ok u st2 := by
  show scopeOut st (runF n mb us st) = _
  rw [run_ret he h]
  exact sc_old o hu
theorem fs_non0 (he : us.map some ++ List.replicate (n - us.length) none = env) (h : mb env st = .next env' st) : fScope (runF n mb) us st = .ok .non st := by
  show scopeOut st (runF n mb us st) = _
  rw [run_next he h]
  exact sc_same rfl
theorem fs_exc (he : us.map some ++ List.replicate (n - us.length) none = env) (h : mb env st = .exc x env' st2) : fScope (runF n mb) us st = .exc x st2 := by
  show scopeOut st (runF n mb us st) = _
  rw [run_exc he h]
  rfl
end
section
variable {i j : Int} {st : Sto} {u : U} {us ws : List U}
theorem fAdd_i : fAdd (.int i) (.int j) st = .ok (.int (i + j)) st := rfl
theorem fSub_i : fSub (.int i) (.int j) st = .ok (.int (i - j)) st := rfl
theorem fNeg_i : fNeg (.int i) st = .ok (.int (-i)) st := rfl
theorem fInt_i : fInt [.int i] st = .ok (.int i) st := rfl
theorem fAbs_i : fAbs [.int i] st = .ok (.int (if i < 0 then -i else i)) st := rfl
theorem fLt_i : fLt (.int i) (.int j) st = .ok (.bl (decide (i < j))) st := rfl
theorem fLe_i : fLe (.int i) (.int j) st = .ok (.bl (decide (i ≤ j))) st := rfl
theorem fGt_i : fGt (.int i) (.int j) st = .ok (.bl (decide (j < i))) st := rfl
theorem fMin_i : fMin2 [.int i, .int j] st = .ok (.int (if j < i then j else i)) st := rfl
theorem fMul_i (h : (-18446744073709551616 < i ∧ i < 18446744073709551616) ∨ (-18446744073709551616 < j ∧ j < 18446744073709551616)) : fMul (.int i) (.int j) st = .ok (.int (i * j)) st := by
  have c : cMul i j = true := by
    unfold cMul
    exact decide_eq_true h
  show (if cMul i j = true then _ else Out.bad) = _
  rw [if_pos c]
theorem fMod_i (h : 0 < j) : fMod (.int i) (.int j) st = .ok (.int (i % j)) st := by
  show (if cMod i j = true then _ else Out.bad) = _
  rw [if_pos (show cMod i j = true from decide_eq_true h)]
theorem fDiv_i (h : 0 < j) (h2 : j < 1000000000000000000000000000000000000000000000000000000000000) : fDiv (.int i) (.int j) st = .ok (.int (i / j)) st := by
  show (if cDiv i j = true then _ else Out.bad) = _
  rw [if_pos (show cDiv i j = true from decide_eq_true ⟨h, h2⟩)]
theorem fIsN_n : fIsN u .non st = .ok (.bl u.isNon) st := by cases u <;> rfl
theorem fNotN_n : fNotN u .non st = .ok (.bl (!u.isNon)) st := by cases u <;> rfl
theorem fIx_tup (h : atI us i = some u) : fIx (.tup us) (.int i) st = .ok u st := by
  unfold fIx
  dsimp only [items]
  rw [h]
theorem fIx_lst (h : atI us i = some u) : fIx (.lst us) (.int i) st = .ok u st := by
  unfold fIx
  dsimp only [items]
  rw [h]
theorem atI_nat {k : Nat} : atI us (k : Int) = us[k]? := by
  unfold atI
  by_cases h : k < us.length
  · simp [ixN, h]
  · simp [ixN, h]
theorem fLen_lst : fLen [.lst us] st = .ok (.int us.length) st := rfl
theorem fLen_tup : fLen [.tup us] st = .ok (.int us.length) st := rfl
theorem fTuple_lst : fTuple [.lst us] st = .ok (.tup us) st := rfl
theorem fTuple_tup : fTuple [.tup us] st = .ok (.tup us) st := rfl
end
end NK

namespace NK
open PySem L2
section
variable {X : Cx} {T : Tb} {P : Pin} {Wx : WX}
open PySem.Spec PyProof.Rows in
end
end NK

set_option maxHeartbeats 2000000
namespace NK
open PySem L2

section
variable {X : Cx} {T : Tb} {P : Pin} {Wx : WX} {o i e value : Expr} {es : List Expr} {mo mi m me : ME} {ma : MA} {pos pos' p2 : Pos}

def rInDT (K : PySem.W.Frag) (neg : Bool) : R2 := fun x y H Q => ∃ d ds, Dp K H x d ∧ (Dp K H y (.list ds) ∨ Dp K H y (.tuple ds)) ∧ SeqAt.shaped d = true ∧ SeqAt.shaped (.list ds) = true ∧ Q (.bl ((ds.any fun z => PyData.eqv z d) != neg)) H
open PySem PySem.Spec PyProof.Rows in
open PySem PySem.Spec PyProof.Rows in
theorem op_notInDT (hu : X.A.units + 65 < cLine) : OpR X (compareOp .NotIn) (rInDT X.K true) := by
  intro pins s σ H x y v u Q I rx ry h
  obtain ⟨d, ds, hd, he, sd, se, q⟩ := h
  obtain ⟨as, r1⟩ := Dp.reads I d x v hd rx
  rw [Bool.bne_true] at q
  rcases he with he | he
  · obtain ⟨bs, r2⟩ := Dp.reads I (.list ds) y u he ry
    exact SeqAt.notIn_list_reads r2 r1 (SeqAt.canLay_of_shaped se) (SeqAt.canLay_of_shaped sd) (room_in_shaped sd hu) ⟨.bl _, H, I, rfl, q⟩
  · obtain ⟨bs, r2⟩ := Dp.reads I (.tuple ds) y u he ry
    exact SeqAt.notIn_tuple_reads r2 r1 (SeqAt.canLay_of_shaped se) (SeqAt.canLay_of_shaped sd) (room_in_shaped sd hu) ⟨.bl _, H, I, rfl, q⟩
def itemsD : PyData → Option (List PyData)
  | .list ds => some ds
  | .tuple ds => some ds
  | _ => none
def fInD (neg : Bool) : U → U → Sto → Out U := fun u w st => match toD st 12 u, (toD st 12 w).bind itemsD with
  | some d, some ds => if SeqAt.shaped d = true ∧ SeqAt.shaped (.list ds) = true then .ok (.bl ((ds.any fun z => PyData.eqv z d) != neg)) st else .bad
  | _, _ => .bad
theorem sim_inD {neg : Bool} : OpSim T (rInDT T.K neg) (fInD neg) := fun Wx c σ st H u w x y Q hH ru rw hR => by
  dsimp only [fInD] at hR
  split at hR
  · rename_i d ds e1 e2
    split at hR
    · rename_i hs
      refine ⟨d, ds, toD_at hH _ _ _ _ ru e1, ?_, hs.1, hs.2, ResG.ret hR hH (.bl _)⟩
      obtain ⟨z, e3, e4⟩ := Option.bind_eq_some_iff.mp e2
      have h := toD_at hH _ _ _ _ rw e3
      cases z with
      | list zs => cases e4; exact .inl h
      | tuple zs => cases e4; exact .inr h
      | _ => cases e4
    · exact hR.elim
  · exact hR.elim

structure PDm (X : Cx) (T : Tb) (P : Pin) (Wx : WX) (pos : Pos) (keys : List (Option Expr)) (values : List Expr) (ks : List Str) (ma : MA) : Prop where
  run : ∃ trs, PPs X pos keys values trs ∧ ∀ σ H Q, taOf T P Wx ma σ H (fun vs H' => Q ((ks.map V.str).zip vs) H') → tPairs trs σ H Q
def keysU : List U → Option (List Key)
  | [] => some []
  | u :: us => match keyU u, keysU us with
    | some k, some ks => some (k :: ks)
    | _, _ => none
def dicTAt (u : U) (st : Sto) : Option (Nat × List (List Key × U)) := match u with
  | .loc i => match st[i]? with
    | some (.dT kvs) => some (i, kvs)
    | _ => none
  | _ => none
def dicTRd (u : U) (st : Sto) : Option (List (List Key × U)) := match u with
  | .loc i => match st[i]? with
    | some (.dT kvs) => some kvs
    | some (.lk (.dT kvs)) => some kvs
    | _ => none
  | _ => none
def keyT (us : List U) : Option (List Key) := if us.length ≤ 100 then keysU us else none
def eDGetT (mo : ME) (ma : MA) : ME := fun env st => (mo env st).bind fun o st1 => (ma env st1).bind fun us st2 => match dicTRd o st2, keyT us with
  | some kvs, some k => match valU kvs k with
    | some w => .ok w st2
    | none => .bad
  | _, _ => .bad
def eDInT (neg : Bool) (ma : MA) (mo : ME) : ME := fun env st => (ma env st).bind fun us st1 => match keyT us with
  | some k => (mo env st1).bind fun o st2 => match dicTRd o st2 with
    | some kvs => .ok (.bl ((valU kvs k).isSome != neg)) st2
    | none => .bad
  | none => .bad
def dputT (o : U) (us : List U) (w : U) (st : Sto) : Option Sto := match dicTAt o st, keyT us with
  | some (n, kvs), some k => if kvs.length < 16777216 then some (st.set n (.dT (putU kvs k w))) else none
  | _, _ => none
def sDPutT (mo : ME) (ma : MA) (m : ME) : MS := fun env st => (m env st).st env fun w st1 => (mo env st1).st env fun o st2 => (ma env st2).st env fun us st3 => match dputT o us w st3 with
  | some st4 => .next env st4
  | none => .bad
end
end NK

namespace NK
open PySem L2

section
variable {X : Cx} {pins : List (Addr × Obj)} {σ : L2.St} {H : Hp} {s : Shared}
open PySem PySem.Spec PyProof.Rows in
variable {C f : Addr} {fd : FuncData} {ps : List Str} {sp : Sp} {n : Nat} {A1 : Around} {E : Value → Shared → Prop}
end

structure ItK (K : PySem.W.Frag) (C fi fl : Addr) : Prop where
  it : PySem.W.findIn K (.ref C) "__iter__" = some (some (.ref fi))
  itF : PySem.W.isFn K (.ref fi) = true
  ln : PySem.W.findIn K (.ref C) "__len__" = some (some (.ref fl))
  lnF : PySem.W.isFn K (.ref fl) = true

section
variable {X : Cx} {pins : List (Addr × Obj)} {σ : L2.St} {H : Hp} {s : Shared} {C fi fl : Addr} {fdI fdL : FuncData} {psI psL : List Str} {fld : Str} {n : Nat} {E : Value → Shared → Prop}
open PySem PySem.Spec PyProof.Rows in
open PySem PySem.Spec PyProof.Rows in
open PySem PySem.Spec PyProof.Rows in
open PySem PySem.Spec PyProof.Rows in
end

section
variable {X : Cx} {T : Tb} {P : Pin} {Wx : WX} {Pg : Program} {w : World} {K : PySem.W.Frag} {mg : Str → Option Value} {base : Heap} {x qual : Str} {params : Arguments} {body : List Stmt} {scope : Scope} {dvs : List V} {kws : List (Str × V)} {f : Addr} {fd : FuncData} {N ps : List Str} {n k j : Nat} {fld : Str}
open PyProof.Rows (envOfC) in
open PyProof.Rows (envOfC) in
end
end NK
namespace NK
open PySem L2
theorem units65 {k : Nat} {A : Around} (r : Room k A) : A.units + 65 < cLine := by have := r.un; omega
end NK
namespace NK
open PySem L2
end NK
namespace NK
open PySem L2
def sPar3 (i j l : Nat) (ma : MA) : MS := fun env st => (ma env st).st env fun us st1 => match us with
  | [u, w, z] => .next (((env.set i (some u)).set j (some w)).set l (some z)) st1
  | _ => .bad
theorem psm_par3 {X : Cx} {T : Tb} {P : Pin} {Wx : WX} {i j l : Nat} {x y z : Str} {a b c : Expr} {ma : MA} {px py pz pt pos : Pos} {kt k2 pt2} (hc : X.calm = true) (hN : X.N.Nodup) (hi : X.N[i]? = some x) (hj : X.N[j]? = some y) (hl : X.N[l]? = some z) (hij : i ≠ j) (hil : i ≠ l) (hjl : j ≠ l)
    (hx : X.env.scope.names.lookup x = some .local) (hy : X.env.scope.names.lookup y = some .local) (hz : X.env.scope.names.lookup z = some .local) (ha : PAm X T P Wx [a, b, c] ma)
    (hw : swappedStores [.Tuple [.Name x px, .Name y py, .Name z pz] kt pt] (.Tuple [a, b, c] k2 pt2) X.env = pure (some [x, y, z])) (hpi : pinned P i = false := by rfl) (hpj : pinned P j = false := by rfl) (hpl : pinned P l = false := by rfl)
    (hs : swapsWithSole [.Tuple [.Name x px, .Name y py, .Name z pz] kt pt] (.Tuple [a, b, c] k2 pt2) pos.line X.env = pure false := by rfl) :
    PSm X T P Wx (.Assign [.Tuple [.Name x px, .Name y py, .Name z pz] kt pt] (.Tuple [a, b, c] k2 pt2) pos) (sPar3 i j l ma) :=
  PS.imp (ps_par3 hc hN hi hj hl hij hil hjl hx hy hz ha hw hs) fun D σ H ⟨c, env, st, hH, hE, hR⟩ => by
    refine (ts_bind hH hE hR).mono fun vs H1 ⟨us, c1, st1, l1, hH1, hE1, r1, hR1⟩ => ?_
    split at hR1
    · rename_i u w z
      obtain ⟨v, vs', rfl, r2, t⟩ := r1.inv_cons
      obtain ⟨v2, vs2, rfl, r3, t2⟩ := t.inv_cons
      obtain ⟨v3, vs3, rfl, r4, t3⟩ := t2.inv_cons
      cases t3.inv_nil
      exact ⟨v, v2, v3, rfl, ResS.go (D := D) hR1 hH1 (((hE1.set r2 i hpi).set r3 j hpj).set r4 l hpl)⟩
    · exact hR1.elim
end NK

namespace NK
open PySem L2
inductive All2 {α β : Type} (R : α → β → Prop) : List α → List β → Prop
  | nil : All2 R [] []
  | cons {a : α} {b : β} {as : List α} {bs : List β} : R a b → All2 R as bs → All2 R (a :: as) (b :: bs)
theorem All2.imp {α β : Type} {R R' : α → β → Prop} (f : ∀ a b, R a b → R' a b) : ∀ {as : List α} {bs : List β}, All2 R as bs → All2 R' as bs
  | _, _, .nil => .nil
  | _, _, .cons h t => .cons (f _ _ h) (All2.imp f t)
theorem All2.len {α β : Type} {R : α → β → Prop} : ∀ {as : List α} {bs : List β}, All2 R as bs → as.length = bs.length
  | _, _, .nil => rfl
  | _, _, .cons _ t => by rw [List.length_cons, List.length_cons, t.len]
theorem All2.append {α β : Type} {R : α → β → Prop} : ∀ {as as' : List α} {bs bs' : List β}, All2 R as bs → All2 R as' bs' → All2 R (as ++ as') (bs ++ bs')
  | _, _, _, _, .nil, g => g
  | _, _, _, _, .cons h t, g => .cons h (t.append g)
section
variable {i j : Int} {st S : Sto} {u : U} {us ws : List U} {x y : Str}
theorem fGe_i : fGe (.int i) (.int j) st = .ok (.bl (decide (j ≤ i))) st := rfl
theorem eqv_ii (i j : Int) : eqvU (.int i) (.int j) = (i == j) := by simp [eqvU, datU, PyData.eqv]
theorem ok_int (i : Int) : okU 12 (.int i) = true := rfl
theorem fEq_ii : fEq (.int i) (.int j) st = .ok (.bl (i == j)) st := by rw [fEq_ok (ok_int i) (ok_int j), eqv_ii]
theorem fNe_ii : fNe (.int i) (.int j) st = .ok (.bl (!(i == j))) st := by rw [fNe_ok (ok_int i) (ok_int j), eqv_ii]
theorem okU_str (h : PyData.strOk x = true) (n : Nat) : okU (n + 1) (U.str x) = true := by
  show PyData.canLay0 (.str _) = true
  simpa only [PyData.canLay0] using h
theorem powN {n : Nat} (hn : n ≤ 1000) : fPow (.int 10) (.int (n : Int)) st = .ok (.int ((10 : Int) ^ n)) st := by
  have c : cPow 10 (n : Int) = true := by
    unfold cPow
    exact decide_eq_true ⟨by omega, by omega, by decide⟩
  show (if cPow 10 (n : Int) = true then Out.ok (U.int ((10 : Int) ^ (n : Int).toNat)) st else .bad) = _
  rw [if_pos c, Int.toNat_natCast]
theorem pow18 : fPow (.int 10) (.int 18) st = .ok (.int 1000000000000000000) st := powN (n := 18) (by decide)
def lstK (xs : List U) (st1 : Sto) : Out U := if xs.length ≤ 16777216 then .ok (.loc st1.length) (st1 ++ [.lst xs]) else .bad
theorem lstK_ok {xs : List U} (h : xs.length ≤ 1000) : lstK xs st = .ok (.loc st.length) (st ++ [.lst xs]) := by
  unfold lstK
  rw [if_pos (Nat.le_trans h (by omega))]
theorem esl {ma : MA} {env : NK.Env} : eScope (eLst ma) env st = scopeOut st ((ma env st).bind lstK) := rfl
theorem sc_lit {k : Nat} (hk : k = st.length) (h : U.underL 0 us = true) : scopeOut st (.ok (.loc k) (st ++ [.lst us])) = .ok (.lst us) st := by
  subst hk
  exact sc_loc (j := 0) [.lst us] (Old.refl st) rfl h
theorem sFor_ok {mi : MI} {gt : MGt} {b : MS} {env : NK.Env} {S S1 : Sto} {us : List U} {g : Sto → Prop} {r : SO} (hi : mi env S = .ok ⟨us, g⟩ S1) (hf : forM g gt b us env S1 = r) : sFor mi gt b env S = r := by
  unfold sFor
  rw [hi]
  exact hf
theorem filter_all (l : List U) : l.filter (fun _ => true) = l := List.filter_eq_self.mpr fun _ _ => rfl
theorem ofS_inj {a b : String} (h : Str.ofString a = Str.ofString b) : a = b := by
  have h2 := congrArg (fun z : Str => z.cps.toList) h
  rw [Str.ofString_eq_toList, Str.ofString_eq_toList] at h2
  simp only [List.toList_toArray] at h2
  have inj : ∀ (l m : List Char), l.map Char.toNat = m.map Char.toNat → l = m := by
    intro l
    induction l with
    | nil =>
      intro m e
      cases m with
      | nil => rfl
      | cons _ _ => cases e
    | cons c l ih =>
      intro m e
      cases m with
      | nil => cases e
      | cons d m =>
        simp only [List.map_cons, List.cons.injEq] at e
        rw [ih m e.2, Char.ext (UInt32.toNat_inj.mp e.1)]
  exact String.toList_inj.mp (inj _ _ h2)
theorem beq_lit {a b : String} : (Str.ofString a == Str.ofString b) = (a == b) := by
  by_cases h : a = b
  · subst h
    simp
  · have h2 : Str.ofString a ≠ Str.ofString b := fun e => h (ofS_inj e)
    rw [beq_eq_false_iff_ne.mpr h2, beq_eq_false_iff_ne.mpr h]
end
theorem strOk_of (s : String) : PyData.strOk (Str.ofString s) = true := by
  rw [Str.ofString_eq_toList]
  unfold PyData.strOk
  rw [List.all_toArray, List.all_map, List.all_eq_true]
  intro c _
  have := c.valid
  rcases this with q | q
  · exact decide_eq_true (by show c.val.toNat < _; have : c.val.toNat < 0xd800 := q; omega)
  · exact decide_eq_true (by show c.val.toNat < _; exact q.2)
section
variable {S : Sto} {i : Int} {x : Str} {b : Bool} {us : List U} {k : Nat} {j : Nat} {kvs : List (Key × U)}
theorem truth_bl : truth (.bl b) S = some b := rfl
theorem truth_non : truth .non S = some false := rfl
theorem truth_int : truth (.int i) S = some (i != 0) := rfl
theorem truth_tup : truth (.tup us) S = some (!us.isEmpty) := rfl
theorem truth_lst : truth (.lst us) S = some (!us.isEmpty) := rfl
theorem non_non : U.isNon .non = true := rfl
theorem non_bl : U.isNon (.bl b) = false := rfl
theorem non_int : U.isNon (.int i) = false := rfl
theorem non_str : U.isNon (.str x) = false := rfl
theorem non_tup : U.isNon (.tup us) = false := rfl
theorem non_lst : U.isNon (.lst us) = false := rfl
theorem non_ins : U.isNon (.ins k us) = false := rfl
theorem non_loc : U.isNon (.loc j) = false := rfl
end
section
variable {S xs : Sto} {o o' : Ob} {j : Nat}
theorem put2 {k : Nat} {us : List U} {w : U} (h : j = us.length) : putFld k j (U.loc S.length) w (S ++ Ob.ins k us :: xs) = some (S ++ Ob.ins k (us ++ [w]) :: xs) := by
  subst h
  simp [putFld]
end
section
variable {κ : Type} [DecidableEq κ]
end
section
variable {κ : Type} [DecidableEq κ]
end
section
variable {S : Sto} {j : Nat} {kvs : List (Key × U)} {tvs : List (List Key × U)} {x y : Str} {w : U} {neg : Bool}
theorem keyT2 : keyT [.str x, .str y] = some [.inr x, .inr y] := rfl
theorem fApp_s {us : List U} (h : S[j]? = some (.lst us)) (hz : us.length < 16777216) : fApp (.loc j) [w] S = .ok .non (S.set j (.lst (us ++ [w]))) := by
  simp only [fApp, h, hz, if_true]
end
section
variable {us ws : List U} {k : Nat} {S : Sto}
theorem cut_drop : cutU us (some (k : Int)) none = us.drop k := by
  unfold cutU
  rw [HT.sIx_none, HT.sIx_nat]
  by_cases h : k ≤ us.length
  · rw [Nat.min_eq_left h]
    exact List.take_of_length_le (by rw [List.length_drop]; omega)
  · rw [Nat.min_eq_right (by omega), List.drop_eq_nil_of_le (Nat.le_refl _), List.drop_eq_nil_of_le (by omega)]
    simp
end
end NK

namespace NK
open PySem L2

def Cn.wL (c : Cn) (L : Hp) : Cn := { c with L := L }
section
variable {T : Tb} {c : Cn} {L : Hp}
mutual
theorem Rp.wL : ∀ {u : U} {v : V}, Rp T c u v → Rp T (c.wL L) u v
  | _, _, .non => .non
  | _, _, .bl b => .bl b
  | _, _, .int i => .int i
  | _, _, .str x => .str x
  | _, _, .ty n => .ty n
  | _, _, .cls n => .cls n
  | _, _, .tup e r => .tup (c := c.wL L) e (RpL.wL r)
  | _, _, .lst e r => .lst (c := c.wL L) e (RpL.wL r)
  | _, _, .scr e r => .scr (c := c.wL L) e (RpL.wL r)
  | _, _, .ins e l r => .ins (c := c.wL L) e l (RpL.wL r)
  | _, _, .loc hi => .loc (c := c.wL L) hi
theorem RpL.wL : ∀ {us : List U} {vs : List V}, RpL T c us vs → RpL T (c.wL L) us vs
  | _, _, .nil => .nil
  | _, _, .cons r t => .cons (Rp.wL r) (RpL.wL t)
end
theorem RpK.wL {κ : Type} : ∀ {us : List (κ × U)} {vs : List (κ × V)}, RpK T c us vs → RpK T (c.wL L) us vs
  | _, _, .nil => .nil
  | _, _, .cons r t => .cons (Rp.wL r) (RpK.wL t)
theorem RX.wL {x : Ex} {cls : Value} {d : Option Addr} (r : RX T c x cls d) : RX T (c.wL L) x cls d := by
  obtain ⟨e, dx, vs, h1, h2, h3, h4⟩ := r
  exact ⟨e, dx, vs, h1, h2, h3, h4.wL⟩
theorem RE.wL {P : Pin} {env : Env} {σ : St} (r : RE T P c env σ) : RE T P (c.wL L) env σ :=
  ⟨r.len, fun i u e => let ⟨v, h, q⟩ := r.get i u e; ⟨v, h, q.wL⟩, fun p e => ⟨(r.pin p e).1, (r.pin p e).2.wL⟩⟩
theorem RO.wL {o : Ob} {a : Addr} {h : HO} (k : ∀ h', c.L a = some h' → L a = some h') (r : RO T c o a h) : RO T (c.wL L) o a h := by
  induction o generalizing h with
  | lst us => obtain ⟨vs, e, r⟩ := r; exact ⟨vs, e, r.wL⟩
  | tp us => obtain ⟨vs, e, r⟩ := r; exact ⟨vs, e, r.wL⟩
  | dK kvs => obtain ⟨vs, e, r⟩ := r; exact ⟨vs, e, r.wL⟩
  | dT kvs => obtain ⟨vs, e, r⟩ := r; exact ⟨vs, e, r.wL⟩
  | ins j us => obtain ⟨dx, vs, e, z, r⟩ := r; exact ⟨dx, vs, e, z, r.wL⟩
  | iset ks => exact r
  | dead => exact r
  | lk o ih => obtain ⟨od, x, e, q, r⟩ := r; exact ⟨od, x, e, k _ q, ih r⟩
theorem RO.wL1 {o : Ob} {a : Addr} {h : HO} (k : o.isLk = false) (r : RO T c o a h) : RO T (c.wL L) o a h := by
  cases o with
  | lst us => obtain ⟨vs, e, r⟩ := r; exact ⟨vs, e, r.wL⟩
  | tp us => obtain ⟨vs, e, r⟩ := r; exact ⟨vs, e, r.wL⟩
  | dK kvs => obtain ⟨vs, e, r⟩ := r; exact ⟨vs, e, r.wL⟩
  | dT kvs => obtain ⟨vs, e, r⟩ := r; exact ⟨vs, e, r.wL⟩
  | ins j us => obtain ⟨dx, vs, e, z, r⟩ := r; exact ⟨dx, vs, e, z, r.wL⟩
  | iset ks => exact r
  | dead => exact r
  | lk o => cases k
end
section
variable {T : Tb} {c : Cn} {st : Sto} {H : Hp} {i : Nat} {o : Ob} {x : HO}
def Cn.lock (c : Cn) (a : Addr) (h : HO) : Cn := c.wL (upd c.L a h)
noncomputable def Cn.unlock (c : Cn) (a : Addr) : Cn := c.wL (fun b => open Classical in if b = a then none else c.L b)
theorem RH.lk_no (h : RH T c st H) (e : st[i]? = some o) (hd : o ≠ .dead) (k : o.isLk = false) : c.L (c.ρ i) = none := by
  obtain ⟨y, h1, h2, _⟩ := h.act i o e hd
  cases q : c.L (c.ρ i) with
  | none => rfl
  | some u =>
    obtain ⟨q1, od, x', q2⟩ := h.lkd _ _ q
    rw [h1] at q1
    cases q1
    exact absurd q2 (h2.nofrz k od x')
theorem RH.lock (h : RH T c st H) (e : st[i]? = some o) (hd : o ≠ .dead) (k : o.isLk = false) (r : RO T c o (c.ρ i) x) (od : Obj) : RH T (c.lock (c.ρ i) (.frz od x)) (st.set i (.lk o)) (upd H (c.ρ i) (.frz od x)) := by
  have hi : i < st.length := (List.getElem?_eq_some_iff.mp e).1
  have old : ∀ {j : Nat} {a : Ob}, j ≠ i → (st.set i (.lk o))[j]? = some a → st[j]? = some a := fun {j a} hj q => by
    rw [List.getElem?_set_ne (Ne.symm hj)] at q
    exact q
  have self : ∀ {a : Ob}, (st.set i (.lk o))[i]? = some a → a = .lk o := fun {a} q => by
    rw [List.getElem?_set_self hi] at q
    exact (Option.some.inj q).symm
  have ln := h.lk_no e hd k
  refine ⟨by show c.n = _; rw [h.n, List.length_set], fun a u q => ?_, fun j a q da => ?_, fun j l a b ea da eb db q => ?_, fun a u q => ?_, fun q hq => (h.tab q hq).mono (fun _ _ z => z) (tbl_upd (.inr (let ⟨y, h1, h2, _⟩ := h.act i o e hd; ⟨y, h1, h2.notbl⟩)) ·), h.ntb⟩
  · obtain ⟨_, _, _, h3⟩ := h.act i o e hd
    have q' : c.F a = some u := q
    rw [upd_ne (fun z => by rw [z, h3] at q'; cases q')]
    exact h.sub a u q'
  · by_cases hj : j = i
    · subst hj
      cases self q
      obtain ⟨_, _, _, h3⟩ := h.act j o e hd
      exact ⟨.frz od x, upd_same, ⟨od, x, rfl, upd_same, r.wL1 k⟩, h3⟩
    · have q' := old hj q
      obtain ⟨y, h1, h2, h3⟩ := h.act j a q' da
      have ne : c.ρ j ≠ c.ρ i := fun z => hj (h.inj j i a o q' da e hd z)
      refine ⟨y, ?_, h2.wL fun h' z => ?_, h3⟩
      · show upd H (c.ρ i) _ (c.ρ j) = _
        rw [upd_ne ne]
        exact h1
      · show upd c.L (c.ρ i) _ (c.ρ j) = _
        rw [upd_ne ne]
        exact z
  · have q' : c.ρ j = c.ρ l := q
    by_cases hj : j = i
    · by_cases hl : l = i
      · rw [hj, hl]
      · subst hj
        exact h.inj j l o b e hd (old hl eb) db q'
    · by_cases hl : l = i
      · subst hl
        exact h.inj j l a o (old hj ea) da e hd q'
      · exact h.inj j l a b (old hj ea) da (old hl eb) db q'
  · have q' : upd c.L (c.ρ i) (.frz od x) a = some u := q
    by_cases z : a = c.ρ i
    · subst z
      rw [upd_same] at q' ⊢
      cases q'
      exact ⟨rfl, od, x, rfl⟩
    · rw [upd_ne z] at q' ⊢
      exact h.lkd a u q'
theorem RH.unlock (h : RH T c st H) (e : st[i]? = some (.lk o)) (hd : o ≠ .dead) (k : o.isLk = false) : ∃ od y, H (c.ρ i) = some (.frz od y) ∧ c.L (c.ρ i) = some (.frz od y) ∧ RO T c o (c.ρ i) y ∧ RH T (c.unlock (c.ρ i)) (st.set i o) (upd H (c.ρ i) y) := by
  have hi : i < st.length := (List.getElem?_eq_some_iff.mp e).1
  have old : ∀ {j : Nat} {a : Ob}, j ≠ i → (st.set i o)[j]? = some a → st[j]? = some a := fun {j a} hj q => by
    rw [List.getElem?_set_ne (Ne.symm hj)] at q
    exact q
  have self : ∀ {a : Ob}, (st.set i o)[i]? = some a → a = o := fun {a} q => by
    rw [List.getElem?_set_self hi] at q
    exact (Option.some.inj q).symm
  have ld : Ob.lk o ≠ .dead := fun z => nomatch z
  obtain ⟨y, h1, ⟨od, x, rfl, hl, r⟩, h3⟩ := h.act i _ e ld
  refine ⟨od, x, h1, hl, r, by show c.n = _; rw [h.n, List.length_set], fun a u q => ?_, fun j a q da => ?_, fun j l a b ea da eb db q => ?_, fun a u q => ?_, fun q hq => (h.tab q hq).mono (fun _ _ z => z) (tbl_upd (.inr ⟨_, h1, rfl⟩) ·), h.ntb⟩
  · have q' : c.F a = some u := q
    rw [upd_ne (fun z => by rw [z, h3] at q'; cases q')]
    exact h.sub a u q'
  · by_cases hj : j = i
    · subst hj
      cases self q
      exact ⟨x, upd_same, r.wL1 k, h3⟩
    · have q' := old hj q
      obtain ⟨z, k1, k2, k3⟩ := h.act j a q' da
      have ne : c.ρ j ≠ c.ρ i := fun w => hj (h.inj j i a _ q' da e ld w)
      refine ⟨z, ?_, k2.wL fun h' w => ?_, k3⟩
      · show upd H (c.ρ i) _ (c.ρ j) = _
        rw [upd_ne ne]
        exact k1
      · show (open Classical in if c.ρ j = c.ρ i then none else c.L (c.ρ j)) = _
        rw [if_neg ne]
        exact w
  · have q' : c.ρ j = c.ρ l := q
    by_cases hj : j = i
    · by_cases hl : l = i
      · rw [hj, hl]
      · subst hj
        exact h.inj j l _ b e ld (old hl eb) db q'
    · by_cases hl : l = i
      · subst hl
        exact h.inj j l a _ (old hj ea) da e ld q'
      · exact h.inj j l a b (old hj ea) da (old hl eb) db q'
  · have q' : (open Classical in if a = c.ρ i then none else c.L a) = some u := q
    by_cases z : a = c.ρ i
    · rw [if_pos z] at q'
      cases q'
    · rw [if_neg z] at q'
      rw [upd_ne z]
      exact h.lkd a u q'
end

section
variable {X : Cx}
end
section
variable {X : Cx} {T : Tb} {P : Pin} {Wx : WX} {e : Expr} {s : Stmt} {m md : ME} {ms : MS}
end

section
variable {X : Cx} {T : Tb} {P : Pin} {Wx : WX} {tg e : Expr} {m : ME}
theorem RpK.getV {κ : Type} {c : Cn} : ∀ {us : List (κ × U)} {vs : List (κ × V)} {i : Nat} {k : κ} {v : V}, RpK T c us vs → vs[i]? = some (k, v) → ∃ u, us[i]? = some (k, u)
  | _, _, _, _, _, .nil, e => by simp at e
  | _, _, 0, _, _, .cons r _, e => by simp at e; obtain ⟨rfl, rfl⟩ := e; exact ⟨_, rfl⟩
  | _, _, i + 1, k, v, .cons _ t, e => by
    obtain ⟨u, h1⟩ := RpK.getV (i := i) (k := k) (v := v) t (by simpa using e)
    exact ⟨u, by simpa using h1⟩
end
end NK

namespace NK
open PySem PySem.Spec PyProof.Rows L2 GenW
section
variable {prog : Program} {w : World} {A : Around} {R : GenEnd} {Y : Protocol} {n : Nat} {s₀ s : Shared} {fs : List Frame} {env : PySem.Env}
end
section
variable {X : Cx}
end
end NK

namespace NK
open PySem PySem.Spec PyProof.Rows L2
inductive GO where
  | next (ys : List U) (env : Env) (st : Sto)
  | ret (ys : List U) (st : Sto)
  | brk (ys : List U) (env : Env) (st : Sto)
  | cont (ys : List U) (env : Env) (st : Sto)
  | exc (x : Ex) (env : Env) (st : Sto)
  | bad
abbrev MGS := List U → Env → Sto → GO
def ResY (T : Tb) (P : Pin) (Wx : WX) (c : Cn) (r : GO) (D : GEnds) : Prop := match r with
  | .next ys env st => ∀ c' zs σ' H', Le c c' → RH T c' st H' → RE T P c' env σ' → RpL T c' ys zs → D.nx zs σ' H'
  | .ret ys st => ∀ c' zs H', Le c c' → RH T c' st H' → RpL T c' ys zs → D.rt zs .non H'
  | .brk ys env st => ∀ c' zs σ' H', Le c c' → RH T c' st H' → RE T P c' env σ' → RpL T c' ys zs → D.bk zs σ' H'
  | .cont ys env st => ∀ c' zs σ' H', Le c c' → RH T c' st H' → RE T P c' env σ' → RpL T c' ys zs → D.ct zs σ' H'
  | .exc x env st => ∀ c' cls d σ' H', Le c c' → RH T c' st H' → RE T P c' env σ' → RX T c' x cls d → Wx cls d σ' H'
  | .bad => False
theorem GS.imp {X : Cx} {s : Stmt} {t t' : TGn} (h : GS X s t) (k : ∀ D ys σ H, t' D ys σ H → t D ys σ H) : GS X s t' :=
  ⟨fun A S ip R n ys s₀ c fs K J gd lv s σ H D g hn kk hI ht => h.run A S ip R n ys s₀ c fs K J gd lv s σ H D g hn kk hI (k _ _ _ _ ht)⟩
theorem GSs.imp {X : Cx} {s : List Stmt} {t t' : TGn} (h : GSs X s t) (k : ∀ D ys σ H, t' D ys σ H → t D ys σ H) : GSs X s t' :=
  ⟨fun A S ip R n ys s₀ c fs K J gd lv s σ H D g hn kk hI ht => h.run A S ip R n ys s₀ c fs K J gd lv s σ H D g hn kk hI (k _ _ _ _ ht)⟩
section
variable {T : Tb} {P : Pin} {Wx : WX} {c c' : Cn} {r : GO} {D : GEnds}
theorem ResY.later (l : Le c c') (h : ResY T P Wx c r D) : ResY T P Wx c' r D := by
  cases r with
  | next ys env st => exact fun c2 zs σ' H' a b d e => h c2 zs σ' H' (l.trans a) b d e
  | ret ys st => exact fun c2 zs H' a b d => h c2 zs H' (l.trans a) b d
  | brk ys env st => exact fun c2 zs σ' H' a b d e => h c2 zs σ' H' (l.trans a) b d e
  | cont ys env st => exact fun c2 zs σ' H' a b d e => h c2 zs σ' H' (l.trans a) b d e
  | exc x env st => exact fun c2 cls d σ' H' a b e f => h c2 cls d σ' H' (l.trans a) b e f
  | bad => exact h
end
def GO.bind (r : GO) (k : MGS) : GO := match r with
  | .next ys env st => k ys env st
  | r => r
def gNil : MGS := fun ys env st => .next ys env st
section
variable {X : Cx} {T : Tb} {P : Pin} {Wx : WX} {s : Stmt} {rest : List Stmt} {e : Expr} {ma mb : MGS} {ms : MS} {m : ME} {pos yp : Pos}
end
abbrev MGF := List U → Sto → Out (List U)
section
variable {P : Program} {w : World} {K : PySem.W.Frag} {mg : Str → Option Value} {base : Heap} {T : Tb} {x qual : Str} {params : Arguments} {body : List Stmt} {scope : Scope} {dvs : List V} {kws : List (Str × V)} {f : Addr} {fd : FuncData} {N ps : List Str} {k : Nat} {mb : MGS}
end
section
variable {X : Cx} {T : Tb} {P : Pin} {Wx : WX} {k n : Nat} {f : Addr} {fd : FuncData} {ps : List Str} {mf : MGF} {dus : List U} {dvs : List V} {ds : List Value} {x : Str} {p p2 pos pos' : Pos} {e : Expr} {es : List Expr} {ma : MA}
end
end NK

namespace NK
open PySem PySem.Spec PyProof.Rows L2
section
variable {prog : Program} {w : World} {A : Around} {E : Value → Shared → Prop} {s : Shared} {K : PySem.W.Frag} {x C Lf f : Addr} {h₀ : Heap} {m : Str → Option Value} {ox : Obj} {od : Option Obj} {name : Str} {b tb : Value}
end
section
variable {X : Cx} {T : Tb}
end

section
variable {P : Program} {w : World} {K : PySem.W.Frag} {mg : Str → Option Value} {base : Heap} {T : Tb} {x qual pv : Str} {params : Arguments} {body : List Stmt} {scope : Scope} {dvs : List V} {kws : List (Str × V)} {f : Addr} {fd : FuncData} {N ps : List Str} {k : Nat} {mb : MS}
end
section
variable {X : Cx} {T : Tb} {P : Pin} {Wx : WX} {k kk n : Nat} {f : Addr} {mf : MF} {mn : Str} {o e : Expr} {es : List Expr} {mo : ME} {mas : MA} {pos apos : Pos}
end
end NK

namespace NK
open PySem PySem.Spec PyProof.Rows L2
section
variable {X : Cx} {T : Tb} {P : Pin} {Wx : WX} {o e : Expr} {mo me : ME} {ma : MA} {apos pos p2 : Pos}
end
end NK

namespace NK
open PySem PySem.Spec PyProof.Rows L2
section
variable {X : Cx} {T : Tb} {P : Pin} {Wx : WX} {o e : Expr} {mo me m : ME} {ma : MA} {apos pos p2 : Pos}
open Builtin Builtin.Str Builtin.Float in
open Builtin Builtin.Str Builtin.Float in
open Builtin Builtin.Str Builtin.Float in
inductive PJm (X : Cx) (T : Tb) (P : Pin) (Wx : WX) : List Expr → List ME → Prop where
  | nil : PJm X T P Wx [] []
  | cons {e : Expr} {m : ME} {es : List Expr} {ms : List ME} (h : PEm X T P Wx e m) (r : PJm X T P Wx es ms) : PJm X T P Wx (e :: es) (m :: ms)
def firstD (d : PyData) : List PyData → Nat → Option Nat
  | [], _ => none
  | z :: ds, k => if PyData.eqv z d = true then some k else firstD d ds (k + 1)
theorem firstD_at {d : PyData} : ∀ (ds : List PyData) (k j : Nat), firstD d ds k = some j → k ≤ j ∧ ∃ z, ds[j - k]? = some z ∧ PyData.eqv z d = true ∧ ∀ (m : Nat) (z' : PyData), m < j - k → ds[m]? = some z' → PyData.eqv z' d = false
  | [], k, j, h => by cases h
  | z :: ds, k, j, h => by
    unfold firstD at h
    split at h
    · rename_i e
      cases h
      exact ⟨Nat.le_refl _, z, by rw [Nat.sub_self]; rfl, e, fun m z' hm => by omega⟩
    · rename_i e
      obtain ⟨h1, z1, h2, h3, h4⟩ := firstD_at ds (k + 1) j h
      refine ⟨by omega, z1, ?_, h3, fun m z' hm hz => ?_⟩
      · rw [show j - k = (j - (k + 1)) + 1 by omega, List.getElem?_cons_succ]
        exact h2
      · cases m with
        | zero =>
          cases hz
          exact Bool.eq_false_iff.mpr e
        | succ m => exact h4 m z' (by omega) hz
def fIndex : U → List U → Sto → Out U := fun u ws st => match ws with
  | [w] => match toD st 12 u, toD st 12 w with
    | some (.list ds), some d => if SeqAt.shaped d = true ∧ SeqAt.shaped (.list ds) = true then (match firstD d ds 0 with
      | some j => .ok (.int (j : Nat)) st
      | none => .bad) else .bad
    | _, _ => .bad
  | _ => .bad
theorem sim_index : MtSim T (rIndexD T.K) fIndex := fun Wx c σ st H u x us xs Q hH ru r hR => by
  cases r with
  | nil => exact hR.elim
  | @cons w y ws ys r1 t =>
    cases t with
    | cons _ _ => exact hR.elim
    | nil =>
      dsimp only [fIndex] at hR
      split at hR
      · rename_i ds d e1 e2
        split at hR
        · rename_i hs
          split at hR
          · rename_i j hj
            obtain ⟨_, z, h1, h2, h3⟩ := firstD_at ds 0 j hj
            have hd := toD_at hH _ _ _ _ ru e1
            cases hd with
            | lst ha hb =>
              exact ⟨_, y, d, ds, j, z, rfl, rfl, .lst ha hb, toD_at hH _ _ _ _ r1 e2, hs.2, hs.1, h1, h2, h3, ResG.ret hR hH (.int _)⟩
          · exact hR.elim
        · exact hR.elim
      · exact hR.elim
end
end NK

namespace NK
open PySem PySem.Spec PyProof.Rows L2
section
variable {X : Cx} {T : Tb} {P : Pin} {Wx : WX} {e : Expr} {me : ME} {j : Nat} {sps spj pos : Pos}
end
end NK

namespace NK
open PySem L2
section
variable {X : Cx} {pins : List (Addr × Obj)} {σ : L2.St} {H : Hp} {s : Shared} {a b : Addr} {ks : List Key} {kvs : List (List Key × V)} {A : Around} {E : Value → Shared → Prop}
open PySem PySem.Spec PyProof.Rows in
open PySem PySem.Spec PyProof.Rows in
open PySem PySem.Spec PyProof.Rows in
end
section
variable {X : Cx} {T : Tb} {P : Pin} {Wx : WX} {o i : Expr} {mo mi : ME} {pos : Pos}
end
end NK

namespace NK
open PySem L2
end NK

namespace L2
open PySem PySem.Spec PyProof.Rows
def dropX (i : Nat) (D : Ends) : Ends := { nx := fun τ G => D.nx (τ.set i none) G, rt := D.rt, bk := fun τ G => D.bk (τ.set i none) G, ct := fun τ G => D.ct (τ.set i none) G }
def wAsMany (K : PySem.W.Frag) (i : Nat) (Wout : WX) (D : Ends) : List (Value × (Addr → Value → Option Addr → TS)) → WX
  | [] => Wout
  | (c, ts) :: r => fun cls9 d9 σ H => ∃ b, PySem.W.exmOne K cls9 c = some b ∧ (b = true → ∀ a9, H a9 = none → ts a9 cls9 d9 (dropX i D) (σ.set i (some (.ref a9))) H) ∧ (b = false → wAsMany K i Wout D r cls9 d9 σ H)
inductive HdsAs (X : Cx) (n : Str) : List ExceptHandler → List (Value × (Addr → Value → Option Addr → TS)) → Prop
  | nil : HdsAs X n [] []
  | cons {x : Str} {c : Value} {ts : Addr → Value → Option Addr → TS} {b₀9 : Stmt} {suite9 : List Stmt} {np9 posp9 : Pos} {hds9 : List ExceptHandler} {l : List (Value × (Addr → Value → Option Addr → TS))} (hc9 : Names X x c)
      (hsu9 : ∀ (a9 : Addr) (oe9 : Obj) (cls9 : Value) (d9 : Option Addr) (pn9 : List (Addr × Obj)), Zc cls9 d9 oe9 → (∃ vs9, oe9.data = .fields vs9) → PSs (X.suite a9 ((a9, oe9) :: pn9)) (b₀9 :: suite9) (ts a9 cls9 d9)) (r : HdsAs X n hds9 l) :
      HdsAs X n (.ExceptHandler (some (.Name x np9)) (some n) (b₀9 :: suite9) posp9 :: hds9) ((c, ts) :: l)
section
variable {X : Cx} {n : Str} {i : Nat} {body : List Stmt} {h₀ : ExceptHandler} {hds9 : List ExceptHandler} {l : List (Value × (Addr → Value → Option Addr → TS))} {pos : Pos} {tb : WX → TS} {Wout : WX}
theorem ps_try_asMany (hN : X.N.Nodup) (hi : X.N[i]? = some n) (hln : X.env.kindOf n = some .local) (hs : X.stack = X.env :: X.outer) (hf : X.env.frame = some X.env.locals) (tk : Takes X Wout)
    (hb : ∀ (W9 : WX) (pn9 : List (Addr × Obj)) (xe9 : Value → Shared → Prop), Takes (X.tr pn9 xe9) W9 → PassesOwn (model X.prog X.w) X.A X.env xe9 → PSs (X.tr pn9 xe9) body (tb W9))
    (hh : HdsAs X n (h₀ :: hds9) l) : PS X (.Try body (h₀ :: hds9) [] [] pos) (fun D σ H => tb (wAsMany X.K i Wout D l) D σ H) := by
  refine ⟨fun pins s σ H D I9 h9 => ?_⟩
  have ok9 := I9.ok
  have hloc : Loc X.env.scope n := .inl hln
  have hfr9 : X.A.frames = some (X.env :: X.outer) := by rw [ok9.frames, hs]
  refine wpAny_Try_except ?_
  refine wpAny_mono ((hb (wAsMany X.K i Wout D l) (X.pn ++ pins) (fun e s₁9 => wpAny (model X.prog X.w) X.A (noteFrame e X.env) (fun _ s₂9 => wpAny (model X.prog X.w) X.A (setFlight e none) (fun _ s₃9 =>
    wpAny (model X.prog X.w) X.A (handleBy e X.env (h₀ :: hds9)) (SP X pins D) X.xe s₃9) X.xe s₂9) X.xe s₁9) (fun u s' xx9 => ?_) PassesOwn.looking).run [] s σ H D (I9.toTry _) h9) (fun f s1 hsp9 => ?_) (fun e s1 he9 => he9)
  · skip
    obtain ⟨a9, B9, sI9, pinsp9, σp9, Hp9, cls9, d9, rfl, Jp9, nb9, up9, sky9, na9, os9, ag9, w9⟩ := xx9
    have J9 : Inv X pins σp9 Hp9 sI9 := Jp9.ofTry ok9
    have skyp9 : Sky B9 (X.env :: X.outer) a9 (Zc cls9 d9) X.env.locals s'.heap := by rw [← hs]; exact sky9
    show wpAny (model X.prog X.w) X.A (noteFrame (.ref a9) X.env) _ _ _
    refine Sky.land Zc.steady hfr9 hf skyp9 fun h39 fl39 up39 => ?_
    have J39 : Inv X pins σp9 Hp9 { s' with heap := h39 } := J9.landed nb9 fl39.1 (up9.trans up39) os9 ag9
    obtain ⟨oe39, vs39, he39, hz39, hd39⟩ := fl39.there
    have notFr9 : ∀ {h9 : Heap} {o : Obj} {vs9 : Array Value}, h9.FunFrames B9 (X.env :: X.outer) → h9.get? a9 = some o → o.data = .fields vs9 → a9 ∉ frs (X.env :: X.outer) := fun {h9 o vs9} ff9 e dd9 hm9 => by
      obtain ⟨_, op9, ep9, hnf9⟩ := ff9.mem hm9
      rw [e] at ep9; cases ep9
      exact hnf9 _ dd9
    have nfr9 := notFr9 fl39.2.2.1 he39 hd39
    have nL9 : a9 ≠ X.env.locals := fun z => nfr9 (List.mem_filterMap.mpr ⟨X.env, List.mem_cons_self, by rw [hf, z]⟩)
    have nF9 : a9 ∉ X.fs := fun hm9 => by
      obtain ⟨e, he9, q9⟩ := List.mem_filterMap.mp hm9
      exact nfr9 (List.mem_filterMap.mpr ⟨e, List.mem_cons_of_mem _ he9, q9⟩)
    have S39 := J39.suite he39 hd39 na9 nL9 nF9
    have go9 : ∀ {hdsp9 : List ExceptHandler} {lp9 : List (Value × (Addr → Value → Option Addr → TS))}, HdsAs X n hdsp9 lp9 → wAsMany X.K i Wout D lp9 cls9 d9 σp9 Hp9 →
        wpAny (model X.prog X.w) X.A (handleBy (.ref a9) X.env hdsp9) (SP X pins D) X.xe { s' with heap := h39 } := by
      intro hdsp9 lp9 hk9
      induction hk9 with
      | nil =>
        intro w9
        refine wpAny_handleBy_nil ?_
        obtain ⟨k19, k29, k39, oe9, vs9, T9, oT9, tsp9, he9, hz, hd9, h19, hr9⟩ := id fl39
        unfold PySem.passOn
        refine wpAny_bind (wpAny_field he9 hd9 h19 ?_)
        rw [if_neg (show ¬ ((Value.ref T9 == Value.none) = true) from by simp)]
        have fin9 : wpAny (model X.prog X.w) X.A (setFlight (.ref a9) X.env.frame) (fun _ s49 => wpAny (model X.prog X.w) X.A (throw (.ref a9) : Sem Flow) (SP X pins D) X.xe s49) X.xe { s' with heap := h39 } := by
          rw [hf]
          refine HandSPX.setFlight_upZ fl39 fun h49 hh49 up49 => wpAny_throw (tk _ _ ?_)
          exact ⟨a9, B9, sI9, pins, σp9, Hp9, cls9, d9, rfl, J9, nb9, (up9.trans up39).trans up49, .inr (.inr (by rw [hs]; exact hh49)), na9, os9, ag9, w9⟩
        first
          | exact wpAny_bind (wpAny_pure (wpAny_bind fin9))
          | exact wpAny_bind fin9
      | @cons x c ts b₀9 suite9 np9 posp9 hds29 l29 hc9 hsu9 r ih9 =>
        intro w9
        obtain ⟨b, hb19, hyes9, hno9⟩ := w9
        refine wpAny_handleBy_cons (codeAny_handlers_test ?_) (by intro q9; cases q9)
        have LT9 : PySem.W.Looks (model X.prog X.w) h39 (typeOf (.ref a9)) cls9 := fun A Q E s k q9 => wpAny_typeOf_ref (k _ _ he39) (by rw [hz39.1]; exact q9)
        have LM9 := PySem.W.exm_one (M := model X.prog X.w) (J39.kIn) LT9 hb19
        have test9 : ∀ {Q : Value → Shared → Prop} {E : Value → Shared → Prop}, Q c { s' with heap := h39 } → wpAny (model X.prog X.w) (X.A.mark (some (.ref a9))) (eval (.Name x np9) X.env) Q E { s' with heap := h39 } := fun {Q E} q9 => by
          obtain ⟨hg9, hdbg9, hm9 | ⟨hm9, hv9, hnn9⟩⟩ := hc9
          · exact ld_glob (X := X.suite a9 ((a9, oe39) :: (X.pn ++ pins))) S39 hg9 hm9 q9 hdbg9
          · exact ld_blt (X := X.suite a9 ((a9, oe39) :: (X.pn ++ pins))) S39 hg9 hm9 hv9 q9 hnn9 hdbg9
        refine test9 (LM9.here ?_)
        cases b with
        | true =>
          refine (codeAny_handlers_suite_as ?_)
          refine HandSPX.lands_againZ fl39 fun h49 fl49 up49 => ?_
          have J49 : Inv X pins σp9 Hp9 { s' with heap := h49 } := J9.landed nb9 fl49.1 ((up9.trans up39).trans up49) os9 ag9
          obtain ⟨oe49, vs49, he49, hz49, hd49⟩ := fl49.there
          have S49 := J49.suite he49 hd49 na9 nL9 nF9
          refine store_ok (X := X.suite a9 ((a9, oe49) :: (X.pn ++ pins))) (v := .ref a9) S49 hN hi hloc rfl (fun s59 S59 => ?_) (.inr hln)
          refine wpAny_mono ((hsu9 a9 oe49 cls9 d9 (X.pn ++ pins) hz49 ⟨_, hd49⟩).run [] s59 _ Hp9 _ S59 (hyes9 rfl a9 na9)) (fun f s6 hsp9 => ?_) (fun _ _ z => False.elim z)
          have end_9 : ∀ {σ69 : St} {H69 : Hp} {Q : Shared → Prop}, Inv (X.suite a9 ((a9, oe49) :: (X.pn ++ pins))) [] σ69 H69 s6 → (∀ s79, Inv X pins (σ69.set i none) H69 s79 → Q s79) →
              wpAny (model X.prog X.w) X.A (do bindName X.env n .none; unbindBehindTheSuite X.env n posp9) (fun _ s79 => Q s79) X.xe s6 := fun {σ69 H69 Q} S69 hq => gone_ok (S69.unsuite ok9) hN hi hln hq
          cases f with
          | next =>
            obtain ⟨σ69, H69, S69, q69⟩ := hsp9
            exact end_9 S69 fun s79 J79 => ⟨_, _, J79, q69⟩
          | brk =>
            obtain ⟨σ69, H69, S69, q69⟩ := hsp9
            exact end_9 S69 fun s79 J79 => ⟨_, _, J79, q69⟩
          | cont =>
            obtain ⟨σ69, H69, S69, q69⟩ := hsp9
            exact end_9 S69 fun s79 J79 => ⟨_, _, J79, q69⟩
          | ret u =>
            obtain ⟨v69, σ69, H69, S69, r69, q69⟩ := hsp9
            exact end_9 S69 fun s79 J79 => ⟨_, _, _, J79, r69, q69⟩
        | false =>
          show wpAny _ X.A (handleBy (.ref a9) X.env hds29) _ _ _
          exact ih9 (hno9 rfl)
    exact go9 hh w9
  · cases f with
    | next =>
      obtain ⟨σp9, Hp9, Jp9, q9⟩ := hsp9
      exact wpAny_execs_nil ⟨σp9, Hp9, Jp9.ofTry ok9, q9⟩
    | brk =>
      obtain ⟨σp9, Hp9, Jp9, q9⟩ := hsp9
      exact ⟨σp9, Hp9, Jp9.ofTry ok9, q9⟩
    | cont =>
      obtain ⟨σp9, Hp9, Jp9, q9⟩ := hsp9
      exact ⟨σp9, Hp9, Jp9.ofTry ok9, q9⟩
    | ret u =>
      obtain ⟨v, σp9, Hp9, Jp9, r, q9⟩ := hsp9
      exact ⟨v, σp9, Hp9, Jp9.ofTry ok9, r, q9⟩
end
end L2
namespace NK
open PySem L2
section
variable {X : Cx} {T : Tb} {P : Pin} {Wx : WX}
end
end NK

namespace NK
open PySem L2 LamX
def FnO (f : Addr) (ob : Obj) : HO := .ext fun h => h.get? f = some ob
def Made (P : Addr) (q : Str) (H H1 : Hp) (k : Addr) : Prop := ∃ ps : Array Value, H P = some (.tbl ps) ∧ ((H1 = H ∧ ∃ z, codeAmong z ps.toList = some (.ref k)) ∨
  (H k = none ∧ ∃ ps' : Array Value, H1 = upd (upd H P (.tbl ps')) k (CodeO k q) ∧ TriplesOk ps'.toList ∧ ∀ z v, codeAmong z ps'.toList = some v → codeAmong z ps.toList = some v ∨ v = .ref k))
def Tabl (P : Addr) (H : Hp) : Prop := ∃ ps : Array Value, H P = some (.tbl ps) ∧ TriplesOk ps.toList ∧ ∀ z v, codeAmong z ps.toList = some v → ∃ a, v = .ref a
structure LamD where
  params : Arguments
  body : Expr
  scope : Scope
def LamD.obj (X : Cx) (d : LamD) (pm : Value) (k : Addr) (ctv : Value) : Obj := PySem.W.kla_obj "<lambda>" (X.env.qual ++ "<lambda>") d.params d.body d.scope (cloFrom X.env.cells d.scope.names []) pm k ctv
def tLamV (X : Cx) (P : Addr) (d : LamD) : TE := fun _ H Q => Tabl P H ∧ ∀ f k pm ctv H1, Made P (X.env.qual ++ "<lambda>") H H1 k → H1 f = none → Q (.ref f) (upd H1 f (FnO f (d.obj X pm k ctv)))
section
variable {X : Cx} {pins : List (Addr × Obj)} {σ : L2.St} {H : Hp} {s : Shared}
theorem inv_fn {h1 : Heap} {tk : Nat} (I : Inv X pins σ H { s with heap := h1, toks := tk }) (ob : Obj) (hfr : ob.isFreed = false) : Inv X pins σ (upd H h1.objs.size (FnO h1.objs.size ob)) { s with heap := h1.push ob, toks := tk } :=
  I.laid (h' := h1.push ob) (t' := tk) (fun b o e => Heap.get?_push_of_some _ e) (Nat.le_refl _) ⟨Heap.get?_push_size _ hfr, ⟨ob, Heap.get?_push_size _ hfr⟩, fun g1 g2 e st => st _ e⟩
open PySem PySem.Spec PyProof.Rows in
theorem pe_lam {d : LamD} {c P : Addr} {pos : Pos} (TB : TabB X.base X.mg c P) (hcode : X.env.code = .ref c) (hdef : defaultsOf d.params X.env = ([], [])) (L : LamS X.env.scope d.scope) : PE X (.Lambda d.params d.body d.scope pos) (tLamV X P d) := by
  refine ⟨fun pins s σ H Q I h => ?_⟩
  obtain ⟨⟨ps, hP, ht, ha⟩, go⟩ := h
  have bP : s.heap.BuiltinsAt X.mg P := TB.bm.keeps I.bk
  have gP : s.heap.get? P = some { cls := .none, data := .fields ps } := I.hok P _ hP
  have cl := closure_ok (L.has I.ok)
  refine PySem.W.kla_eval hdef ?_
  cases hc : codeAmong pos ps.toList with
  | none =>
    refine PySem.W.kla_makeFunction (mg := X.mg) (c := c) (P := P) (ps := ps) cl I.ok.glob (I.mod.glob.keeps I.bk) hcode (TB.code.keeps I.bk) gP ht hc TB.gP bP fun k ctv h1 tk hx hge hlt hrec htb => ?_
    obtain ⟨k2, oc, vs, t, e2, g1, g2, g3⟩ := hrec
    cases e2
    have J := inv_table (t' := tk) (more := #[rawInt pos.line, rawInt pos.col, .ref k]) (h' := h1) I hP (fun b o hb e => hx b o hb e) htb hge ⟨oc, vs, t, g1, g2, g3⟩
    have J2 := inv_fn J (d.obj X ((X.mg "__name__").getD .none) k ctv) rfl
    have nk : H k = none := I.hok.fresh hge
    have el : (ps ++ #[rawInt pos.line, rawInt pos.col, .ref k]).toList = ps.toList ++ [rawInt pos.line, rawInt pos.col, .ref k] := by simp
    refine ⟨.ref h1.objs.size, _, J2, rfl, go h1.objs.size k _ ctv _ ⟨ps, hP, .inr ⟨nk, _, rfl, by rw [el]; exact PySem.TriplesOk_snoc _ _ _ _ ht, fun z v e => ?_⟩⟩ (J.hok.fresh (Nat.le_refl _))⟩
    rw [el] at e
    exact among_app _ ht e
  | some cv =>
    obtain ⟨k, e⟩ := ha pos cv hc
    subst e
    refine PySem.W.kla_makeFunctionHit (mg := X.mg) (c := c) (P := P) (ps := ps) cl I.ok.glob (I.mod.glob.keeps I.bk) hcode (TB.code.keeps I.bk) gP ht hc bP fun ctv h1 tk hx hsz => ?_
    have J : Inv X pins σ H { s with heap := h1, toks := tk } := I.kept hx
    have J2 := inv_fn J (d.obj X ((X.mg "__name__").getD .none) k ctv) rfl
    exact ⟨.ref h1.objs.size, _, J2, rfl, go h1.objs.size k _ ctv _ ⟨ps, hP, .inl ⟨rfl, pos, hc⟩⟩ (J.hok.fresh (Nat.le_refl _))⟩
end
section
variable {T : Tb} {c : Cn} {st : Sto} {H H1 : Hp} {P k : Addr} {q : Str}
theorem tabl_of (h : RH T c st H) (hq : (P, q) ∈ T.tabs) : Tabl P H := by
  obtain ⟨ps, h1, h2, h3⟩ := h.tab _ hq
  exact ⟨ps, h1, h2, fun z v e => let ⟨a, e1, _⟩ := h3 z v e; ⟨a, e1⟩⟩
theorem rh_made (h : RH T c st H) (hq : (P, q) ∈ T.tabs) (hu : ∀ p ∈ T.tabs, p.1 = P → p.2 = q) (m : Made P q H H1 k) :
    ∃ c1, Le c c1 ∧ RH T c1 st H1 ∧ c1.F k = some (CodeO k q) ∧ (∀ i, c1.ρ i = c.ρ i) ∧ ∀ b o, H b = some o → isTbl o = false → H1 b = some o ∧ (c.F b = none → c1.F b = none) := by
  obtain ⟨ps, hP, m⟩ := m
  rcases m with ⟨rfl, z, hz⟩ | ⟨hk, ps', rfl, t', ha⟩
  · obtain ⟨ps2, e1, _, e3⟩ := h.tab _ hq
    have e1 : H1 P = some (.tbl ps2) := e1
    rw [hP] at e1
    cases e1
    obtain ⟨a, ea, hF⟩ := e3 z _ hz
    cases ea
    exact ⟨c, Le.refl c, h, hF, fun _ => rfl, fun b o e _ => ⟨e, fun z => z⟩⟩
  · have l := le_still h hk (CodeO k q)
    have nP : k ≠ P := fun e => by
      rw [e, hP] at hk
      cases hk
    have at_ : ∀ b o, H b = some o → isTbl o = false → upd (upd H P (.tbl ps')) k (CodeO k q) b = some o := fun b o e ko => by
      rw [upd_ne (fun z => by rw [z, hk] at e; cases e), upd_ne (fun z => by rw [z, hP] at e; cases e; cases ko)]
      exact e
    refine ⟨c.still k (CodeO k q), l, ⟨h.n, fun a u e => ?_, fun i ob e d => ?_, h.inj, fun a u e => ?_, fun p hp => ?_, fun a u e => ?_⟩, ?_, fun _ => rfl, fun b o e ko => ⟨at_ b o e ko, fun z => ?_⟩⟩
    · have e1 : upd c.F k (CodeO k q) a = some u := e
      by_cases z : a = k
      · rw [z, upd_same] at e1 ⊢
        exact e1
      · rw [upd_ne z] at e1
        exact at_ a u (h.sub a u e1) (h.ntb a u e1)
    · obtain ⟨x, h1, h2, h3⟩ := h.act i ob e d
      refine ⟨x, at_ _ _ h1 h2.notbl, h2.mono l, ?_⟩
      show upd c.F k (CodeO k q) (c.ρ i) = _
      rw [upd_ne (h.ne_new hk e d)]
      exact h3
    · obtain ⟨e1, od, x, e2⟩ := h.lkd a u e
      exact ⟨at_ a u e1 (by rw [e2]; rfl), od, x, e2⟩
    · obtain ⟨ps2, e1, e2, e3⟩ := h.tab p hp
      by_cases z : p.1 = P
      · rw [z] at e1
        rw [hP] at e1
        cases e1
        refine ⟨ps', ?_, t', fun z1 v e => ?_⟩
        · rw [z, upd_ne (Ne.symm nP), upd_same]
        · rcases ha z1 v e with e4 | e4
          · obtain ⟨a, e5, e6⟩ := e3 z1 v e4
            exact ⟨a, e5, l.F _ _ e6⟩
          · refine ⟨k, e4, ?_⟩
            rw [hu p hp z]
            exact upd_same
      · refine ⟨ps2, ?_, e2, fun z1 v e => ?_⟩
        · rw [upd_ne (fun y => by rw [y, hk] at e1; cases e1), upd_ne z]
          exact e1
        · obtain ⟨a, e5, e6⟩ := e3 z1 v e
          exact ⟨a, e5, l.F _ _ e6⟩
    · have e1 : upd c.F k (CodeO k q) a = some u := e
      by_cases z : a = k
      · rw [z, upd_same] at e1
        cases e1
        rfl
      · rw [upd_ne z] at e1
        exact h.ntb a u e1
    · exact upd_same
    · show upd c.F k (CodeO k q) b = none
      rw [upd_ne (fun y => by rw [y, hk] at e; cases e)]
      exact z
theorem RH.other (h : RH T c st H) {b : Addr} {o x : HO} (hb : H b = some o) (ko : isTbl o = false) (hf : c.F b = none) (hl : ∀ od y, o ≠ .frz od y) (ha : ∀ i a, st[i]? = some a → a ≠ .dead → c.ρ i ≠ b) : RH T c st (upd H b x) :=
  ⟨h.n, fun a u e => by rw [upd_ne (fun z => by rw [z, hf] at e; cases e)]; exact h.sub a u e, fun i a e d => by
    obtain ⟨y, h1, h2, h3⟩ := h.act i a e d
    exact ⟨y, by rw [upd_ne (ha i a e d)]; exact h1, h2, h3⟩, h.inj, fun a u e => by
    obtain ⟨e1, od, y, e2⟩ := h.lkd a u e
    refine ⟨?_, od, y, e2⟩
    rw [upd_ne (fun z => by rw [z, hb] at e1; cases e1; exact hl od y e2)]
    exact e1, fun p hp => (h.tab p hp).mono (fun _ _ z => z) (tbl_upd (.inr ⟨o, hb, ko⟩) ·), h.ntb⟩
def Cn.fix (c : Cn) (b : Addr) (x : HO) : Cn := { c with F := upd c.F b x }
theorem le_fix {b : Addr} {x : HO} (hf : c.F b = none) : Le c (c.fix b x) := ⟨Nat.le_refl _, fun _ _ => rfl, fun a u e => by
  show upd c.F b x a = _
  rw [upd_ne (fun z => by rw [z, hf] at e; cases e)]
  exact e, fun _ _ e => e⟩
theorem RH.fix (h : RH T c st H) {b : Addr} {x : HO} (hb : H b = some x) (ko : isTbl x = false) (hf : c.F b = none) (ha : ∀ i a, st[i]? = some a → a ≠ .dead → c.ρ i ≠ b) : RH T (c.fix b x) st H := by
  have l := le_fix (x := x) hf
  refine ⟨h.n, fun a u e => ?_, fun i a e d => ?_, h.inj, h.lkd, fun p hp => (h.tab p hp).mono l.F (fun _ z => z), fun a u e => ?_⟩
  · have e1 : upd c.F b x a = some u := e
    by_cases z : a = b
    · rw [z, upd_same] at e1
      rw [z, ← e1]
      exact hb
    · rw [upd_ne z] at e1
      exact h.sub a u e1
  · obtain ⟨y, h1, h2, h3⟩ := h.act i a e d
    refine ⟨y, h1, h2.mono l, ?_⟩
    show upd c.F b x (c.ρ i) = _
    rw [upd_ne (ha i a e d)]
    exact h3
  · have e1 : upd c.F b x a = some u := e
    by_cases z : a = b
    · rw [z, upd_same] at e1
      cases e1
      exact ko
    · rw [upd_ne z] at e1
      exact h.ntb a u e1
end
end NK

namespace NK
open PySem L2 LamX
structure LamOk (X : Cx) (T : Tb) (n : Nat) (d : LamD) (m : ME) : Prop where
  L : LamS X.env.scope d.scope
  bind : ∀ (q : Str) (cl : List (Str × Addr)) (pm cv ctv : Value), bindArgs (PySem.W.kla_fn "<lambda>" q d.params d.body d.scope cl pm cv ctv) ⟨[], []⟩ = pure []
  body : ∀ (A : Around) (outer : List PySem.Env) (s : Shared) (H : Hp) (E : XK) (f k : Addr), Room n (A.deeper (lamEnv X d.scope s.heap.objs.size f k)) → PEm (lamCx X A outer s H E d.scope f k) T none (fun cls dd _ H => E cls dd H) d.body m
section
variable {X : Cx} {T : Tb} {Wx : WX}
open PySem PySem.Spec PyProof.Rows in
end
end NK

namespace NK
open PySem L2 LamX
inductive AppsOk (X : Cx) (t : LamD → TS) (tail : List Stmt) : List Stmt → List LamD → Prop
  | nil : AppsOk X t tail tail []
  | cons {s : Stmt} {ss : List Stmt} {d : LamD} {ds : List LamD} : PS X s (t d) → AppsOk X t tail ss ds → AppsOk X t tail (s :: ss) (d :: ds)
def FnAt (X : Cx) (c : Cn) (f : Addr) (d : LamD) : Prop := ∃ k pm ctv, c.F f = some (FnO f (d.obj X pm k ctv)) ∧ c.F k = some (CodeO k (X.env.qual ++ "<lambda>"))
theorem FnAt.mono {X : Cx} {c c' : Cn} (l : Le c c') {f : Addr} {d : LamD} (h : FnAt X c f d) : FnAt X c' f d := let ⟨k, pm, ctv, e1, e2⟩ := h; ⟨k, pm, ctv, l.F _ _ e1, l.F _ _ e2⟩
theorem All2.snoc {α β : Type} {R : α → β → Prop} : ∀ {as : List α} {bs : List β} {a : α} {b : β}, All2 R as bs → R a b → All2 R (as ++ [a]) (bs ++ [b])
  | _, _, _, _, .nil, h => .cons h .nil
  | _, _, _, _, .cons g t, h => .cons g (All2.snoc t h)
theorem All2.at_ {α β : Type} {R : α → β → Prop} : ∀ {as : List α} {bs : List β} {i : Nat} {a : α}, All2 R as bs → as[i]? = some a → ∃ b, bs[i]? = some b ∧ R a b
  | _, _, _, _, .nil, h => by simp at h
  | _, _, 0, _, .cons g _, h => by simp at h; subst h; exact ⟨_, rfl, g⟩
  | _, _, i + 1, a, .cons _ t, h => by
    obtain ⟨b, h1, h2⟩ := All2.at_ (i := i) (a := a) t (by simpa using h)
    exact ⟨b, by simpa using h1, h2⟩
section
variable {X : Cx} {T : Tb} {il ic : Nat} {P : Addr}
end
section
variable {X : Cx} {T : Tb} {Wx : WX} {il ic : Nat}
end
end NK

namespace NK
open PySem L2 LamX
section
variable {lam a : ME} {b : Ex → ME} {isK : List Bool} {i ic : Nat} {env env1 : Env} {st st1 : Sto}
end
section
variable {X : Cx} {T : Tb} {Wx : WX} {il ic i k : Nat} {P C : Addr}
end
end NK

namespace NK
open PySem L2 LamX
section
variable {X : Cx} {T : Tb} {Wx : WX} {il ic i k : Nat} {P C : Addr}
end
section
variable {P : Program} {w : World} {K : PySem.W.Frag} {mg : Str → Option Value} {base : Heap} {T : Tb} {x qual : Str} {params : Arguments} {body : List Stmt} {scope : Scope} {dvs : List V} {kws : List (Str × V)} {f cd : Addr} {fd : FuncData} {N ps : List Str} {k : Nat} {mb : MS}
open PyProof.Rows (envOfC) in
theorem fund_okmC (F : FunD K x qual params body scope dvs kws f fd) (S : FnScope N ps scope) (hc : fd.code = .ref cd)
    (hb : ∀ (A : Around) (outer : List PySem.Env) (s : Shared) (H : Hp) (E : XK), Room k (A.deeper (envOfC qual scope s.heap.objs.size f (.ref cd))) →
      PSsm (cxOf (L2.CX P w) P w K mg base N qual scope f (.ref cd) A outer s H E) T none (fun cls d _ H => E cls d H) body mb) : FnOk P w K mg base (L2.CX P w) (k + 1) f fd ps (spOf T ps.length (fScope (runF N.length mb))) := by
  obtain ⟨oc, od, dV, kV, doc, pm, an, cdv, ct, osl, rfl, lk, hcd, _, _⟩ := F.ex
  have e : cdv = .ref cd := hc
  subst e
  refine (fn_of lk hcd S (fun vs H Q E h => h.1) (fun A outer s H vs Q E hr h => ⟨_, hb A outer s H E hr, ?_⟩) : FnOk P w K mg base (L2.CX P w) (k + 1) f _ ps (spOf T ps.length (runF N.length mb))).imp spOf_scope
  obtain ⟨hl, c, us, st0, hH, r, hR⟩ := h
  refine ⟨c, _, st0, hH, start_RE r, ?_⟩
  unfold runF at hR
  cases q : mb (us.map some ++ List.replicate (N.length - us.length) none) st0 with
  | ret u st' => rw [q] at hR; exact fun c' v H' a b d => hR c' v H' a b d
  | next env st' => rw [q] at hR; exact fun c' σ' H' a b d => hR c' .non H' a b .non
  | exc x' env st' => rw [q] at hR; exact fun c' cls d σ' H' a b _ e => hR c' cls d H' a b e
  | brk env st' => rw [q] at hR; exact hR.elim
  | cont env st' => rw [q] at hR; exact hR.elim
  | bad => rw [q] at hR; exact hR.elim
end
theorem tab_at {K : PySem.W.Frag} {x : Str} {f q P : Addr} {c1 c2 : Value} {d1 d2 : Option Addr} {s1 s2 : Array (Option Value)} {fd : FuncData} {vs : Array Value} (h1 : PySem.W.nsIn K mainGlobals x = some (some (.ref f))) (h2 : K.lookup f = some ⟨c1, d1, .func fd, s1⟩) (h3 : fd.code = .ref q)
    (h4 : K.lookup q = some ⟨c2, d2, .fields vs, s2⟩) (h5 : vs[11]? = some (.ref P)) : PySem.W.tabIn K x = some (q, P) := by
  unfold PySem.W.tabIn
  simp only [h1, h2, h3, h4, h5]
end NK

namespace NK
open PySem L2

section
variable {X : Cx} {T : Tb} {P : Pin} {Wx : WX} {mb : MS} {pos : Pos}
end

def fPopAt : U → List U → Sto → Out U := fun u ws st => match u with
  | .loc i => match ws, st[i]? with
    | [.int k], some (.lst us) => match ixN us.length k with
      | some j => match us[j]? with
        | some w => if -(2 ^ 63) ≤ k ∧ k < 2 ^ 63 then .ok w (st.set i (.lst (us.eraseIdx j))) else .bad
        | none => .bad
      | none => .bad
    | _, _ => .bad
  | _ => .bad
theorem rpl_erase {T : Tb} {c : Cn} {us : List U} {vs : List V} (r : RpL T c us vs) (j : Nat) : RpL T c (us.eraseIdx j) (vs.eraseIdx j) := by
  rw [List.eraseIdx_eq_take_drop_succ, List.eraseIdx_eq_take_drop_succ]
  exact (r.take _).append (r.drop _)
section
variable {X : Cx} {T : Tb} {P : Pin} {Wx : WX} {o e : Expr} {mo : ME} {apos cpos : Pos}
theorem sim_popAt : MtSim T rPopAt fPopAt := fun Wx c σ st H u x us xs Q hH ru r hR => by
  cases u with
  | loc i =>
    obtain ⟨hi, rfl⟩ := ru.inv_loc
    dsimp only [fPopAt] at hR
    split at hR
    · rename_i k us' es'
      obtain ⟨v1, vs, rfl, r1, t⟩ := r.inv_cons
      cases t.inv_nil
      cases r1.inv_int
      split at hR
      · rename_i j ej
        split at hR
        · rename_i w ew
          split at hR
          · rename_i hk
            obtain ⟨ws, h1, r2⟩ := hH.at_lst es'
            obtain ⟨v, ev, rv⟩ := r2.get ew
            refine ⟨c.ρ i, ws, k, j, v, rfl, rfl, h1, hk.1, hk.2, ?_, ev, ?_⟩
            · rw [← r2.length]
              exact (ixN_seq ej).1
            · exact hR c _ _ (Le.refl c) (hH.set es' (fun z => nomatch z) ⟨_, rfl, rpl_erase r2 j⟩) rv
          · exact hR.elim
        · exact hR.elim
      · exact hR.elim
    · exact hR.elim
  | _ => exact hR.elim
end

end NK

namespace NK
open PySem L2
open PySem.Spec PyProof.Rows

section
variable {X : Cx} {T : Tb} {P : Pin} {Wx : WX} {kk k n : Nat} {f C : Addr} {mf : MF} {x : Str} {e : Expr} {es : List Expr} {mas : MA} {p pos : Pos} {sp : Sp}
end

structure Mk0 (K : PySem.W.Frag) (C : Addr) : Prop where
  makes : PySem.W.makesIn K C = true
  init : PySem.W.findIn K (.ref C) "__init__" = some (some (.builtin "object.__init__"))
  kp : PySem.W.keepIn K (.ref C) = true
section
variable {X : Cx} {T : Tb} {P : Pin} {Wx : WX} {k : Nat} {C : Addr} {x : Str} {p pos : Pos}
end

theorem PK.imp {X : Cx} {e : List Keyword} {t t' : TA} (h : PK X e t) (k : ∀ σ H Q, t' σ H Q → t σ H Q) : PK X e t' := ⟨fun pos pins s σ H Q I q => h.run pos pins s σ H Q I (k σ H Q q)⟩
section
variable {X : Cx} {T : Tb} {P : Pin} {Wx : WX} {kk k n np nk : Nat} {f C : Addr} {fd : FuncData} {ps ks : List Str} {mf : MF} {x : Str} {e : Expr} {es : List Expr} {kws : List Keyword} {m mas mks : MA} {me : ME} {p pos kpos : Pos} {sp : Sp} {nm : Option Str}
  {g : List Value → List Value → List Value} {gV : List V → List V → List V} {gU : List U → List U → List U}
end
end NK

namespace NK
open PySem L2
open PySem.Spec PyProof.Rows
open PySem.SeqAt AutoSeq1 MeetsSeq MeetsSeq2 MeetsSeq3 SeqRoads2

section
variable {prog : Program} {w : World} {A : Around} {R : Result → Shared → Prop}
end
section
variable {prog : Program} {w : World} {A : Around} {E : Value → Shared → Prop} {s : Shared}
end

mutual
def apart (l : IsL) : U → U → Bool
  | .int i, .int j => decide (i ≠ j)
  | .str i, .str j => decide (i ≠ j)
  | .bl i, .bl j => decide (i ≠ j)
  | .non, .non => false
  | .non, .int _ => true
  | .non, .str _ => true
  | .int _, .non => true
  | .str _, .non => true
  | .int _, .str _ => true
  | .str _, .int _ => true
  | .tup us, .tup ws => apartL l us ws
  | .ins k us, .ins k' ws => if k = k' then apartL l us ws else l.lookup (.o k, .o k) == some true && l.lookup (.o k', .o k) == some false
  | _, _ => false
def apartL (l : IsL) : List U → List U → Bool
  | [], [] => false
  | [], _ :: _ => true
  | _ :: _, [] => true
  | u :: us, w :: ws => apart l u w || apartL l us ws
end
theorem relV_fun {x y : V} {u : Value} (h : RelV x u) (h' : RelV y u) : x = y := by
  cases x with
  | non => cases (show u = Value.none from h); cases y <;> first | rfl | (obtain ⟨_, e⟩ := h'; cases e; done) | (cases h'; done)
  | bl b => cases (show u = Value.bool b from h); cases y <;> first | (obtain ⟨_, e⟩ := h'; cases e; done) | (cases h'; done) | (cases h'; rfl)
  | int i => obtain ⟨t, rfl⟩ := h; cases y <;> first | (obtain ⟨_, e⟩ := h'; cases e; done) | (obtain ⟨_, e⟩ := h'; cases e; rfl) | (cases h'; done)
  | str i => obtain ⟨t, rfl⟩ := h; cases y <;> first | (obtain ⟨_, e⟩ := h'; cases e; done) | (obtain ⟨_, e⟩ := h'; cases e; rfl) | (cases h'; done)
  | byt i => obtain ⟨t, rfl⟩ := h; cases y <;> first | (obtain ⟨_, e⟩ := h'; cases e; done) | (obtain ⟨_, e⟩ := h'; cases e; rfl) | (cases h'; done)
  | flt i => obtain ⟨t, rfl⟩ := h; cases y <;> first | (obtain ⟨_, e⟩ := h'; cases e; done) | (obtain ⟨_, e⟩ := h'; cases e; rfl) | (cases h'; done)
  | ref a => cases (show u = Value.ref a from h); cases y <;> first | (obtain ⟨_, e⟩ := h'; cases e; done) | (cases h'; done) | (cases h'; rfl)
  | ty n => cases (show u = Value.type n from h); cases y <;> first | (obtain ⟨_, e⟩ := h'; cases e; done) | (cases h'; done) | (cases h'; rfl)
theorem vals_fun : ∀ {xs ys : List V} {us : List Value}, Vals xs us → Vals ys us → xs = ys
  | _, _, _, .nil, .nil => rfl
  | _, _, _, .cons a b, .cons c d => by rw [relV_fun a c, vals_fun b d]
theorem zip_fun : ∀ {ns : List Str} {vs ws : List V}, vs.length ≤ ns.length → ws.length ≤ ns.length → ns.zip vs = ns.zip ws → vs = ws
  | _, [], [], _, _, _ => rfl
  | _ :: _, [], _ :: _, _, _, e => by simp at e
  | _ :: _, _ :: _, [], _, _, e => by simp at e
  | [], _ :: _, _, h, _, _ => by simp at h
  | [], [], _ :: _, _, h, _ => by simp at h
  | n :: ns, v :: vs, w :: ws, h, h', e => by
    simp only [List.zip_cons_cons, List.cons.injEq, Prod.mk.injEq, true_and] at e
    rw [e.1, zip_fun (by simpa using h) (by simpa using h') e.2]
section
variable {X : Cx} {T : Tb} {l : IsL} {c : Cn} {st : Sto} {H : Hp} {pins : List (Addr × Obj)} {σ : L2.St} {s : Shared}
mutual
theorem apart_ne (I : Inv X pins σ H s) (hK : X.K = T.K) (ok : IsOk T l) (hH : RH T c st H) : ∀ {u w : U} {x : V}, apart l u w = true → Rp T c u x → Rp T c w x → False
  | .int i, .int j, x, e, r, r' => by cases r.inv_int; cases r'.inv_int; simp [apart] at e
  | .str i, .str j, x, e, r, r' => by cases r.inv_str; cases r'.inv_str; simp [apart] at e
  | .bl i, .bl j, x, e, r, r' => by cases r.inv_bl; cases r'.inv_bl; simp [apart] at e
  | .non, .int _, x, e, r, r' => by cases r.inv_non; cases r'.inv_int
  | .non, .str _, x, e, r, r' => by cases r.inv_non; cases r'.inv_str
  | .int _, .non, x, e, r, r' => by cases r'.inv_non; cases r.inv_int
  | .str _, .non, x, e, r, r' => by cases r'.inv_non; cases r.inv_str
  | .int _, .str _, x, e, r, r' => by cases r'.inv_str; cases r.inv_int
  | .str _, .int _, x, e, r, r' => by cases r.inv_str; cases r'.inv_int
  | .tup us, .tup ws, x, e, r, r' => by
    obtain ⟨a, vs, rfl, h1, h2⟩ := r.inv_tup
    obtain ⟨b, zs, eb, h3, h4⟩ := r'.inv_tup
    cases eb
    obtain ⟨its, q1, t1, _⟩ := I.tuple (by rw [hK]; exact sqT_up hH h1)
    obtain ⟨its2, q2, t2, _⟩ := I.tuple (by rw [hK]; exact sqT_up hH h3)
    obtain ⟨o, ho, _, n, hd⟩ := t1
    obtain ⟨o', ho', _, n', hd'⟩ := t2
    rw [ho] at ho'
    cases ho'
    rw [hd] at hd'
    injection hd' with hd1 _
    have hd2 : its = its2 := by simpa using hd1
    subst hd2
    cases vals_fun q1 q2
    exact apartL_ne I hK ok hH e h2 h4
  | .ins k us, .ins k' ws, x, e, r, r' => by
    obtain ⟨a, dx, vs, rfl, h1, h2, h3⟩ := r.inv_ins
    obtain ⟨b, dy, zs, eb, h4, h5, h6⟩ := r'.inv_ins
    cases eb
    rw [h1] at h4
    simp only [Option.some.injEq, HO.ins.injEq] at h4
    obtain ⟨ec, _, ez⟩ := h4
    unfold apart at e
    split at e
    · rename_i hk
      subst hk
      cases zip_fun h2 h5 ez
      exact apartL_ne I hK ok hH e h3 h6
    · rename_i hk
      simp only [Bool.and_eq_true, beq_iff_eq] at e
      obtain ⟨_, q1⟩ := ok _ (mem_lookup e.1)
      obtain ⟨_, q2⟩ := ok _ (mem_lookup e.2)
      have q1' : PySem.W.kitOne T.K (.ref (T.cls k)) (.ref (T.cls k)) = some true := q1
      have q2' : PySem.W.kitOne T.K (.ref (T.cls k')) (.ref (T.cls k)) = some false := q2
      rw [← ec, q1'] at q2'
      cases q2'
theorem apartL_ne (I : Inv X pins σ H s) (hK : X.K = T.K) (ok : IsOk T l) (hH : RH T c st H) : ∀ {us ws : List U} {xs : List V}, apartL l us ws = true → RpL T c us xs → RpL T c ws xs → False
  | [], [], _, e, _, _ => by simp [apartL] at e
  | [], _ :: _, _, _, r, r' => by cases r.inv_nil; cases r'
  | _ :: _, [], _, _, r, r' => by cases r'.inv_nil; cases r
  | u :: us, w :: ws, _, e, r, r' => by
    obtain ⟨v, vs, rfl, h1, h2⟩ := r.inv_cons
    obtain ⟨v', vs', e', h3, h4⟩ := r'.inv_cons
    cases e'
    unfold apartL at e
    rcases Bool.or_eq_true_iff.mp e with e | e
    · exact apart_ne I hK ok hH e h1 h3
    · exact apartL_ne I hK ok hH e h2 h4
end
end

def EqN (X : Cx) (T : Tb) (n : Nat) (f : U → U → Sto → Out Bool) : Prop :=
  ∀ (A : Around) (pins : List (Addr × Obj)) (s : Shared) (σ : L2.St) (H : Hp) (c : Cn) (st st' : Sto) (u w : U) (x y : V) (p q : Value) (b : Bool), Sub X n A → Inv X pins σ H s → RelV x p → RelV y q → RH T c st H → Rp T c u x → Rp T c w y → f u w st = .ok b st' →
    wpAny (model X.prog X.w) A (eqBool p q) (fun r s' => r = b ∧ ∃ c' H', Le c c' ∧ RH T c' st' H' ∧ Inv X pins σ H' s') X.xe s
def RcN (X : Cx) (T : Tb) (n : Nat) (f : U → U → Sto → Out Bool) : Prop :=
  ∀ (A : Around) (pins : List (Addr × Obj)) (s : Shared) (σ : L2.St) (H : Hp) (c : Cn) (st st' : Sto) (u w : U) (x y : V) (p q : Value) (b : Bool), Sub X n A → Inv X pins σ H s → RelV x p → RelV y q → RH T c st H → Rp T c u x → Rp T c w y → f u w st = .ok b st' →
    wpAny (model X.prog X.w) A (richCompare .Eq p q) (fun r s' => r = .bool b ∧ ∃ c' H', Le c c' ∧ RH T c' st' H' ∧ Inv X pins σ H' s') X.xe s
section
variable {X : Cx} {T : Tb} {l : IsL} {n m : Nat} {f g : U → U → Sto → Out Bool}
theorem EqN.mono (h : EqN X T n f) (hn : n ≤ m) : EqN X T m f := fun A pins s σ H c st st' u w x y p q b sb => h A pins s σ H c st st' u w x y p q b (sb.mono hn)
theorem RcN.mono (h : RcN X T n f) (hn : n ≤ m) : RcN X T m f := fun A pins s σ H c st st' u w x y p q b sb => h A pins s σ H c st st' u w x y p q b (sb.mono hn)
def altB (k : U → Sto → Bool) (f g : U → U → Sto → Out Bool) : U → U → Sto → Out Bool := fun u w st => if k u st = true then f u w st else g u w st
theorem RcN.alt {k : U → Sto → Bool} (h : RcN X T n f) (h' : RcN X T n g) : RcN X T n (altB k f g) := fun A pins s σ H c st st' u w x y p q b sb I rx ry hH r1 r2 e => by
  unfold altB at e
  split at e
  · exact h A pins s σ H c st st' u w x y p q b sb I rx ry hH r1 r2 e
  · exact h' A pins s σ H c st st' u w x y p q b sb I rx ry hH r1 r2 e
end
end NK

namespace NK
open PySem L2
open PySem.Spec PyProof.Rows

section
variable {X : Cx} {T : Tb}
theorem CallR.or {g : Value} {r r' : List V → Hp → VK → Prop} (h : CallR X g r) (h' : CallR X g r') : CallR X g (fun xs H Q => r xs H Q ∨ r' xs H Q) := fun pins s σ H xs us Q I rx q => q.elim (h pins s σ H xs us Q I rx) (h' pins s σ H xs us Q I rx)
def altC (p : List U → Sto → Bool) (f g : List U → Sto → Out U) : List U → Sto → Out U := fun us st => if p us st = true then f us st else g us st
theorem sim_altC {p : List U → Sto → Bool} {r r' : List V → Hp → VK → Prop} {f g : List U → Sto → Out U} (h : CallSim T r f) (h' : CallSim T r' g) : CallSim T (fun xs H Q => r xs H Q ∨ r' xs H Q) (altC p f g) := fun Wx c σ st H us xs Q hH rx hR => by
  unfold altC at hR
  split at hR
  · exact .inl (h Wx c σ st H us xs Q hH rx hR)
  · exact .inr (h' Wx c σ st H us xs Q hH rx hR)
theorem OpR.or {g : Value → Value → Sem Value} {r r' : R2} (h : OpR X g r) (h' : OpR X g r') : OpR X g (fun x y H Q => r x y H Q ∨ r' x y H Q) := fun pins s σ H x y v u Q I rx ry q => q.elim (h pins s σ H x y v u Q I rx ry) (h' pins s σ H x y v u Q I rx ry)
def altO (p : U → U → Sto → Bool) (f g : U → U → Sto → Out U) : U → U → Sto → Out U := fun u w st => if p u w st = true then f u w st else g u w st
theorem sim_altO {p : U → U → Sto → Bool} {r r' : R2} {f g : U → U → Sto → Out U} (h : OpSim T r f) (h' : OpSim T r' g) : OpSim T (fun x y H Q => r x y H Q ∨ r' x y H Q) (altO p f g) := fun Wx c σ st H u w x y Q hH r1 r2 hR => by
  unfold altO at hR
  split at hR
  · exact .inl (h Wx c σ st H u w x y Q hH r1 r2 hR)
  · exact .inr (h' Wx c σ st H u w x y Q hH r1 r2 hR)
end

section
variable {X : Cx} {T : Tb}
end

section
variable {X : Cx} {T : Tb} {P : Pin} {Wx : WX} {e : Expr} {m : ME} {f x : Str} {pos p : Pos}
structure ConOk (T : Tb) (k : Nat) (f : Str) (u : U) : Prop where
  cl : Cls T.K (T.cls k)
  con : ∃ v u0, Con T.K (T.cls k) f v u0 ∧ ∀ c, Rp T c u v
  nf : f ∉ T.fld k
theorem RpL.reverse {T : Tb} {c : Cn} : ∀ {us : List U} {vs : List V}, RpL T c us vs → RpL T c us.reverse vs.reverse
  | _, _, .nil => .nil
  | _, _, .cons r t => by
    rw [List.reverse_cons, List.reverse_cons]
    exact (RpL.reverse t).append (.one r)
end

end NK

namespace NK
open PySem L2
open PySem.Spec PyProof.Rows
def OpF (X : Cx) (T : Tb) (g : Value → Value → Sem Value) (f : U → U → Sto → Out U) : Prop := ∃ r, OpR X g r ∧ OpSim T r f
def CallF (X : Cx) (T : Tb) (g : Value) (f : List U → Sto → Out U) : Prop := ∃ r, CallR X g r ∧ CallSim T r f
section
variable {X : Cx} {T : Tb} {P : Pin} {Wx : WX} {a b : Expr} {ma mb : ME} {pos : Pos}
theorem OpF.alt {g : Value → Value → Sem Value} {p : U → U → Sto → Bool} {f f' : U → U → Sto → Out U} (h : OpF X T g f) (h' : OpF X T g f') : OpF X T g (altO p f f') :=
  let ⟨_, o, s⟩ := h
  let ⟨_, o', s'⟩ := h'
  ⟨_, OpR.or o o', sim_altO s s'⟩
theorem CallF.alt {g : Value} {p : List U → Sto → Bool} {f f' : List U → Sto → Out U} (h : CallF X T g f) (h' : CallF X T g f') : CallF X T g (altC p f f') :=
  let ⟨_, o, s⟩ := h
  let ⟨_, o', s'⟩ := h'
  ⟨_, CallR.or o o', sim_altC s s'⟩
end
end NK

set_option maxHeartbeats 4000000
namespace NK
open PySem L2
section
variable {X : Cx} {T : Tb} {P : Pin} {Wx : WX} {e : Expr} {mo a b me : ME}
inductive GN (P : Pin) : List Nat → TGs → Prop
  | nil : GN P [] L2.gNil
  | cons {i : Nat} {is : List Nat} {t : TGs} : pinned P i = false → GN P is t → GN P (i :: is) (gCons (gName i) t)
theorem GN.run {is : List Nat} {t : TGs} (h : GN P is t) : ∀ {c : Cn} {env env' : Env} {σ : L2.St} {H : Hp} {us : List U} {vs : List V} {Q : L2.St → Hp → Prop}, RE T P c env σ → RpL T c us vs → setAll is us env = some env' → (∀ σ', RE T P c env' σ' → Q σ' H) → t vs σ H Q := by
  induction h with
  | nil =>
    intro c env env' σ H us vs Q hE r e k
    cases us with
    | nil =>
      cases e
      cases r
      exact ⟨rfl, k _ hE⟩
    | cons _ _ => cases e
  | @cons i is t hp b ih =>
    intro c env env' σ H us vs Q hE r e k
    cases us with
    | nil => cases e
    | cons u us =>
      obtain ⟨v, vs', rfl, r1, r2⟩ := r.inv_cons
      exact ⟨v, vs', rfl, ih (hE.set r1 i hp) r2 e k⟩
def fIns : U → List U → Sto → Out U := fun u ws st => match u with
  | .loc i => match ws, st[i]? with
    | [.int k, w], some (.lst us) => if us.length < 16777216 ∧ 0 ≤ k ∧ k < 2 ^ 63 then .ok .non (st.set i (.lst (us.take k.toNat ++ [w] ++ us.drop k.toNat))) else .bad
    | _, _ => .bad
  | _ => .bad
theorem sim_ins : MtSim T (fun x vs H Q => ∃ (l : Addr) (xs : List V) (i : Int) (y : V), x = .ref l ∧ vs = [.int i, y] ∧ H l = some (.lst xs) ∧ xs.length < sizeLine ∧ 0 ≤ i ∧ i < 2 ^ 63 ∧
    Q .non (upd H l (.lst (xs.take i.toNat ++ [y] ++ xs.drop i.toNat)))) fIns := fun Wx c σ st H u x us xs Q hH ru r hR => by
  cases u with
  | loc i =>
    obtain ⟨hi, rfl⟩ := ru.inv_loc
    dsimp only [fIns] at hR
    split at hR
    · rename_i k w us' es'
      obtain ⟨v, vs, rfl, r0, t⟩ := r.inv_cons
      cases r0.inv_int
      obtain ⟨v, vs, rfl, r1, t⟩ := t.inv_cons
      cases t.inv_nil
      obtain ⟨ws, h1, r2⟩ := hH.at_lst es'
      split at hR
      · rename_i hz
        refine ⟨c.ρ i, ws, k, v, rfl, rfl, h1, by rw [szl, ← r2.length]; exact hz.1, hz.2.1, hz.2.2, ?_⟩
        exact hR c _ _ (Le.refl c) (hH.set es' (fun z => nomatch z) ⟨_, rfl, ((r2.take _).append (.one r1)).append (r2.drop _)⟩) .non
      · exact hR.elim
    · exact hR.elim
  | _ => exact hR.elim
variable {o : Expr} {apos pos : Pos}
end
end NK

set_option maxHeartbeats 2000000
namespace NK
open PySem L2

section
variable {X : Cx} {T : Tb} {P : Pin} {Wx : WX} {o i e : Expr} {es : List Expr} {mo mi : ME} {mas : MA} {pos p apos : Pos}
end

def maxL : List Int → Int
  | [] => 0
  | a :: l => l.foldl max a
theorem foldl_max (l : List Int) : ∀ a : Int, (l.foldl max a = a ∨ l.foldl max a ∈ l) ∧ a ≤ l.foldl max a ∧ ∀ y ∈ l, y ≤ l.foldl max a := by
  induction l with
  | nil => exact fun a => ⟨.inl rfl, Int.le_refl _, fun y h => nomatch h⟩
  | cons b l ih =>
    intro a
    obtain ⟨h1, h2, h3⟩ := ih (max a b)
    refine ⟨?_, Int.le_trans (Int.le_max_left a b) h2, fun y hy => ?_⟩
    · rcases h1 with h | h
      · rw [List.foldl_cons, h]
        rcases Int.le_total a b with z | z
        · exact .inr (by rw [Int.max_eq_right z]; exact List.mem_cons_self)
        · exact .inl (Int.max_eq_left z)
      · exact .inr (List.mem_cons_of_mem _ h)
    · rcases List.mem_cons.mp hy with rfl | hy
      · exact Int.le_trans (Int.le_max_right a y) h2
      · exact h3 y hy
theorem maxL_of {ns : List Int} {m : Int} (h1 : m ∈ ns) (h2 : ∀ y, y ∈ ns → y ≤ m) : m = maxL ns := by
  cases ns with
  | nil => cases h1
  | cons a l =>
    obtain ⟨k1, k2, k3⟩ := foldl_max l a
    refine Int.le_antisymm ?_ ?_
    · rcases List.mem_cons.mp h1 with rfl | h
      · exact k2
      · exact k3 _ h
    · show l.foldl max a ≤ m
      rcases k1 with k | k
      · rw [k]; exact h2 _ List.mem_cons_self
      · exact h2 _ (List.mem_cons_of_mem _ k)
def fMaxL : List U → Sto → Out U := fun us st => match us with
  | [u] => match asLst u st with
    | some xs => match allInts xs with
      | some ns => if 0 < ns.length then .ok (.int (maxL ns)) st else .bad
      | none => .bad
    | none => .bad
  | _ => .bad
theorem sim_maxL {T : Tb} : CallSim T (rMax T.K) fMaxL := fun Wx c σ st H us xs Q hH r hR => by
  cases r with
  | nil => exact hR.elim
  | @cons u v us vs r t =>
    cases t with
    | cons _ _ => exact hR.elim
    | nil =>
      dsimp only [fMaxL] at hR
      split at hR
      · rename_i us e
        obtain ⟨a, vs, rfl, h1, r1⟩ := asLst_at hH r e
        split at hR
        · rename_i ns e2
          split at hR
          · rename_i hp
            refine ⟨a, ns, rfl, by rw [← allInts_at r1 e2]; exact SqL.of h1, hp, fun m k1 k2 => ?_⟩
            rw [maxL_of k1 k2]
            exact ResG.ret hR hH (.int _)
          · exact hR.elim
        · exact hR.elim
      · exact hR.elim

section
variable {X : Cx} {T : Tb} {P : Pin} {Wx : WX} {e : Expr} {es : List Expr} {mo : ME} {mas : MA} {pos p : Pos} {kk k n : Nat} {f : Addr} {fd : FuncData} {ps : List Str} {mf : MF} {x : Str}
end
end NK

namespace NK
open PySem L2

structure SupM (P : Program) (K : PySem.W.Frag) (mg : Str → Option Value) (N ps : List Str) (sc : Scope) (D cda cc g : Addr) (m : Str) : Prop where
  kind : sc.kind = .function
  co : sc.isCoroutine = false
  gen : sc.isGenerator = false
  nd : N.Nodup
  pre : N.take ps.length = ps
  par : ∀ x ∈ ps, sc.names.lookup x = some .local
  nocell : ∀ y ∈ sc.names, y.2 ≠ .cell
  free : ∀ y, sc.names.lookup y = some .free → y = ("__class__" : Str)
  ksup : sc.names.lookup ("super" : Str) = some .globalImplicit
  kcls : sc.names.lookup ("__class__" : Str) = some .free
  code : ∃ ccl cdd vs ccs file tf, K.lookup cda = some ⟨ccl, cdd, .fields vs, ccs⟩ ∧ vs[2]? = some (.str file tf) ∧ ((P.main.file : Str) == file) = true
  cell : ∃ cl cld csl, K.lookup cc = some ⟨cl, cld, .cell (some (.ref D)), csl⟩
  sup : PySem.W.ks_superIn K D D m = some (some (.ref g))
  fn : PySem.W.isFn K (.ref g) = true
  fnI : PySem.W.fnIn K g = true
  self : PySem.W.mroIn K D (.ref D) = some true
  opq : PySem.W.nsIn K cStatics "thirdparty.any" = some none
  msup : mg "super" = none
  top : (P.main.scope.names.lookup ("super" : Str)).isSome = false
  nam : (m == ("__class__" : Str)) = false

section
variable {P : Program} {w : World} {K : PySem.W.Frag} {mg : Str → Option Value} {base : Heap} {N ps : List Str} {qual : Str} {scope : Scope} {f cda cc C g : Addr} {m : Str} {A : Around} {outer : List PySem.Env} {s : Shared} {H : Hp} {E : XK} {us : List Value} {vs : List V}
end

end NK

namespace NK
open PySem L2
open PySem.Spec PyProof.Rows

section
variable {X : Cx} {T : Tb} {P : Pin} {Wx : WX} {o i z e : Expr} {es : List Expr} {mo mi mz : ME} {mas : MA} {pos p apos : Pos}
end
section
variable {X : Cx} {T : Tb} {P : Pin} {Wx : WX} {kk k n : Nat} {f C : Addr} {mf : MF} {x : Str} {e : Expr} {es : List Expr} {m : ME} {mas : MA} {p pos sps : Pos} {sp : Sp}
end
end NK

namespace NK
open PySem L2
open PySem.Spec PyProof.Rows
section
variable {X : Cx} {T : Tb} {P : Pin} {Wx : WX} {o e : Expr} {mo me : ME} {pos apos : Pos}
end
section
variable {X : Cx} {T : Tb} {P : Pin} {Wx : WX} {kk n : Nat} {f : Addr} {fd : FuncData} {ps ks : List Str} {mf : MF} {x : Str} {kws : List Keyword} {mks : MA} {p pos : Pos}
end
end NK

namespace NK
open PySem L2
open PySem.Spec PyProof.Rows
section
variable {X : Cx} {T : Tb} {P : Pin} {Wx : WX} {pos : Pos}
end
end NK

namespace NK
open PySem L2
open PySem.Spec PyProof.Rows
section
variable {T : Tb}
def fMax2 : List U → Sto → Out U := fun us st => match us with
  | [.int i, .int j] => .ok (.int (if j > i then j else i)) st
  | _ => .bad
theorem sim_max2 : CallSim T (fun xs H Q => ∃ i j, xs = [.int i, .int j] ∧ Q (.int (if j > i then j else i)) H) fMax2 := fun Wx c σ st H us xs Q hH r hR => by
  unfold fMax2 at hR
  split at hR
  · rename_i i j
    obtain ⟨v, vs, rfl, r1, t⟩ := r.inv_cons
    obtain ⟨v2, vs2, rfl, r2, t2⟩ := t.inv_cons
    cases t2.inv_nil
    cases r1.inv_int
    cases r2.inv_int
    exact ⟨i, j, rfl, ResG.ret hR hH (.int _)⟩
  · exact hR.elim
end
open PySem.W (AlikeAll max_list_default maxD_ints)
section
variable {X : Cx} {T : Tb} {P : Pin} {Wx : WX}
end

section
variable {P : Program} {w : World} {K : PySem.W.Frag} {mg : Str → Option Value} {base : Heap} {T : Tb} {x qual : Str} {params : Arguments} {body : List Stmt} {scope : Scope} {dvs : List V} {kws : List (Str × V)} {f : Addr} {fd : FuncData} {N ps : List Str} {k : Nat} {mb : MS}
end
def KwTo {α : Type} (D : Addr) : List (Str × Value) → Sem α → Sem α → Prop
  | [], t, r => t = r
  | q :: l, t, r => ∃ (β γ : Type) (k1 : Option Value → Sem β) (k2 : β → Sem γ) (k3 : γ → Sem α) (a : β), t = ((nsGet D q.1 >>= k1) >>= k2) >>= k3 ∧ k1 (some q.2) = pure a ∧ KwTo D l (k2 a >>= k3) r
theorem KwTo.run {α : Type} {K : PySem.W.Frag} {M : Model} {A : Around} {Q : α → Shared → Prop} {Ex : Value → Shared → Prop} {s : Shared} {D : Addr} (X : K.In s.heap) : ∀ {l : List (Str × Value)} {t r : Sem α}, (∀ q ∈ l, PySem.W.nsIn K D q.1 = some (some q.2)) → KwTo D l t r → wpAny M A r Q Ex s → wpAny M A t Q Ex s
  | [], t, r, _, e, h => by rw [show t = r from e]; exact h
  | q :: l, t, r, hl, e, h => by
    obtain ⟨β, γ, k1, k2, k3, a, e1, e2, e3⟩ := e
    have l1 : PySem.W.Looks M s.heap (nsGet D q.1 >>= k1) a := (PySem.W.looks_nsIn X (hl q (List.mem_cons_self ..))).andThen (PySem.W.Looks.of_pure e2)
    rw [e1, bind_assoc]
    exact wpAny_bind (l1.here (KwTo.run X (fun p hp => hl p (List.mem_cons_of_mem _ hp)) e3 h))
section
variable {X : Cx} {T : Tb} {P : Pin} {Wx : WX} {kk n nk : Nat} {f : Addr} {fd : FuncData} {ps ks : List Str} {sel : List (Bool × Nat)} {dU : List U} {dV : List V} {mf : MF} {x : Str} {e : Expr} {es : List Expr} {kws : List Keyword} {mas mks : MA} {p pos : Pos}
end
end NK
namespace NK
end NK
namespace NK
open PySem L2
open PySem.Spec PyProof.Rows
end NK

namespace NK
open PySem PySem.Spec PyProof.Rows L2
section
variable {X : Cx} {T : Tb} {P : Pin} {Wx : WX} {a b : Expr} {ma mb : ME} {pos : Pos} {kk k : Nat} {f : Addr} {fd : FuncData} {ps : List Str} {mf : MF} {op : Operator}
end
end NK
namespace NK
open PySem PySem.Spec PyProof.Rows L2
section
variable {X : Cx} {T : Tb} {P : Pin} {Wx : WX} {o i z : Expr} {mo mi mz : ME} {pos apos : Pos}
end
end NK

namespace NK
open PySem PySem.Spec PyProof.Rows L2 LamX
section
variable {X : Cx} {pins : List (Addr × Obj)} {σ : L2.St} {H : Hp} {s : Shared}
def KpL (X : Cx) (d : LamD) (f c' : Addr) (G : Hp) : Prop := ∃ pm ctv, G f = some (FnO f (d.obj X pm c' ctv)) ∧ G c' = some (CodeO c' (X.env.qual ++ "<lambda>"))
theorem pe_act2 {CXg : CXT} {Eg : XK} {Ng : List Str} {qg : Str} {sg : Scope} {g f c' : Addr} {cdg : Value} {d : LamD} {k i : Nat} {a : Str} {pn : List (Addr × Obj)} {xe : Value → Shared → Prop} {W : WX} {tb : XK → TE} {p1 p2 : Pos}
    (I : Inv X pins σ H s) (L : LamS X.env.scope d.scope)
    (hbind : ∀ (q : Str) (cl : List (Str × Addr)) (pm cv ctv : Value), bindArgs (PySem.W.kla_fn "<lambda>" q d.params d.body d.scope cl pm cv ctv) ⟨[], []⟩ = pure [])
    (tk : Takes ((cxOf CXg X.prog X.w X.K X.mg X.base Ng qg sg g cdg X.A X.stack s H Eg).tr pn xe) W) (hr : Room (k + 1) (X.A.deeper (envOfC qg sg s.heap.objs.size g cdg)))
    (hbody : ∀ (A : Around) (outer : List PySem.Env) (s : Shared) (H : Hp) (E : XK), Room k (A.deeper (lamEnv X d.scope s.heap.objs.size f c')) → PE (lamCx X A outer s H E d.scope f c') d.body (tb E))
    (hN : Ng[i]? = some a) (hv : Vis sg a) (hd : (a == ("__debug__" : Str)) = false := by decide) (hcd : (a == ("__classdict__" : Str)) = false := by decide) :
    PE ((cxOf CXg X.prog X.w X.K X.mg X.base Ng qg sg g cdg X.A X.stack s H Eg).tr pn xe) (.Call (.Name a p1) [] [] p2)
      (fun σZ HZ Q => σZ[i]? = some (some (.ref f)) ∧ KpL X d f c' HZ ∧ tb (fun cls dd G => W cls dd σZ G) σ HZ Q) := by
  refine ⟨fun pz sz z G Q J ⟨e1, ⟨pm, ctv, eF, e2⟩, e3⟩ => ?_⟩
  refine wpAny_Call_Name_kw (thn ((pe_var (pos := p1) (i := i) hN hv hd hcd).run pz sz z G (fun v G' => v = .ref f ∧ G' = G) J ⟨.ref f, e1, rfl, rfl⟩) fun u s1 ⟨v, G', J1, r1, q1, q2⟩ => ?_)
  subst q1 q2
  obtain rfl : u = Value.ref f := r1
  have of1 : s1.heap.get? f = some (d.obj X pm c' ctv) := (J1.hok f _ eF).1
  refine PySem.W.callWith_F0 ⟨_, _, _, _, of1⟩ ?_
  obtain ⟨⟨oc, vs, t, g1, g2, g3⟩, _, _⟩ := J1.hok c' _ e2
  have un : Un (frs X.stack) [] H G' s.heap s1.heap := J1.base
  have rc : codeAny (model X.prog X.w) (X.A.deeper (envOfC qg sg s.heap.objs.size g cdg)) (.call (.ref f) ⟨[], []⟩) (CR (L2.CX X.prog X.w) (envOfC qg sg s.heap.objs.size g cdg :: X.stack) X.prog X.w G' s1 Q (fun cls dd G => W cls dd z G)) s1 := by
    refine PySem.W.kla_callFunE hr.depth of1 rfl L.co L.gen rfl ⟨c', oc, vs, t, rfl, g1, g2, g3⟩ ?_
    rw [hbind]
    refine wpAny_pure (wpAny_newFunctionEnv (fun y hy => (L.own y hy).2) (fun y hy => absurd hy (by simp)) (fun h1 hns hsb => ⟨J1.nolimit.fresh _ hsb, ?_⟩) L.kind)
    show codeAny _ _ (.expr d.body (lamEnv X d.scope s1.heap.objs.size f c')) _ _
    have J2 : Inv (lamCx X (X.A.deeper (envOfC qg sg s.heap.objs.size g cdg)) (envOfC qg sg s.heap.objs.size g cdg :: X.stack) s1 G' (fun cls dd G => W cls dd z G) d.scope f c') [] σ G' { s1 with heap := h1, toks := s1.toks + ([] : List (Str × Value)).length } :=
      lam_start2 I L J1.env0 hr.hd un hns fun b o e => hsb.extBut b o (Nat.ne_of_lt (Heap.lt_size e)) (Heap.get?_push_of_some _ e)
    refine PySem.W.kla_codeExpr (wpAny_mono ((hbody _ _ s1 G' _ (hr.deeper _)).run [] _ _ G' Q J2 e3) (fun v s2 hq => ?_) fun e s2 hq => hq)
    obtain ⟨w1, G1, J3, rv, q⟩ := hq
    exact ⟨w1, G1, J3.os, J3.bare, J3.base, J3.hok, rv, q⟩
  refine wpAny_call (codeAny_mono rc fun r s2 hq => ?_)
  cases r with
  | error e => exact passAt tk z pz G' s1 e s2 J1 hq
  | ok fl =>
    cases fl with
    | ret u => exact J1.after hq
    | next => exact False.elim hq
    | brk => exact False.elim hq
    | cont => exact False.elim hq
end
section
variable {X : Cx}
def tLamW (X : Cx) (P : Addr) (d : LamD) (TT : (XK → Hp → VK → Prop) → Hp → VK → Prop) (t : XK → TE) : TE := fun σ H Q => Tabl P H ∧ ∀ f k H1, Made P (X.env.qual ++ "<lambda>") H H1 k → H1 f = none → H1 k = some (CodeO k (X.env.qual ++ "<lambda>")) ∧ ∀ ob : Obj, TT (fun E G Q' => t E σ G Q') (upd H1 f (FnO f ob)) Q
end
end NK
namespace NK
open PySem PySem.Spec PyProof.Rows L2 LamX
section
variable {X : Cx}
end
end NK
namespace NK
open PySem PySem.Spec PyProof.Rows L2 LamX
section
variable {X : Cx} {T : Tb} {Wx : WX}
end
end NK

namespace NK
open PySem PySem.Spec PyProof.Rows L2
section
variable {T : Tb} {c : Cn} {st : Sto} {H : Hp}
end
section
variable {X : Cx} {T : Tb} {P : Pin} {Wx : WX} {o i e value : Expr} {es : List Expr} {mo mi m m1 m2 : ME} {mas mr : MA} {pos pos' p apos : Pos}
end
end NK

namespace NK
open PySem PySem.Spec PyProof.Rows L2 LamX
section
variable {X : Cx} {T : Tb} {Wx : WX}
end
section
variable {X : Cx} {T : Tb} {P : Pin} {Wx : WX} {a : Expr} {m : ME} {p p2 pos pos2 : Pos}
end
end NK

namespace NK
open PySem PySem.Spec PyProof.Rows L2
def rRepr (K : PySem.W.Frag) : List V → Hp → VK → Prop := fun xs H Q => ∃ x d, xs = [x] ∧ Dp K H x d ∧ d.showable = true ∧ d.hasDict = false ∧ isDisplay d = true ∧ d.depth ≤ 50 ∧ d.shown.length ≤ sizeLine ∧ Q (.str d.shown) H
theorem call_reprD {X : Cx} (hq : X.A.guards = some []) (hu : X.A.units + 64 < cLine) : CallR X (.builtin "repr") (rRepr X.K) := by
  intro pins s σ H xs us Q I r h
  obtain ⟨x, d, rfl, hd, h1, h2, h3, h4, h5, q⟩ := h
  obtain ⟨u, rfl, ru⟩ := r.one
  obtain ⟨as, rd⟩ := Dp.reads I d x u hd ru
  obtain ⟨a, rfl⟩ := isRef_of_reads rd h3
  exact repr_of_reads' rd h1 (PyData.noDict_hsm h2) hq (by omega) (fun _ _ e => e) (fun h' u tk hk => ⟨.str _, H, I.kept hk, ⟨_, rfl⟩, q⟩) h5
def showsOk (d : PyData) : Prop := d.showable = true ∧ d.hasDict = false ∧ isDisplay d = true ∧ d.depth ≤ 50 ∧ d.shown.length ≤ 16777216
instance (d : PyData) : Decidable (showsOk d) := by unfold showsOk; infer_instance
def fRepr : List U → Sto → Out U := fun us st => match us with
  | [u] => match toD st 12 u with
    | some d => if showsOk d then .ok (.str d.shown) st else .bad
    | none => .bad
  | _ => .bad
theorem sim_reprD {T : Tb} : CallSim T (rRepr T.K) fRepr := fun Wx c σ st H us xs Q hH r hR => by
  unfold fRepr at hR
  cases r with
  | nil => exact hR.elim
  | @cons u v us vs r t =>
    cases t with
    | cons _ _ => exact hR.elim
    | nil =>
      dsimp only at hR
      split at hR
      · rename_i d e
        split at hR
        · rename_i ok
          obtain ⟨h1, h2, h3, h4, h5⟩ := ok
          exact ⟨v, d, rfl, toD_at hH _ _ _ _ r e, h1, h2, h3, h4, by rw [sizeLine_eq]; exact h5, ResG.ret hR hH (.str _)⟩
        · exact hR.elim
      · exact hR.elim
structure FnQ (P : Program) (w : World) (K : PySem.W.Frag) (mg : Str → Option Value) (base : Heap) (CX : CXT) (k : Nat) (f : Addr) (fd : FuncData) (ps : List Str) (sp : Sp) : Prop where
  len : ∀ vs H Q E, sp vs H Q E → vs.length = ps.length
  run : ∀ (A : Around) (up : List PySem.Env) (t : Shared) (H : Hp) (args : Args) (us : List Value) (vs : List V) (Q : VK) (E : XK), A.guards = some [] → Room k A → Env0 P w K mg base A up t H → BindsTo t fd args (ps.zip us) → Vals vs us → sp vs H Q E →
    codeAny (model P w) A (.call (.ref f) args) (CR CX up P w H t Q E) t
section
variable {P : Program} {w : World} {K : PySem.W.Frag} {mg : Str → Option Value} {base : Heap} {CX : CXT} {k : Nat} {f : Addr} {fd : FuncData} {ps : List Str} {sp sp' : Sp}
theorem FnQ.of (F : FnOk P w K mg base CX k f fd ps sp) : FnQ P w K mg base CX k f fd ps sp := ⟨F.len, fun A up t H args us vs Q E _ => F.run A up t H args us vs Q E⟩
theorem FnQ.imp (F : FnQ P w K mg base CX k f fd ps sp) (h : ∀ vs H Q E, sp' vs H Q E → sp vs H Q E) : FnQ P w K mg base CX k f fd ps sp' :=
  ⟨fun vs H Q E z => F.len vs H Q E (h vs H Q E z), fun A up t H args us vs Q E g hr e0 hb hv z => F.run A up t H args us vs Q E g hr e0 hb hv (h vs H Q E z)⟩
end
theorem flow_end {CX : CXT} {P : Program} {w : World} {K : PySem.W.Frag} {mg : Str → Option Value} {base : Heap} {N : List Str} {qual : Str} {scope : Scope} {f : Addr} {cd : Value} {A : Around} {up : List PySem.Env} {t t1 : Shared} {H : Hp} {Q : VK} {E : XK} {fl : Flow}
    (h : SP (cxOf CX P w K mg base N qual scope f cd A up t H E) [] { nx := fun _ G => Q .non G, rt := Q } fl t1) : CR CX up P w H t Q E (.ok (match fl with
      | .next => .ret .none
      | x => x)) t1 := by
  have fin : ∀ {τ : L2.St} {G : Hp} {v : V} {u : Value}, Inv (cxOf CX P w K mg base N qual scope f cd A up t H E) [] τ G t1 → RelV v u → Q v G → CE up P w H t Q u t1 := fun {τ G v u} J r q => ⟨v, G, J.os, J.bare, J.base, J.hok, r, q⟩
  cases fl with
  | next => exact let ⟨τ, G, J, q⟩ := h; fin (v := .non) J rfl q
  | ret u => exact let ⟨v, τ, G, J, r, q⟩ := h; fin J r q
  | brk => exact let ⟨_, _, _, q⟩ := h; q.elim
  | cont => exact let ⟨_, _, _, q⟩ := h; q.elim
open PyProof.Rows (envOfC) in
theorem fnq_of {CX : CXT} {P : Program} {w : World} {K : PySem.W.Frag} {mg : Str → Option Value} {base : Heap} {k : Nat} {f : Addr} {name qual : Str} {params : Arguments} {body : List Stmt} {scope : Scope} {dV kV doc pm cdv ct oc : Value} {an od : Option Addr}
    {osl : Array (Option Value)} {N ps : List Str} {sp : Sp} (fk : K.lookup f = some ⟨oc, od, .func (PySem.W.fnOf name qual params body scope dV kV doc pm an cdv ct), osl⟩) (cod : PySem.W.codeIn K cdv qual = true) (S : FnScope N ps scope) (len : ∀ vs H Q E, sp vs H Q E → vs.length = ps.length)
    (go : ∀ (A : Around) (up : List PySem.Env) (t : Shared) (H : Hp) (vs : List V) (Q : VK) (E : XK), A.guards = some [] → Room k (A.deeper (envOfC qual scope t.heap.objs.size f cdv)) → sp vs H Q E →
      ∃ b, PSs (cxOf CX P w K mg base N qual scope f cdv A up t H E) body b ∧ b { nx := fun _ G => Q .non G, rt := Q } (L2.start N vs) H) :
    FnQ P w K mg base CX (k + 1) f (PySem.W.fnOf name qual params body scope dV kV doc pm an cdv ct) ps sp := by
  refine ⟨len, fun A up t H args us vs Q E gd room e0 bt rv wish => ?_⟩
  have nvs := len _ _ _ _ wish
  have kin : K.In t.heap := e0.mod.kin.keeps fun b o z => (e0.bs b o z).1
  have nolim : t.heap.NoLimit := e0.mod.nolimit.keeps fun b o z => (e0.bs b o z).1
  have kinds : ∀ y ∈ ps.zip us, scope.names.lookup y.1 = some .local ∨ (scope.names.lookup y.1 = some .cell ∧ ((cellsFrom (t.heap.objs.size + 1) scope.names []).lookup y.1).isSome = true) := by
    rintro ⟨n, v⟩ hy
    refine (S.par n (List.of_mem_zip hy).1).imp id fun z => ⟨z, PySem.W.cellsFrom_some _ _ _ (.inl z)⟩
  refine codeAny_call_function room.depth (kin _ _ fk) rfl S.co S.gen rfl (PySem.W.codeRec_of kin cod) (bt _ _ _ _ (wpAny_newFunctionEnv_cells S.kind kinds fun env z t1 x => ?_))
  subst z
  obtain ⟨b, hb, hw⟩ := go A up t H vs Q E gd (room.deeper _) wish
  have J : Inv (cxOf CX P w K mg base N qual scope f cdv A up t H E) [] (L2.start N vs) H t1 := inv_start S room.hd e0 nvs rv x
  refine ⟨nolim.keeps x.toInCall.keep, codeAny_func (wpAny_mono (hb.run [] t1 (L2.start N vs) H _ J hw) (fun fl t2 z => ?_) fun _ _ z => z)⟩
  have e := flow_end z
  cases fl with
  | next => exact e
  | ret u => exact e
  | brk => exact let ⟨_, _, _, q⟩ := z; False.elim q
  | cont => exact let ⟨_, _, _, q⟩ := z; False.elim q
section
variable {P : Program} {w : World} {K : PySem.W.Frag} {mg : Str → Option Value} {base : Heap} {T : Tb} {x qual : Str} {params : Arguments} {body : List Stmt} {scope : Scope} {dvs : List V} {kws : List (Str × V)} {f cd : Addr} {fd : FuncData} {N ps : List Str} {k : Nat} {mb : MS}
theorem run_ends {env : Env} {st : Sto} {c : Cn} {W : XK} {Q : VK} (hR : ResG T (fun cls d _ H => W cls d H) c [] (Rp T) (match mb env st with
      | .ret u st' => Out.ok u st'
      | .next _ st' => .ok .non st'
      | .exc x _ st' => .exc x st'
      | _ => .bad) Q) : ResS T none (fun cls d _ H => W cls d H) c (mb env st) { nx := fun _ G => Q .non G, rt := Q } := by
  cases q : mb env st with
  | ret u st' => rw [q] at hR; exact fun c' v H' a b d => hR c' v H' a b d
  | next env st' => rw [q] at hR; exact fun c' σ' H' a b d => hR c' .non H' a b .non
  | exc x' env st' => rw [q] at hR; exact fun c' cls d σ' H' a b _ e => hR c' cls d H' a b e
  | brk env st' => rw [q] at hR; exact hR.elim
  | cont env st' => rw [q] at hR; exact hR.elim
  | bad => rw [q] at hR; exact hR.elim
open PyProof.Rows (envOfC) in
theorem fund_okmQ (F : FunD K x qual params body scope dvs kws f fd) (S : FnScope N ps scope)
    (hb : ∀ (cdv : Value) (A : Around) (outer : List PySem.Env) (s : Shared) (H : Hp) (E : XK), A.guards = some [] → Room k (A.deeper (envOfC qual scope s.heap.objs.size f cdv)) →
      PSsm (cxOf (L2.CX P w) P w K mg base N qual scope f cdv A outer s H E) T none (fun cls d _ H => E cls d H) body mb) : FnQ P w K mg base (L2.CX P w) (k + 1) f fd ps (spOf T ps.length (fScope (runF N.length mb))) := by
  obtain ⟨oc, od, dV, kV, doc, pm, an, cdv, ct, osl, rfl, lk, hcd, _, _⟩ := F.ex
  refine FnQ.imp (sp := spOf T ps.length (runF N.length mb)) (fnq_of lk hcd S (fun vs H Q E h => h.1) fun A outer s H vs Q E hq hr h => ⟨_, hb cdv A outer s H E hq hr, ?_⟩) spOf_scope
  obtain ⟨hl, c, us, st0, hH, r, hR⟩ := h
  exact ⟨c, _, st0, hH, start_RE r, run_ends hR⟩
open PyProof.Rows (envOfC) in
theorem fund_okmCQ (F : FunD K x qual params body scope dvs kws f fd) (S : FnScope N ps scope) (hc : fd.code = .ref cd)
    (hb : ∀ (A : Around) (outer : List PySem.Env) (s : Shared) (H : Hp) (E : XK), A.guards = some [] → Room k (A.deeper (envOfC qual scope s.heap.objs.size f (.ref cd))) →
      PSsm (cxOf (L2.CX P w) P w K mg base N qual scope f (.ref cd) A outer s H E) T none (fun cls d _ H => E cls d H) body mb) : FnQ P w K mg base (L2.CX P w) (k + 1) f fd ps (spOf T ps.length (fScope (runF N.length mb))) := by
  obtain ⟨oc, od, dV, kV, doc, pm, an, cdv, ct, osl, rfl, lk, hcd, _, _⟩ := F.ex
  have e : cdv = .ref cd := hc
  subst e
  refine FnQ.imp (sp := spOf T ps.length (runF N.length mb)) (fnq_of lk hcd S (fun vs H Q E h => h.1) fun A outer s H vs Q E hq hr h => ⟨_, hb A outer s H E hq hr, ?_⟩) spOf_scope
  obtain ⟨hl, c, us, st0, hH, r, hR⟩ := h
  exact ⟨c, _, st0, hH, start_RE r, run_ends hR⟩
end
section
variable {X : Cx} {T : Tb} {P : Pin} {Wx : WX} {e : Expr} {es : List Expr} {ma : MA} {pos : Pos}
theorem pem_callQ {k n : Nat} {f : Addr} {fd : FuncData} {ps : List Str} {mf : MF} {x : Str} {p : Pos} (tk : Takes X Wx) (F : FnQ X.prog X.w X.K X.mg X.base (L2.CX X.prog X.w) k f fd ps (spOf T n mf)) (gd : X.A.guards = some []) (hr : Room k X.A) (hg : Gl X x) (hm : X.mg x = some (.ref f)) (hk : PySem.W.keepIn X.K (.ref f) = true) (hb : Binds X.K fd ps [])
    (hn : ps.length = n) (ha : PAm X T P Wx (e :: es) ma) (hdb : (x == ("__debug__" : Str)) = false := by decide) (he : starEach (e :: es) X.env = (false, eval e X.env) :: starEach es X.env := by rfl) (hpl : (backTo pos (starEach es X.env)).any (·.1) = false := by rfl) :
    PEm X T P Wx (.Call (.Name x p) (e :: es) [] pos) (eCall n mf [] ma) := by
  have go : PE X (.Call (.Name x p) (e :: es) [] pos) (fun σ H Q => taOf T P Wx ma σ H fun vs H1 => spOf T n mf vs H1 Q fun cls d G => Wx cls d σ G) := by
    refine ⟨fun pins t σ H Q I h => wpAny_Call_Name_kw (ld_glob I hg hm ?_ hdb)⟩
    refine PySem.W.callWith_K (h₀ := X.base) I.ok.mod.kin hk (thn (ha.run pos pins t σ H _ I h) fun us t1 ⟨vs, H1, J, r, q⟩ => ⟨J.kIn, ?_⟩) he hpl
    have nl : us.length = ps.length := by rw [← r.length]; exact F.len _ _ _ _ q
    have bt : BindsTo t1 fd ⟨us, []⟩ (ps.zip us) := by
      have z := hb t1 us J.kIn (by rw [List.append_nil]; exact nl)
      rw [List.append_nil] at z
      exact z
    refine wpAny_call (codeAny_mono (F.run X.A X.stack t1 H1 ⟨us, []⟩ us vs Q (fun cls d G => Wx cls d σ G) gd hr J.env0 bt r q) fun a t2 z => ?_)
    cases a with
    | error er => exact passAt tk σ pins H1 t1 er t2 J z
    | ok fl => cases fl <;> first | exact J.after z | exact False.elim z
  refine PE.imp go fun σ H Q ⟨c, env, st, hH, hE, hR⟩ => ?_
  refine (tg_bind hH hE hR).mono fun vs H1 ⟨us, c1, st1, l1, hH1, hE1, r1, hR1⟩ => ?_
  rw [List.append_nil] at hR1
  split at hR1
  · rename_i hl
    exact ⟨by rw [← r1.length]; exact hl, c1, _, st1, hH1, r1, hR1.wish fun cls d H h => h⟩
  · exact hR1.elim
end
end NK

namespace NK
open PySem PySem.Spec PyProof.Rows L2 LamX
def lawHp (K : PySem.W.Frag) (a : Addr) (o : Obj) (xs : List V) (ts : List Addr) : Hp := fun b => if b ∈ ts then some (.tbl #[]) else if b = a ∧ K.lookup a = none then some (.frz o (.lst xs)) else none
section
variable {K : PySem.W.Frag} {a b : Addr} {o : Obj} {xs : List V} {ts : List Addr}
theorem lawHp_tab (h : b ∈ ts) : lawHp K a o xs ts b = some (.tbl #[]) := if_pos h
theorem lawHp_cases (b : Addr) : b ∈ ts ∨ (b ∉ ts ∧ b = a ∧ K.lookup a = none ∧ lawHp K a o xs ts b = some (.frz o (.lst xs))) ∨ (b ∉ ts ∧ lawHp K a o xs ts b = none) := by
  by_cases h : b ∈ ts
  · exact .inl h
  · by_cases g : b = a ∧ K.lookup a = none
    · exact .inr (.inl ⟨h, g.1, g.2, (if_neg h).trans (if_pos g)⟩)
    · exact .inr (.inr ⟨h, (if_neg h).trans (if_neg g)⟩)
end
theorem law_callQ {P : Program} {w : World} {K : PySem.W.Frag} {mg mb : Str → Option Value} {CX : CXT} {k : Nat} {fa a : Addr} {cs : List (Addr × Addr)} {fd : FuncData} {x : Str} {sp : Sp} {t : Shared} {vs : List Value} {ns : List Int}
    (kin : K.In t.heap) (gns : t.heap.Ns mainGlobals mg) (bns : t.heap.Ns builtinsNs mb) (boot : ∀ y : Str, y ≠ "__name__" → mb y = bootBuiltins y) (nolim : t.heap.NoLimit) (gens : t.gens = #[])
    (tabs : ∀ p ∈ cs, t.heap.get? p.2 = some { cls := .none, data := .fields #[] }) (ntab : ∀ p ∈ cs, K.lookup p.2 = none) (code : ∀ p ∈ cs, PySem.W.CodeHd t.heap p.1 p.2)
    (bm : ∃ (m : Addr) (ob : Obj), mg "__builtins__" = some (.ref m) ∧ m ≠ builtinsNs ∧ t.heap.get? m = some ob ∧ ob.cls = .type "module" ∧ ob.dict = some builtinsNs ∧ ob.data = .plain)
    (scr : t.heap.get? a = some { cls := .type "list", data := .seq vs.toArray }) (iare : IntsAre vs ns) (short : ns.length ≤ sizeLine) (gd : callerA.guards = some []) (room : Room k callerA)
    (F : ∀ base : Heap, K.In base → base.Ns mainGlobals mg → (∀ p ∈ cs, TabB base mg p.1 p.2) → FnQ P w K mg base CX k fa fd [x] sp) (bind : ∀ (s : Shared) (u : Value), BindsTo s fd ⟨[u], []⟩ [(x, u)])
    (wish : ∀ H : Hp, (∀ p ∈ cs, H p.2 = some (.tbl #[])) → SqL K H a (ns.map V.int) → sp [.ref a] H (fun v _ => v = .bl true) fun _ _ _ => False) (quiet : ∀ H e t', CX [] H t (fun _ _ _ => False) e t' → False) :
    codeAny (model P w) callerA (.call (.ref fa) ⟨[.ref a], []⟩) (fun r t' => r = .ok (.ret (.bool true)) ∧ OldK t.heap t'.heap ∧ t'.os = t.os ∧ AllBare t'.gens) t := by
  have rv : Vals (ns.map V.int) vs := vals_ints iare
  have nv : vs.length = ns.length := iare.length
  generalize eo : ({ cls := .type "list", data := .seq vs.toArray } : Obj) = o at scr
  have tb : ∀ b ∈ cs.map (·.2), t.heap.get? b = some { cls := .none, data := .fields #[] } ∧ K.lookup b = none ∧ ∃ p ∈ cs, p.2 = b := by
    rintro b hb
    obtain ⟨p, hp, rfl⟩ := List.mem_map.mp hb
    exact ⟨tabs p hp, ntab p hp, p, hp, rfl⟩
  have aNo : a ∉ cs.map (·.2) := fun z => by
    have e := (tb a z).1
    rw [scr, ← eo] at e
    cases e
  generalize eH : lawHp K a o (ns.map V.int) (cs.map (·.2)) = H
  have cas : ∀ b, b ∈ cs.map (·.2) ∨ (b ∉ cs.map (·.2) ∧ b = a ∧ K.lookup a = none ∧ H b = some (.frz o (.lst (ns.map V.int)))) ∨ (b ∉ cs.map (·.2) ∧ H b = none) := by
    rw [← eH]
    exact lawHp_cases
  have tab : ∀ p ∈ cs, H p.2 = some (.tbl #[]) := by
    rw [← eH]
    exact fun p hp => lawHp_tab (List.mem_map.mpr ⟨p, hp, rfl⟩)
  have sq : SqL K H a (ns.map V.int) := by
    rcases cas a with z | ⟨_, _, _, z⟩ | ⟨_, z⟩
    · exact absurd z aNo
    · exact .inl (.inr ⟨o, z⟩)
    · cases hk : K.lookup a with
      | none =>
        rw [← eH] at z
        rw [show lawHp K a o (ns.map V.int) (cs.map (·.2)) a = some (.frz o (.lst (ns.map V.int))) from (if_neg aNo).trans (if_pos ⟨rfl, hk⟩)] at z
        cases z
      | some o2 =>
        have e := kin a o2 hk
        rw [scr] at e
        have e2 := Option.some.inj e
        subst e2
        subst eo
        exact .inr ⟨_, vs.toArray, _, hk, rfl, rfl, rfl, by rw [List.size_toArray, nv]; exact short, rv⟩
  have held : HOk P w H t.heap := fun b u hu => by
    rcases cas b with z | ⟨_, rfl, _, z⟩ | ⟨_, z⟩
    · obtain ⟨z1, _, p, hp, rfl⟩ := tb b z
      rw [tab p hp] at hu
      cases hu
      exact z1
    · rw [z] at hu
      cases hu
      exact ⟨scr, by rw [List.length_map]; exact short, vs, _, rv, by rw [scr, ← eo]⟩
    · rw [z] at hu
      cases hu
  -- all else is not tracked
  have off : ∀ {b : Addr} {u : Obj}, t.heap.get? b = some u → (∀ its n, u.data ≠ .seq its n) → u.data ≠ .fields #[] → H b = none := fun {b u} e n1 n2 => by
    rcases cas b with z | ⟨_, rfl, _, _⟩ | ⟨_, z⟩
    · rw [(tb b z).1] at e
      cases e
      exact absurd rfl n2
    · rw [scr, ← eo] at e
      cases e
      exact absurd rfl (n1 _ _)
    · exact z
  have dict_off : ∀ {b : Addr} {u : Obj} {es : Array DictEntry} {n : Nat}, t.heap.get? b = some u → u.data = .dict es n → H b = none := fun {b u es n} e d => off e (fun its m z => by rw [d] at z; cases z) (fun z => by rw [d] at z; cases z)
  have ns2 : ∀ {b : Addr} {m : Str → Option Value}, t.heap.Ns b m → (hidT t.heap H).Ns b m := fun {b m} ⟨u, es, n, e, d, r⟩ => ⟨u, es, n, hidT_get e (dict_off e d), d, r⟩
  have kin2 : K.In (hidT t.heap H) := fun b u e => hidT_get (kin b u e) (by
    rcases cas b with z | ⟨_, rfl, z, _⟩ | ⟨_, z⟩
    · rw [(tb b z).2.1] at e
      cases e
    · rw [z] at e
      cases e
    · exact z)
  have tabs2 : ∀ p ∈ cs, TabB (hidT t.heap H) mg p.1 p.2 := fun p hp => by
    have there := tabs p hp
    have notTab : ∀ {m : Addr} {u : Obj}, t.heap.get? m = some u → u.data ≠ .fields #[] → m ≠ p.2 := fun {m u} e n z => by
      rw [z, there] at e
      cases e
      exact n rfl
    refine ⟨?_, ?_, ?_⟩
    · obtain ⟨u, us, file, tf, flags, tg, inF, text, tt, e1, q⟩ := code p hp
      have d := q.2.1
      have s2 := q.2.2.1
      refine ⟨u, us, file, tf, flags, tg, inF, text, tt, hidT_get e1 (off e1 (fun its n z => ?_) fun z => ?_), q⟩
      · rw [d] at z
        cases z
      · rw [d] at z
        cases z
        simp at s2
    · obtain ⟨m, ob, b1, b2, b3, b4, b5, b6⟩ := bm
      refine ⟨m, ob, b1, b2, fun z => ?_, notTab b3 (by rw [b6]; exact fun z => by cases z), hidT_get b3 (off b3 (fun its n z => by rw [b6] at z; cases z) fun z => by rw [b6] at z; cases z), b4, b5, b6⟩
      obtain ⟨u, es, n, e, d, _⟩ := gns
      rw [z, e] at b3
      cases b3
      rw [d] at b6
      cases b6
    · obtain ⟨u, es, n, e, d, _⟩ := gns
      exact notTab e (by rw [d]; exact fun z => by cases z)
  have md : L2.Mod K mg (hidT t.heap H) := ⟨kin2, ns2 gns, ⟨mb, ns2 bns, boot⟩, let ⟨m, h1, h2⟩ := nolim; ⟨m, ns2 h1, h2⟩⟩
  have e0 : Env0 P w K mg (hidT t.heap H) callerA [] t H := ⟨rfl, md, fun b u e => of_hidT e, Nat.le_of_eq (hidT_size _ _), trivial, (fun b hb => (List.not_mem_nil (show b ∈ ([] : List Addr) from hb)).elim), held, .of_eq gens⟩
  refine codeAny_mono ((F _ kin2 (ns2 gns) tabs2).run callerA [] t H ⟨[.ref a], []⟩ [.ref a] [.ref a] _ _ gd room e0 (bind t (.ref a)) (.cons rfl .nil) (wish H tab sq)) fun r t' z => ?_
  cases r with
  | error e => exact (quiet H e t' z).elim
  | ok fl =>
    cases fl with
    | next => exact False.elim z
    | brk => exact False.elim z
    | cont => exact False.elim z
    | ret u =>
      obtain ⟨v, H', os, bare, un, held', r', q⟩ := z
      cases (show v = .bl true from q)
      cases (show u = Value.bool true from r')
      have grown : ∀ p ∈ cs, ∃ more : Array Value, t'.heap.get? p.2 = some { cls := .none, data := .fields more } := fun p hp => by
        obtain ⟨more, z⟩ := un.tbls p.2 #[] (tab p hp)
        exact ⟨_, held' p.2 _ z⟩
      have keeps : ∀ b u, b ∉ cs.map (·.2) → t.heap.get? b = some u → t'.heap.get? b = some u := fun b u nb e => by
        rcases cas b with z | ⟨_, rfl, _, z⟩ | ⟨_, z⟩
        · exact absurd z nb
        · rw [scr] at e
          cases e
          exact (held' b _ (un.frzs b o _ z)).1
        · exact un.keep b u e z (fun h => nomatch (show b ∈ ([] : List Addr) from h)) (fun h => nomatch (show b ∈ ([] : List Addr) from h))
      refine ⟨rfl, ⟨fun b u e => ?_, fun b u e => ?_⟩, os, bare⟩
      · by_cases hb : b ∈ cs.map (·.2)
        · obtain ⟨z1, _, p, hp, rfl⟩ := tb b hb
          obtain ⟨more, hm⟩ := grown p hp
          rw [z1] at e
          cases e
          exact .inr (.inl ⟨((code p hp).tab z1).isCodeTable, rfl, #[], more, rfl, by rw [Array.empty_append]; exact hm⟩)
        · exact .inl (keeps b u hb e)
      · by_cases hb : b ∈ cs.map (·.2)
        · obtain ⟨_, _, p, hp, rfl⟩ := tb b hb
          exact let ⟨more, hm⟩ := grown p hp; ⟨_, hm⟩
        · exact ⟨u, keeps b u hb e⟩
end NK

namespace NK
open PySem PySem.Spec PyProof.Rows L2 LamX
section
variable {X : Cx}
theorem kpl_mono {d : LamD} {f c' : Addr} (G : Hp) (p : Addr) (o : HO) (hp : G p = none) (h : KpL X d f c' G) : KpL X d f c' (upd G p o) := by
  obtain ⟨pm, ctv, h1, h2⟩ := h
  exact ⟨pm, ctv, by rw [upd_ne (ne_of_none h1 hp)]; exact h1, by rw [upd_ne (ne_of_none h2 hp)]; exact h2⟩
def GivesTo3 (X : Cx) (Ng : List Str) (x : Str) (sg : Scope) (g : Addr) (cdg : Value) (bg : List Stmt) (a : Str) (TT : (XK → Hp → VK → Prop) → Hp → VK → Prop) : Prop :=
  ∀ (f : Addr) (Kp : Hp → Prop) (s : Shared) (H : Hp) (Q : VK) (tl : XK → Hp → VK → Prop), (∀ (G : Hp) (p : Addr) (o : HO), G p = none → Kp G → Kp (upd G p o)) →
    (∀ (W : WX) (pn : List (Addr × Obj)) (xe : Value → Shared → Prop) (p1 p2 : Pos), Takes ((cxOf C8.CX0 X.prog X.w X.K X.mg X.base Ng x sg g cdg X.A X.stack s H C8.E0).tr pn xe) W →
      PE ((cxOf C8.CX0 X.prog X.w X.K X.mg X.base Ng x sg g cdg X.A X.stack s H C8.E0).tr pn xe) (.Call (.Name a p1) [] [] p2) (fun z G Q => z[0]? = some (some (.ref f)) ∧ Kp G ∧ tl (fun cls dd G' => W cls dd z G') G Q)) →
    Kp H → TT tl H Q →
    ∃ t, PSs (cxOf C8.CX0 X.prog X.w X.K X.mg X.base Ng x sg g cdg X.A X.stack s H C8.E0).nox bg t ∧ t { nx := fun _ H' => Q .non H', rt := Q } (L2.start Ng [.ref f]) H
theorem pe_lamcall3 {TT : (XK → Hp → VK → Prop) → Hp → VK → Prop} {x a : Str} {g c P : Addr} {k : Nat} {pg : Arguments} {bg : List Stmt} {sg : Scope} {dV kV doc pm cdv ct oc : Value} {an od : Option Addr} {osl : Array (Option Value)} {Ng : List Str}
    {d : LamD} {t : XK → TE} {p lpos pos : Pos} (hg : Gl X x) (hm : X.mg x = some (.ref g)) (hk : PySem.W.keepIn X.K (.ref g) = true)
    (lk : X.K.lookup g = some ⟨oc, od, .func (PySem.W.fnOf x x pg bg sg dV kV doc pm an cdv ct), osl⟩) (hcg : PySem.W.codeIn X.K cdv x = true) (hb : L2.Binds X.K (PySem.W.fnOf x x pg bg sg dV kV doc pm an cdv ct) [a] []) (Sg : FnScope Ng [a] sg) (hNg : Ng[0]? = some a) (hva : Vis sg a)
    (hG : GivesTo3 X Ng x sg g cdv bg a TT)
    (TB : TabB X.base X.mg c P) (hcode : X.env.code = .ref c) (hr : Room (k + 2) X.A) (L : LamS X.env.scope d.scope) (hdef : defaultsOf d.params X.env = ([], []))
    (hbind : ∀ (q : Str) (cl : List (Str × Addr)) (pm cv ctv : Value), bindArgs (PySem.W.kla_fn "<lambda>" q d.params d.body d.scope cl pm cv ctv) ⟨[], []⟩ = pure [])
    (hbody : ∀ (A : Around) (outer : List PySem.Env) (s : Shared) (H : Hp) (E : XK) (f c' : Addr), Room k (A.deeper (lamEnv X d.scope s.heap.objs.size f c')) → PE (lamCx X A outer s H E d.scope f c') d.body (t E))
    (hdb : (x == ("__debug__" : Str)) = false := by decide) (hd : (a == ("__debug__" : Str)) = false := by decide) (hcd : (a == ("__classdict__" : Str)) = false := by decide) :
    PE X (.Call (.Name x p) [.Lambda d.params d.body d.scope lpos] [] pos) (tLamW X P d TT t) := by
  refine ⟨fun pins s σ H Q I ⟨hT, h⟩ => ?_⟩
  refine wpAny_Call_Name_kw (ld_glob I hg hm ?_ hdb)
  refine PySem.W.callWith_K (h₀ := X.base) I.ok.mod.kin hk ?_ (by rfl) (by rfl)
  show wpAny _ _ (spliced ((false, eval (.Lambda d.params d.body d.scope lpos) X.env) :: backTo pos (starEach [] X.env))) _ _ s
  refine Calls.spliced_cons (thn ((pe_lam (pos := lpos) TB hcode hdef L).run pins s σ H (fun v G => ∃ f k, v = .ref f ∧ (∃ H1 pm ctv, Made P (X.env.qual ++ "<lambda>") H H1 k ∧ H1 f = none ∧ G = upd H1 f (FnO f (d.obj X pm k ctv))) ∧ KpL X d f k G) I ⟨hT, fun f k pm ctv H1 m hf => ⟨f, k, rfl, ⟨H1, pm, ctv, m, hf, rfl⟩, pm, ctv, upd_same, by rw [upd_ne (ne_of_none (h f k H1 m hf).1 hf)]; exact (h f k H1 m hf).1⟩⟩) fun u s1 ⟨v, G, J, r1, f, c', ev, ⟨H1, pm', ctv', m, hf, eG⟩, kp⟩ => ?_)
  subst ev eG
  obtain rfl : u = Value.ref f := r1
  refine Calls.spliced_nil ⟨J.kIn, ?_⟩
  have rc : codeAny (model X.prog X.w) X.A (.call (.ref g) ⟨[.ref f], []⟩) (CR C8.CX0 X.stack X.prog X.w (upd H1 f (FnO f (d.obj X pm' c' ctv'))) s1 Q C8.E0) s1 :=
    run_ofS (N := Ng) (ps := [a]) (us := [.ref f]) (vs := [.ref f]) lk hcg Sg hr J.env0 (hb s1 [.ref f] J.kIn rfl) (.cons rfl .nil) rfl fun hr' => by
      obtain ⟨t', u1, u2⟩ := hG f (KpL X d f c') s1 _ Q (fun E G Q' => t E σ G Q') kpl_mono (fun W pn xe p1 p2 tk => pe_act2 (i := 0) J L hbind tk hr' (fun A outer s H E hr2 => hbody A outer s H E f c' hr2) hNg hva hd hcd) kp ((h f c' H1 m hf).2 _)
      exact ⟨t', u1.nox, u2⟩
  refine wpAny_call (codeAny_mono rc fun r s2 hq => ?_)
  cases r with
  | error e => exact (show False from hq).elim
  | ok fl =>
    cases fl with
    | ret u => exact J.after hq
    | next => exact False.elim hq
    | brk => exact False.elim hq
    | cont => exact False.elim hq
end
inductive It where
  | c (s : Str)
  | f (fl : Str)
def tIts (a : Addr) (cls : Value) (d : Option Addr) (C : Addr) (j : Nat) : List It → TA
  | [] => tNil
  | .c s :: r => tCons (tC (.str s)) (tIts a cls d C j r)
  | .f fl :: r => tCons (tXf a cls d C fl (tVar j)) (tIts a cls d C j r)
def ItV (G : Hp) (d : Option Addr) : It → V → Prop
  | .c s, v => v = .str s
  | .f fl, v => ∃ d2 fs, d = some d2 ∧ G d2 = some (.xd fs) ∧ fs.lookup fl = some v
def ItVs (G : Hp) (d : Option Addr) : List It → List V → Prop
  | [], vs => vs = []
  | i :: r, vs => ∃ v ws, vs = v :: ws ∧ ItV G d i v ∧ ItVs G d r ws
theorem tIts_of {a : Addr} {cls : Value} {d : Option Addr} {C : Addr} {j : Nat} {σ : L2.St} {H : Hp} (hj : σ[j]? = some (some (.ref a))) (hc : cls = .ref C) : ∀ (its : List It) (vs : List V) (Q : List V → Hp → Prop), ItVs H d its vs → Q vs H → tIts a cls d C j its σ H Q
  | [], _, Q, e, q => by
    cases (show _ = [] from e)
    exact q
  | .c s :: r, _, Q, e, q => by
    obtain ⟨v, ws, rfl, e1, e2⟩ := e
    cases (show v = _ from e1)
    exact tIts_of hj hc r ws _ e2 q
  | .f fl :: r, _, Q, e, q => by
    obtain ⟨v, ws, rfl, ⟨d2, fs, e1, e2, e3⟩, e4⟩ := e
    exact ⟨.ref a, hj, rfl, hc, d2, fs, v, e1, e2, e3, tIts_of hj hc r ws _ e4 q⟩
def Caught (K : PySem.W.Frag) : List (Addr × List It) → Value → Option Addr → Hp → VK → Prop
  | [], _, _, _, _ => False
  | (C, its) :: r, cls, d, G, k => ∃ b, PySem.W.exmOne K cls (.ref C) = some b ∧ (b = true → cls = .ref C ∧ ∃ vs, ItVs G d its vs ∧ vs.length ≤ sizeLine ∧ ∀ p, G p = none → k (.ref p) (upd G p (.tup vs))) ∧ (b = false → Caught K r cls d G k)
def TTold (K : PySem.W.Frag) (hs : List (Addr × List It)) : (XK → Hp → VK → Prop) → Hp → VK → Prop := fun tl H Q =>
  ∀ (E : XK) (R : VK) (p0 : Addr), H p0 = none → (∀ cls d G, Caught K hs cls d G (fun v G1 => ∀ p, G1 p = none → Q (.ref p) (upd G1 p (.tup [.non, v]))) → E cls d G) → (∀ v G, (∀ p, G p = none → Q (.ref p) (upd G p (.tup [v, .non]))) → R v G) → tl E (upd H p0 (.tup [.non, .non])) R
def tsIt (j k : Nat) (q : Addr × List It) : Value × (Addr → Value → Option Addr → TS) := (.ref q.1, fun a cls d => tAsg (tTup (tIts a cls d q.1 j q.2)) (gName k))
section
variable {X : Cx}
theorem told_gives {a tn fnd n x : Str} {sg : Scope} {g : Addr} {cdg : Value} {st0 : Stmt} {h0 : ExceptHandler} {hds : List ExceptHandler} {hs : List (Addr × List It)} {p3 p4 p5 p6 p7 p8 p9 p10 p11 : Pos} {kt}
    (nd : [a, tn, fnd, n].Nodup) (ht : sg.names.lookup tn = some .local) (hf : sg.names.lookup fnd = some .local) (hn : sg.names.lookup n = some .local)
    (dt : (tn == ("__debug__" : Str)) = false) (ct : (tn == ("__classdict__" : Str)) = false) (df : (fnd == ("__debug__" : Str)) = false) (cf : (fnd == ("__classdict__" : Str)) = false)
    (hi : ∀ (s : Shared) (H : Hp), PS (cxOf C8.CX0 X.prog X.w X.K X.mg X.base [a, tn, fnd, n] x sg g cdg X.A X.stack s H C8.E0).nox st0 (tAsg (tTup (tCons (tC .non) (tCons (tC .non) tNil))) (gTup X.K 2 (gCons (gName 1) (gCons (gName 2) L2.gNil)))))
    (hh : ∀ (s : Shared) (H : Hp), HdsAs (cxOf C8.CX0 X.prog X.w X.K X.mg X.base [a, tn, fnd, n] x sg g cdg X.A X.stack s H C8.E0).nox n (h0 :: hds) (hs.map (tsIt 3 2))) :
    GivesTo3 X [a, tn, fnd, n] x sg g cdg [st0, .Try [.Assign [.Name tn p3] (.Call (.Name a p4) [] [] p5) p6] (h0 :: hds) [] [] p7, .Return (some (.Tuple [.Name tn p8, .Name fnd p9] kt p10)) p11] a (TTold X.K hs) := by
  intro f Kp s H Q tl mono act hc h
  have N1 : ([a, tn, fnd, n] : List Str)[1]? = some tn := rfl
  have N2 : ([a, tn, fnd, n] : List Str)[2]? = some fnd := rfl
  have N3 : ([a, tn, fnd, n] : List Str)[3]? = some n := rfl
  refine ⟨_, pss_cons (hi s H) (pss_cons (ps_try_asMany (X := (cxOf C8.CX0 X.prog X.w X.K X.mg X.base [a, tn, fnd, n] x sg g cdg X.A X.stack s H C8.E0).nox) (i := 3) (Wout := fun _ _ _ _ => False)
      (tb := fun W D σ H => σ[0]? = some (some (.ref f)) ∧ Kp H ∧ tl (fun cls dd G => W cls dd σ G) H (fun v H' => D.nx (σ.set 1 (some v)) H'))
      nd N3 hn rfl rfl LamX.takes0 (fun W pn xe tk _ => ?_) (hh s H)) (pss_one (ps_ret (pe_tup (pa_cons (pe_var N1 (.inl ht) dt ct) (pa_cons (pe_var N2 (.inl hf) df cf) pa_nil)))))), ?_⟩
  · refine ⟨fun pins s' σ H' D I ⟨h1, h2, h3⟩ => ?_⟩
    exact (pss_one (ps_asg (pos := p6) (act W pn xe p4 p5 tk) (pg_name nd N1 (.inl ht)))).run pins s' σ H' D I ⟨h1, h2, h3⟩
  · refine ⟨(by show 2 ≤ sizeLine; decide), fun p0 hp0 => ⟨p0, _, rfl, SqT.of upd_same, rfl, .non, _, rfl, .non, _, rfl, rfl, rfl, mono H p0 _ hp0 hc, h _ _ p0 hp0 (fun cls d G hq => ?_) fun v G hq => ⟨v, rfl, .non, rfl, (by show 2 ≤ sizeLine; decide), hq⟩⟩⟩
    have go : ∀ l : List (Addr × List It), Caught X.K l cls d G (fun v G1 => ∀ p, G1 p = none → Q (.ref p) (upd G1 p (.tup [.non, v]))) → wAsMany X.K 3 (fun _ _ _ _ => False)
        { nx := fun σ' H' => tRet (tTup (tCons (tVar 1) (tCons (tVar 2) tNil))) { nx := fun _ H' => Q .non H', rt := Q } σ' H', rt := Q } (l.map (tsIt 3 2)) cls d ((([some (.ref f), none, none, none] : L2.St).set 1 (some .non)).set 2 (some .non)) G := by
      intro l
      induction l with
      | nil => exact fun z => z
      | cons q l ih =>
        obtain ⟨C, its⟩ := q
        rintro ⟨b, e, hy, hno⟩
        refine ⟨b, e, fun hb a9 _ => ?_, fun hb => ih (hno hb)⟩
        obtain ⟨ec, vs, hv, hz, k⟩ := hy hb
        refine tIts_of (σ := [some (.ref f), some .non, some .non, some (.ref a9)]) rfl ec its vs _ hv ⟨hz, fun p hp => ?_⟩
        exact ⟨.non, rfl, .ref p, rfl, (by show 2 ≤ sizeLine; decide), k p hp⟩
    exact go hs hq
end
inductive Iu where
  | c (s : Str)
  | f (i : Nat)
def Iu.at (us : List U) : Iu → Option U
  | .c s => some (.str s)
  | .f i => us[i]?
def iusAt (us : List U) : List Iu → Option (List U)
  | [] => some []
  | i :: r => match i.at us, iusAt us r with
    | some u, some ws => some (u :: ws)
    | _, _ => none
def caughtU : List (List Bool × List Iu) → Ex → Option (List U)
  | [], _ => none
  | (ks, its) :: r, x => match ks[x.k]? with
    | some true => iusAt x.us its
    | some false => caughtU r x
    | none => none
def eLamT (hs : List (List Bool × List Iu)) (ml : ME) : ME := fun env st => match ml env st with
  | .ok u st1 => .ok (.tup [u, .non]) st1
  | .exc x st1 => match caughtU hs x with
    | some us => .ok (.tup [.non, .tup us]) st1
    | none => .bad
  | .bad => .bad
inductive HsRel (K : PySem.W.Frag) (T : Tb) : List (Addr × List It) → List (List Bool × List Iu) → Prop
  | nil : HsRel K T [] []
  | cons {C : Addr} {its : List It} {ks : List Bool} {ius : List Iu} {l : List (Addr × List It)} {m : List (List Bool × List Iu)} (k : Nat) (hC : T.cls k = C) (hk : ks[k]? = some true) (one : ∀ j, ks[j]? = some true → j = k)
      (ex : ∀ (j : Nat) (b : Bool), ks[j]? = some b → PySem.W.exmOne K (.ref (T.cls j)) (.ref C) = some b) (nd : (T.fld k).Nodup)
      (it : All2 (fun (i : It) (u : Iu) => match i, u with
        | .c s, .c s2 => s = s2
        | .f fl, .f j => (T.fld k)[j]? = some fl
        | _, _ => False) its ius) (hz : ius.length ≤ 1000) (r : HsRel K T l m) : HsRel K T ((C, its) :: l) ((ks, ius) :: m)
section
variable {T : Tb} {c : Cn} {st : Sto} {H : Hp} {x : Ex}
theorem ius_vals {k d2 : Nat} {fs : List (Str × V)} {vs : List V} (hd : H d2 = some (.xd (((T.fld k).zip vs).reverse))) (nd : (T.fld k).Nodup) (rv : RpL T c x.us vs) : ∀ {its : List It} {ius : List Iu} {us : List U}, All2 (fun (i : It) (u : Iu) => match i, u with
        | .c s, .c s2 => s = s2
        | .f fl, .f j => (T.fld k)[j]? = some fl
        | _, _ => False) its ius → iusAt x.us ius = some us → ∃ ws, ItVs H (some d2) its ws ∧ RpL T c us ws
  | _, _, us, .nil, e => by
    cases e
    exact ⟨[], rfl, .nil⟩
  | _, _, us, .cons (a := i) (b := u) h t, e => by
    unfold iusAt at e
    split at e
    · rename_i w ws e1 e2
      cases e
      obtain ⟨vs2, h1, h2⟩ := ius_vals (fs := fs) hd nd rv t e2
      cases i with
      | c s =>
        cases u with
        | c s2 =>
          cases (show s = s2 from h)
          cases e1
          exact ⟨_, ⟨.str s, vs2, rfl, rfl, h1⟩, .cons (.str _) h2⟩
        | f j => exact False.elim h
      | f fl =>
        cases u with
        | c s2 => exact False.elim h
        | f j =>
          obtain ⟨v, hv, rw'⟩ := rv.get (show x.us[j]? = some w from e1)
          exact ⟨_, ⟨v, vs2, rfl, ⟨d2, _, rfl, hd, zrl nd (show (T.fld k)[j]? = some fl from h) hv⟩, h1⟩, .cons rw' h2⟩
    · cases e
end
section
variable {X : Cx} {T : Tb} {Wx : WX}
theorem caught_of {c c2 : Cn} {H : Hp} {st : Sto} {cls : Value} {dd : Option Addr} {x : Ex} {us : List U} {Q : VK} (l : Le c c2) (hH : RH T c2 st H) (rx : RX T c2 x cls dd) (k : ∀ c3 v G, Le c2 c3 → RH T c3 st G → Rp T c3 (.tup us) v → Q v G) :
    ∀ {hs : List (Addr × List It)} {ms : List (List Bool × List Iu)}, HsRel X.K T hs ms → caughtU ms x = some us → Caught X.K hs cls dd H Q
  | _, _, .nil, e => by cases e
  | _, _, .cons (ks := ks) j hC hk one ex nd it hz r, e => by
    obtain ⟨e1, d2, vs, e2, e3, e4, e5⟩ := id rx
    unfold caughtU at e
    cases q : ks[x.k]? with
    | none => rw [q] at e; cases e
    | some b =>
      rw [q] at e
      refine ⟨b, by rw [e1]; exact ex _ _ q, fun hb => ?_, fun hb => ?_⟩
      · subst hb
        have ek := one _ q
        rw [ek] at e1 e3
        rw [hC] at e1
        subst e2
        obtain ⟨ws, h1, h2⟩ := ius_vals (fs := []) (hH.sub _ _ e3) nd e5 it e
        have lw : ws.length ≤ 1000 := by
          rw [← h2.length]
          have g : ∀ {l : List Iu} {us : List U}, iusAt x.us l = some us → us.length = l.length := by
            intro l
            induction l with
            | nil => intro us e; cases e; rfl
            | cons i l ih =>
              intro us e
              unfold iusAt at e
              split at e
              · rename_i w ws e1 e2
                cases e
                rw [List.length_cons, List.length_cons, ih e2]
              · cases e
          rw [g e]
          exact hz
        refine ⟨e1, ws, h1, Nat.le_trans lw (by decide), fun p hp => ?_⟩
        exact k _ _ _ (le_still hH hp _) (hH.still hp _) (.tup (SqT.of upd_same) (h2.mono (le_still hH hp _)))
      · subst hb
        exact caught_of l hH rx k r e
theorem pem_lamT {x a : Str} {g c P : Addr} {k : Nat} {pg : Arguments} {bg : List Stmt} {sg : Scope} {fd : FuncData} {Ng : List Str} {lp : Arguments} {lb : Expr} {ls : Scope} {ml : ME} {hs : List (Addr × List It)} {ms : List (List Bool × List Iu)} {p lpos pos : Pos}
    (F : FunD X.K x x pg bg sg [] [] g fd) (hg : Gl X x) (hm : X.mg x = some (.ref g)) (hk : PySem.W.keepIn X.K (.ref g) = true) (hb : L2.Binds X.K fd [a] []) (Sg : FnScope Ng [a] sg) (hNg : Ng[0]? = some a) (hva : Vis sg a)
    (hG : ∀ cdv, GivesTo3 X Ng x sg g cdv bg a (TTold X.K hs)) (rel : HsRel X.K T hs ms)
    (TB : TabB X.base X.mg c P) (hcode : X.env.code = .ref c) (hq : (P, X.env.qual ++ "<lambda>") ∈ T.tabs) (hu : ∀ p ∈ T.tabs, p.1 = P → p.2 = X.env.qual ++ "<lambda>") (hr : Room (k + 2) X.A) (hdef : defaultsOf lp X.env = ([], []))
    (K : LamOk X T k ⟨lp, lb, ls⟩ ml)
    (hdb : (x == ("__debug__" : Str)) = false := by decide) (hd : (a == ("__debug__" : Str)) = false := by decide) (hcd : (a == ("__classdict__" : Str)) = false := by decide) :
    PEm X T none Wx (.Call (.Name x p) [.Lambda lp lb ls lpos] [] pos) (eLamT ms ml) := by
  obtain ⟨oc, od, dV, kV, doc, pm, an, cdv, ct, osl, rfl, lk, hcg, _, _⟩ := F.ex
  refine PE.imp (pe_lamcall3 (d := ⟨lp, lb, ls⟩) (t := fun E => teOf T none (fun cls dd _ G => E cls dd G) ml) hg hm hk lk hcg hb Sg hNg hva (hG cdv) TB hcode hr K.L hdef K.bind (fun A outer s H E f c' h => K.body A outer s H E f c' h) hdb hd hcd) fun σ H Q ⟨c0, env, st, hH, hE, hR⟩ => ?_
  refine ⟨tabl_of hH hq, fun f k H1 m hf => ?_⟩
  obtain ⟨c1, l1, hH1, hk1, hρ, _⟩ := rh_made hH hq hu m
  refine ⟨hH1.sub _ _ hk1, fun ob E R p0 hp0 hE' hR' => ?_⟩
  have l2' := le_still hH1 hf (FnO f ob)
  have hH2' := hH1.still hf (FnO f ob)
  have l2 := l2'.trans (le_still hH2' hp0 (.tup [.non, .non]))
  have hH2 := hH2'.still hp0 (.tup [.non, .non])
  refine ⟨_, env, st, hH2, hE.mono (l1.trans l2), ?_⟩
  unfold eLamT at hR
  cases q : ml env st with
  | ok u st1 =>
    rw [q] at hR
    intro c2 v G l hG rv
    refine hR' v G fun p hp => ?_
    exact hR _ _ _ (((l1.trans l2).trans l).trans (le_still hG hp _)) (hG.still hp _) (.tup (SqT.of upd_same) ((RpL.cons rv (.cons .non .nil)).mono (le_still hG hp _)))
  | exc x1 st1 =>
    rw [q] at hR
    dsimp only at hR
    cases qc : caughtU ms x1 with
    | none =>
      rw [qc] at hR
      exact hR.elim
    | some us =>
      rw [qc] at hR
      intro c2 cls dd G l hG rx
      refine hE' cls dd G (caught_of l hG rx (fun c3 v G1 l3 hG1 rv p hp => ?_) rel qc)
      exact hR _ _ _ ((((l1.trans l2).trans l).trans l3).trans (le_still hG1 hp _)) (hG1.still hp _) (.tup (SqT.of upd_same) ((RpL.cons .non (.cons rv .nil)).mono (le_still hG1 hp _)))
  | bad =>
    rw [q] at hR
    exact hR.elim
end
end NK

namespace NK
open PySem PySem.Spec PyProof.Rows L2
def eProp (k : Nat) (mf : MF) (m : ME) : ME := fun env st => (m env st).bind fun u st1 => match u with
  | .ins j us => if j = k then (match mf [.ins j us] st1 with
    | .ok v st2 => .ok v st2
    | _ => .bad) else .bad
  | _ => .bad
section
variable {X : Cx} {T : Tb} {P : Pin} {Wx : WX}
theorem pem_prop {kk k : Nat} {p g : Addr} {fd : FuncData} {ps : List Str} {mf : MF} {f : Str} {e : Expr} {m : ME} {pos : Pos} (F : FnOk X.prog X.w X.K X.mg X.base (L2.CX X.prog X.w) kk g fd ps (spOf T 1 mf)) (hr : Room (kk + 1) X.A) (c : Cls X.K (T.cls k)) (hp : PropOf X.K (T.cls k) f p g)
    (hb : Binds X.K fd ps []) (he : PEm X T P Wx e m) (hab : attributeBase e f X.env (eval e X.env) = eval e X.env := by rfl) : PEm X T P Wx (.Attribute e f pos) (eProp k mf m) :=
  PE.imp (pe_prop (E := fun _ _ _ => False) he c hp F hr hb .nil (fun pins σ H s e s' _ z => (cx_false z).elim) hab) fun σ H Q ⟨c0, env, st, hH, hE, hR⟩ => by
    refine (tg_bind hH hE hR).mono fun x H1 ⟨u, c1, st1, l1, hH1, hE1, r1, hR1⟩ => ?_
    cases u with
    | ins j us =>
      dsimp only at hR1
      split at hR1
      · rename_i hj
        obtain ⟨a, dx, vs, rfl, h1⟩ := isK_at (k := k) hH1 r1 (by unfold isK; simp [hj, asIns])
        refine ⟨a, dx, _, rfl, h1, rfl, c1, _, st1, hH1, .cons r1 .nil, ?_⟩
        cases q : mf [.ins j us] st1 with
        | ok v st2 =>
          rw [q] at hR1
          exact fun c2 v2 H2 l hG rv => hR1 c2 v2 H2 l hG rv
        | exc x st2 =>
          rw [q] at hR1
          exact hR1.elim
        | bad =>
          rw [q] at hR1
          exact hR1.elim
      · exact hR1.elim
    | _ => exact hR1.elim
end
theorem two_a {P1 P2 : Addr} {q1 q2 : Str} (h : P1 ≠ P2) : ∀ p ∈ [(P1, q1), (P2, q2)], p.1 = P1 → p.2 = q1 := fun p hp e => by
  rcases List.mem_cons.mp hp with rfl | hp
  · rfl
  · cases List.mem_singleton.mp hp
    exact absurd e.symm h
theorem two_b {P1 P2 : Addr} {q1 q2 : Str} (h : P1 ≠ P2) : ∀ p ∈ [(P1, q1), (P2, q2)], p.1 = P2 → p.2 = q2 := fun p hp e => by
  rcases List.mem_cons.mp hp with rfl | hp
  · exact absurd e h
  · cases List.mem_singleton.mp hp
    rfl
theorem one_of {ks : List Bool} {k : Nat} (h : ((List.range ks.length).all fun j => ks[j]? != some true || j == k) = true) : ∀ j, ks[j]? = some true → j = k := fun j e => by
  have l : j < ks.length := (List.getElem?_eq_some_iff.mp e).1
  have q := List.all_eq_true.mp h j (List.mem_range.mpr l)
  rw [e] at q
  simpa using q
end NK

set_option maxHeartbeats 4000000
namespace G
open PySem L2 NK
def top (i : Nat) : Stmt := PySem.Challenge.pw_namesakes_k27_whole_rows_of_names_led_to.main.body.getD i (.Pass ⟨0, 0, 0, 0⟩)
abbrev PW : Program := PySem.Challenge.pw_namesakes_k27_whole_rows_of_names_led_to
abbrev s_u_law_hand : Stmt := (top 26)
abbrev s_u_law_mix : Stmt := (top 25)
abbrev s_u_law_draw : Stmt := (top 27)
abbrev s_u_law_size : Stmt := (top 31)
abbrev s_u_law_entries : Stmt := (top 29)
abbrev s_u_law_row : Stmt := (top 34)
abbrev s_u_law_pick : Stmt := (top 28)
abbrev s_u_law_spoilt : Stmt := (top 36)
abbrev s_entries_fault : Stmt := (top 14)
abbrev s_BadPattern___init : Stmt := (inClass (top 3) 0)
abbrev s_Pattern___init : Stmt := (inClass (top 19) 0)
abbrev s_u_law_pool : Stmt := (top 32)
abbrev s_u_law_count : Stmt := (top 33)
abbrev s_is_whole : Stmt := (top 9)
abbrev s_is_name : Stmt := (top 10)
abbrev s_names_fault : Stmt := (top 15)
abbrev s_BadNames___init : Stmt := (inClass (top 4) 0)
abbrev s_check_names : Stmt := (top 16)
abbrev s_class_numbers : Stmt := (top 13)
abbrev s_first_difference : Stmt := (top 21)
abbrev s_u_law_numbers : Stmt := (top 30)
abbrev s_u_law_differs : Stmt := (top 35)
abbrev s_u_law_odd : Stmt := (top 40)
abbrev s_u_law_told : Stmt := (top 37)
abbrev s_NoRenaming___init : Stmt := (inClass (top 6) 0)
abbrev s_renaming_of : Stmt := (top 23)
abbrev s_check_unlike_names : Stmt := (top 17)
abbrev s_Pattern_class_count : Stmt := (inClass (top 19) 2)
abbrev s_names_for : Stmt := (top 22)
abbrev s_u_law_odd_right : Stmt := (top 41)
abbrev s_u_law_due_pairs : Stmt := (top 38)
abbrev s_u_law_renaming_right : Stmt := (top 39)
abbrev s_law : Stmt := (top 42)
end G

namespace G
open PySem L2 NK
-- class CustomError 0
-- class BadPattern 1
-- fields BadPattern index what
-- class BadNames 2
-- fields BadNames index what
-- class BadMatch 3
-- fields BadMatch what
-- class NoRenaming 4
-- fields NoRenaming place
-- class Pattern 5
-- fields Pattern entries
def fldN : Nat → List Str
  | 1 => ["index", "what"]
  | 2 => ["index", "what"]
  | 3 => ["what"]
  | 4 => ["place"]
  | 5 => ["entries"]
  | _ => []
def isl : IsL := []
noncomputable def l_u_law_hand_1 : MS := (sAsg (eOp fMod (eCB fInt (aCons (eOp fAdd (eOp fMul (eVar 1) (eC (.int 31))) (eOp fMul (eCB fInt (aCons (eVar 3) aNil)) (eOp fAdd (eVar 2) (eC (.int 7))))) aNil)) (eC (.int 2147483629))) (gN 1))
noncomputable def b_u_law_hand : MS := (sSeq (sAsg (eC (.int 0)) (gN 1))
    (sSeq (sFor (iEnumA (aCons (eVar 0) aNil)) (gT [2, 3]) l_u_law_hand_1)
    (sRet (eLst (aCons (eScope (eComp (iSeq (eVar 0)) (gN 3) NK.tYes (eCB fAbs (aCons (eCB fInt (aCons (eVar 3) aNil)) aNil)) [3])) (aCons (eC (.int 0)) (aCons (eC (.int 0)) (aCons (eVar 1) aNil))))))))
noncomputable def m_u_law_hand : MF := ( (runF 4 b_u_law_hand))
noncomputable def b_u_law_mix : MS := (sSeq (sAsg (eOp fMod (eCB fInt (aCons (eOp fAdd (eOp fAdd (eOp fMul (eVar 0) (eC (.int 48271))) (eOp fMul (eVar 1) (eC (.int 16807)))) (eC (.int 11))) aNil)) (eC (.int 2147483647))) (gN 2))
    (sSeq (sAsg (eOp fMod (eCB fInt (aCons (eOp fAdd (eOp fAdd (eOp fMul (eVar 2) (eVar 2)) (eOp fMul (eOp fDiv (eVar 2) (eC (.int 127))) (eC (.int 40692)))) (eOp fMul (eVar 1) (eC (.int 69621)))) aNil)) (eC (.int 2147483399))) (gN 3))
    (sRet (eOp fDiv (eOp fMod (eCB fInt (aCons (eOp fAdd (eOp fDiv (eOp fMul (eVar 3) (eVar 3)) (eC (.int 1009))) (eVar 2)) aNil)) (eC (.int 2147483563))) (eC (.int 16))))))
noncomputable def m_u_law_mix : MF := fScope (runF 4 b_u_law_mix)
noncomputable def b_u_law_draw : MS := (sSeq (sIf (tAnd (NK.tB (eOp fEq (eOp fIx (eVar 0) (eC (.int 2))) (eC (.int 0)))) (NK.tB (eOp fLt (eOp fIx (eVar 0) (eC (.int 1))) (eCB fLen (aCons (eOp fIx (eVar 0) (eC (.int 0))) aNil))))) (sSeq (sAsg (eOp fIx (eOp fIx (eVar 0) (eC (.int 0))) (eOp fIx (eVar 0) (eC (.int 1)))) (gN 2))
    (sSeq (sSetIx (eVar 0) (eC (.int 1)) (eOp fAdd (eOp fIx (eVar 0) (eC (.int 1))) (eC (.int 1))))
    (sSeq (sIf (NK.tB (eOp fLt (eVar 2) (eOp fPow (eC (.int 10)) (eC (.int 18))))) (sRet (eOp fMod (eCB fInt (aCons (eCall 2 m_u_law_mix [] (aCons (eOp fMod (eCB fInt (aCons (eVar 2) aNil)) (eC (.int 2147483647))) (aCons (eOp fIx (eVar 0) (eC (.int 1))) aNil))) aNil)) (eVar 1))) sNext)
    (sSetIx (eVar 0) (eC (.int 2)) (eVar 2))))) sNext)
    (sSeq (sIf (NK.tB (eOp fGt (eOp fIx (eVar 0) (eC (.int 2))) (eC (.int 0)))) (sSeq (sAsg (eOp fIx (eVar 0) (eC (.int 2))) (gN 3))
    (sSeq (sSetIx (eVar 0) (eC (.int 2)) (eOp fDiv (eVar 3) (eVar 1)))
    (sRet (eOp fMod (eCB fInt (aCons (eVar 3) aNil)) (eVar 1))))) sNext)
    (sSeq (sSetIx (eVar 0) (eC (.int 3)) (eOp fMod (eCB fInt (aCons (eOp fAdd (eOp fIx (eVar 0) (eC (.int 3))) (eC (.int 1))) aNil)) (eC (.int 2147483629))))
    (sRet (eOp fMod (eCB fInt (aCons (eCall 2 m_u_law_mix [] (aCons (eOp fIx (eVar 0) (eC (.int 3))) (aCons (eOp fIx (eVar 0) (eC (.int 1))) aNil))) aNil)) (eVar 1))))))
noncomputable def m_u_law_draw : MF := fScope (runF 4 b_u_law_draw)
noncomputable def b_u_law_size : MS := (sSeq (sAsg (eCall 2 m_u_law_draw [] (aCons (eVar 0) (aCons (eC (.int 10)) aNil))) (gN 1))
    (sRet (eIf (NK.tB (eOp fEq (eVar 1) (eC (.int 9)))) (eC (.int 40)) (eIf (NK.tB (eOp fEq (eVar 1) (eC (.int 8)))) (eCall 2 m_u_law_draw [] (aCons (eVar 0) (aCons (eC (.int 41)) aNil))) (eCall 2 m_u_law_draw [] (aCons (eVar 0) (aCons (eC (.int 9)) aNil)))))))
noncomputable def m_u_law_size : MF := fScope (runF 2 b_u_law_size)
noncomputable def l_u_law_entries_1 : MS := (sIf (tAnd (tTru (eVar 2)) (NK.tB (eOp fEq (eCall 2 m_u_law_draw [] (aCons (eVar 0) (aCons (eC (.int 4)) aNil))) (eC (.int 0))))) (sDrop (eBM fApp (eVar 3) (aCons (eC .non) aNil))) (sSeq (sAsg (eCall 2 m_u_law_draw [] (aCons (eVar 0) (aCons (eOp fAdd (eVar 4) (eC (.int 1))) aNil))) (gN 6))
    (sSeq (sAsg (eIf (NK.tB (eOp fEq (eVar 6) (eVar 4))) (eOp fAdd (eVar 4) (eC (.int 1))) (eVar 4)) (gN 4))
    (sDrop (eBM fApp (eVar 3) (aCons (eVar 6) aNil))))))
noncomputable def b_u_law_entries : MS := (sSeq (sPar 3 4 (aCons (eLst aNil) (aCons (eC (.int 0)) aNil)))
    (sSeq (sFor (iRng1 (aCons (eVar 1) aNil)) (gN 5) l_u_law_entries_1)
    (sRet (eVar 3))))
noncomputable def m_u_law_entries : MF := fScope (runF 7 b_u_law_entries)
noncomputable def b_u_law_row : MS := (sRet (eScope (eComp (iSeq (eVar 0)) (gN 2) NK.tYes (eIf (NK.tB (eOp fIsN (eVar 2) (eC .non))) (eC .non) (eOp fIx (eVar 1) (eVar 2))) [2])))
noncomputable def m_u_law_row : MF := fScope (runF 3 b_u_law_row)
noncomputable def b_u_law_pick : MS := (sRet (eOp fIx (eVar 1) (eCall 2 m_u_law_draw [] (aCons (eVar 0) (aCons (eCB fLen (aCons (eVar 1) aNil)) aNil)))))
noncomputable def m_u_law_pick : MF := ( (runF 2 b_u_law_pick))
noncomputable def l_u_law_spoilt_1 : MS := (sIf (NK.tB (eOp fNe (eVar 3) (eScope (eLst aNil)))) (sSetIx (eVar 3) (eCall 2 m_u_law_draw [] (aCons (eVar 0) (aCons (eCB fLen (aCons (eVar 3) aNil)) aNil))) (eCall 2 m_u_law_pick [] (aCons (eVar 0) (aCons (eScope (eOp fAdd (eVar 2) (eScope (eLst (aCons (eC .non) aNil))))) aNil)))) sNext)
noncomputable def b_u_law_spoilt : MS := (sSeq (sAsg (eCB fList (aCons (eVar 1) aNil)) (gN 3))
    (sSeq (sFor (iRng1 (aCons (eOp fAdd (eC (.int 1)) (eCall 2 m_u_law_draw [] (aCons (eVar 0) (aCons (eC (.int 3)) aNil)))) aNil)) (gN 4) l_u_law_spoilt_1)
    (sRet (eVar 3))))
noncomputable def m_u_law_spoilt : MF := fScope (runF 5 b_u_law_spoilt)
noncomputable def l_entries_fault_1 : MS := (sSeq (sIf (NK.tB (eOp fIsN (eVar 3) (eC .non))) sCont sNext)
    (sSeq (sIf (tOr (tNot (tTru (eIsi isl [(.b .int)] (eVar 3)))) (tOr (tTru (eIsi isl [(.b .bool)] (eVar 3))) (NK.tB (eOp fLt (eVar 3) (eC (.int 0)))))) (sRet (eTup (aCons (eVar 2) (aCons (eC (.str "entry")) aNil)))) sNext)
    (sSeq (sIf (NK.tB (eOp fGt (eVar 3) (eVar 1))) (sRet (eTup (aCons (eVar 2) (aCons (eC (.str "order")) aNil)))) sNext)
    (sIf (NK.tB (eOp fEq (eVar 3) (eVar 1))) (sAsg (eOp fAdd (eVar 1) (eC (.int 1))) (gN 1)) sNext))))
noncomputable def b_entries_fault : MS := (sSeq (sIf (tOr (tNot (tTru (eIsi isl [(.b .list), (.b .tuple)] (eVar 0)))) (NK.tB (eOp fGt (eCB fLen (aCons (eVar 0) aNil)) (eC (.int 40))))) (sRet (eTup (aCons (eC (.int 0)) (aCons (eC (.str "entries")) aNil)))) sNext)
    (sSeq (sAsg (eC (.int 0)) (gN 1))
    (sSeq (sFor (iEnumA (aCons (eVar 0) aNil)) (gT [2, 3]) l_entries_fault_1)
    (sRet (eC .non)))))
noncomputable def m_entries_fault : MF := fScope (runF 4 b_entries_fault)
noncomputable def b_Pattern___init : MS := (sSeq (sAsg (eCall 1 m_entries_fault [] (aCons (eVar 1) aNil)) (gN 2))
    (sSeq (sIf (NK.tB (eOp fNotN (eVar 2) (eC .non))) (sRaise 1 2 (aCons (eOp fIx (eVar 2) (eC (.int 0))) (aCons (eOp fIx (eVar 2) (eC (.int 1))) aNil))) sNext)
    (NK.sFld 5 0 (eVar 0) (eCB fTuple (aCons (eVar 1) aNil)))))
noncomputable def m_Pattern___init : MF := ( (runF 3 b_Pattern___init))
noncomputable def l_u_law_pool_1 : MS := (sDrop (eBM fApp (eVar 5) (aCons (eBM fPopAt (eVar 4) (aCons (eCall 2 m_u_law_draw [] (aCons (eVar 0) (aCons (eCB fLen (aCons (eVar 4) aNil)) aNil))) aNil)) aNil)))
noncomputable def b_u_law_pool : MS := (sSeq (sAsg (eTup (aCons (eCall 2 m_u_law_draw [] (aCons (eVar 0) (aCons (eC (.int 3)) aNil))) (aCons (eC (.int 1)) aNil))) (gT [2, 3]))
    (sSeq (sIf (NK.tB (eOp fEq (eCall 2 m_u_law_draw [] (aCons (eVar 0) (aCons (eC (.int 2)) aNil))) (eC (.int 0)))) (sAsg (eTup (aCons (eCall 2 m_u_law_draw [] (aCons (eVar 0) (aCons (eOp fPow (eC (.int 10)) (eC (.int 29))) aNil))) (aCons (eOp fAdd (eC (.int 1)) (eCall 2 m_u_law_draw [] (aCons (eVar 0) (aCons (eOp fPow (eC (.int 10)) (eC (.int 28))) aNil)))) aNil))) (gT [2, 3])) sNext)
    (sSeq (sAsg (eComp (iRng1 (aCons (eVar 1) aNil)) (gN 6) NK.tYes (eOp fAdd (eVar 2) (eOp fMul (eVar 3) (eVar 6))) [6]) (gN 4))
    (sSeq (sAsg (eLst aNil) (gN 5))
    (sSeq (sFor (iRng1 (aCons (eVar 1) aNil)) (gN 6) l_u_law_pool_1)
    (sRet (eVar 5)))))))
noncomputable def m_u_law_pool : MF := fScope (runF 7 b_u_law_pool)
noncomputable def b_u_law_count : MS := (sRet (eOp fAdd (eC (.int 1)) (eCB fMaxL (aCons (eScope (eOp fAdd (eScope (eLst (aCons (eUn fNeg (eC (.int 1))) aNil))) (eScope (eComp (iSeq (eVar 0)) (gN 1) (NK.tB (eOp fNotN (eVar 1) (eC .non))) (eVar 1) [1])))) aNil))))
noncomputable def m_u_law_count : MF := fScope (runF 2 b_u_law_count)
noncomputable def b_is_whole : MS := (sRet (eAnd (eIsi isl [(.b .int)] (eVar 0)) (eAnd (eNot (eIsi isl [(.b .bool)] (eVar 0))) (eChain fLe fLe (eVar 1) (eVar 0) (eVar 2)))))
noncomputable def m_is_whole : MF := fScope (runF 3 b_is_whole)
noncomputable def b_is_name : MS := (sRet (eCall 3 m_is_whole [] (aCons (eVar 0) (aCons (eC (.int 0)) (aCons (eC (.int 1000000000000000000000000000000)) aNil)))))
noncomputable def m_is_name : MF := fScope (runF 1 b_is_name)
noncomputable def l_names_fault_1 : MS := (sIf (tAnd (NK.tB (eOp fNotN (eVar 2) (eC .non))) (tNot (tTru (eCall 1 m_is_name [] (aCons (eVar 2) aNil))))) (sRet (eTup (aCons (eVar 1) (aCons (eC (.str "name")) aNil)))) sNext)
noncomputable def b_names_fault : MS := (sSeq (sIf (tOr (tNot (tTru (eIsi isl [(.b .list), (.b .tuple)] (eVar 0)))) (NK.tB (eOp fGt (eCB fLen (aCons (eVar 0) aNil)) (eC (.int 40))))) (sRet (eTup (aCons (eC (.int 0)) (aCons (eC (.str "names")) aNil)))) sNext)
    (sSeq (sFor (iEnumA (aCons (eVar 0) aNil)) (gT [1, 2]) l_names_fault_1)
    (sRet (eC .non))))
noncomputable def m_names_fault : MF := fScope (runF 3 b_names_fault)
noncomputable def b_check_names : MS := (sSeq (sAsg (eCall 1 m_names_fault [] (aCons (eVar 0) aNil)) (gN 1))
    (sIf (NK.tB (eOp fNotN (eVar 1) (eC .non))) (sRaise 2 2 (aCons (eOp fIx (eVar 1) (eC (.int 0))) (aCons (eOp fIx (eVar 1) (eC (.int 1))) aNil))) sNext))
noncomputable def m_check_names : MF := fScope (runF 2 b_check_names)
noncomputable def l_class_numbers_1 : MS := (sSeq (sIf (tAnd (NK.tB (eOp fNotN (eVar 3) (eC .non))) (NK.tB (eOp (fDIn true) (eVar 3) (eVar 1)))) (NK.sDPut (eVar 1) (eVar 3) (eCB fLenO (aCons (eVar 1) aNil))) sNext)
    (sDrop (eBM fApp (eVar 2) (aCons (eIf (NK.tB (eOp fIsN (eVar 3) (eC .non))) (eC .non) (eOp fDGet (eVar 1) (eVar 3))) aNil))))
noncomputable def b_class_numbers : MS := (sSeq (sAsg eDict (gN 1))
    (sSeq (sAsg (eLst aNil) (gN 2))
    (sSeq (sFor (iSeq (eVar 0)) (gN 3) l_class_numbers_1)
    (sRet (eCB fTuple (aCons (eVar 2) aNil))))))
noncomputable def m_class_numbers : MF := fScope (runF 4 b_class_numbers)
noncomputable def l_first_difference_1 : MS := (sIf (NK.tB (eOp fNe (eVar 3) (eOp fIx (eFld 5 0 (eVar 0)) (eVar 2)))) (sRet (eVar 2)) sNext)
noncomputable def b_first_difference : MS := (sSeq (sDrop (eCall 1 m_check_names [] (aCons (eVar 1) aNil)))
    (sSeq (sIf (NK.tB (eOp fNe (eCB fLen (aCons (eVar 1) aNil)) (eCB fLen (aCons (eFld 5 0 (eVar 0)) aNil)))) (sRaise 2 2 (aCons (eCB fLen (aCons (eVar 1) aNil)) (aCons (eC (.str "length")) aNil))) sNext)
    (sSeq (sFor (iEnumA (aCons (eCall 1 m_class_numbers [] (aCons (eVar 1) aNil)) aNil)) (gT [2, 3]) l_first_difference_1)
    (sRet (eC .non)))))
noncomputable def m_first_difference : MF := fScope (runF 4 b_first_difference)
noncomputable def l_u_law_numbers_1 : MS := (sSeq (sIf (tAnd (NK.tB (eOp fNotN (eVar 3) (eC .non))) (NK.tB (eOp (fInD true) (eVar 3) (eVar 1)))) (sDrop (eBM fApp (eVar 1) (aCons (eVar 3) aNil))) sNext)
    (sDrop (eBM fApp (eVar 2) (aCons (eIf (NK.tB (eOp fIsN (eVar 3) (eC .non))) (eC .non) (eBM fIndex (eVar 1) (aCons (eVar 3) aNil))) aNil))))
noncomputable def b_u_law_numbers : MS := (sSeq (sPar 1 2 (aCons (eLst aNil) (aCons (eLst aNil) aNil)))
    (sSeq (sFor (iSeq (eVar 0)) (gN 3) l_u_law_numbers_1)
    (sRet (eVar 2))))
noncomputable def m_u_law_numbers : MF := fScope (runF 4 b_u_law_numbers)
noncomputable def l_u_law_differs_1 : MS := (sIf (NK.tB (eOp fNe (eOp fIx (eVar 2) (eVar 4)) (eOp fIx (eVar 3) (eVar 4)))) (sRet (eVar 4)) sNext)
noncomputable def b_u_law_differs : MS := (sSeq (sPar 2 3 (aCons (eCall 1 m_u_law_numbers [] (aCons (eVar 0) aNil)) (aCons (eCall 1 m_u_law_numbers [] (aCons (eVar 1) aNil)) aNil)))
    (sSeq (sFor (iRng1 (aCons (eCB fLen (aCons (eVar 2) aNil)) aNil)) (gN 4) l_u_law_differs_1)
    (sRet (eC .non))))
noncomputable def m_u_law_differs : MF := fScope (runF 5 b_u_law_differs)
noncomputable def b_u_law_odd : MS := (sSeq (sPar 3 4 (aCons (eCB fList (aCons (eVar 1) aNil)) (aCons (eCall 2 m_u_law_draw [] (aCons (eVar 0) (aCons (eOp fAdd (eCB fLen (aCons (eVar 1) aNil)) (eC (.int 1))) aNil))) aNil)))
    (sSeq (sDrop (eBM fIns (eVar 3) (aCons (eVar 4) (aCons (eCall 2 m_u_law_pick [] (aCons (eVar 0) (aCons (eVar 2) aNil))) aNil))))
    (sRet (eTup (aCons (eFrz (eVar 3)) (aCons (eVar 4) aNil))))))
noncomputable def m_u_law_odd : MF := fScope (runF 5 b_u_law_odd)
def hs_u_law_told : List (List Bool × List Iu) := [([false, false, true, false, false], [.c "names", .f 0, .f 1]), ([false, false, false, false, true], [.c "place", .f 0])]
noncomputable def l_renaming_of_1 : MS := (sSeq (sIf (tOr (NK.tB (eOp fGe (eVar 4) (eCB fLen (aCons (eVar 0) aNil)))) (NK.tB (eOp fNe (eOp fIx (eVar 3) (eVar 4)) (eVar 5)))) (sRaise 4 1 (aCons (eVar 4) aNil)) sNext)
    (sIf (NK.tB (eOp fEq (eVar 5) (eCB fLen (aCons (eVar 2) aNil)))) (sDrop (eBM fApp (eVar 2) (aCons (eTup (aCons (eOp fIx (eVar 0) (eVar 4)) (aCons (eOp fIx (eVar 1) (eVar 4)) aNil))) aNil))) sNext))
noncomputable def b_renaming_of : MS := (sSeq (sDrop (eCall 1 m_check_names [] (aCons (eVar 0) aNil)))
    (sSeq (sDrop (eCall 1 m_check_names [] (aCons (eVar 1) aNil)))
    (sSeq (sAsg (eLst aNil) (gN 2))
    (sSeq (sAsg (eCall 1 m_class_numbers [] (aCons (eVar 0) aNil)) (gN 3))
    (sSeq (sFor (iEnumA (aCons (eCall 1 m_class_numbers [] (aCons (eVar 1) aNil)) aNil)) (gT [4, 5]) l_renaming_of_1)
    (sSeq (sIf (NK.tB (eOp fGt (eCB fLen (aCons (eVar 0) aNil)) (eCB fLen (aCons (eVar 1) aNil)))) (sRaise 4 1 (aCons (eCB fLen (aCons (eVar 1) aNil)) aNil)) sNext)
    (sRet (eCB fTuple (aCons (eVar 2) aNil)))))))))
noncomputable def m_renaming_of : MF := fScope (runF 6 b_renaming_of)
noncomputable def l_check_unlike_names_1 : MS := (sSeq (sIf (tNot (tTru (eCall 1 m_is_name [] (aCons (eVar 2) aNil)))) (sRaise 2 2 (aCons (eVar 1) (aCons (eC (.str "name")) aNil))) sNext)
    (sIf (NK.tB (eOp (fIn false) (eVar 2) (eScope (eSl (eVar 0) none (some (eVar 1)))))) (sRaise 2 2 (aCons (eVar 1) (aCons (eC (.str "double")) aNil))) sNext))
noncomputable def b_check_unlike_names : MS := (sSeq (sIf (tOr (tNot (tTru (eIsi isl [(.b .list), (.b .tuple)] (eVar 0)))) (NK.tB (eOp fGt (eCB fLen (aCons (eVar 0) aNil)) (eC (.int 40))))) (sRaise 2 2 (aCons (eC (.int 0)) (aCons (eC (.str "names")) aNil))) sNext)
    (sFor (iEnumA (aCons (eVar 0) aNil)) (gT [1, 2]) l_check_unlike_names_1))
noncomputable def m_check_unlike_names : MF := fScope (runF 3 b_check_unlike_names)
noncomputable def b_Pattern_class_count : MS := (sRet (eScope (eCB fLenO (aCons (eSc (iSeq (eFld 5 0 (eVar 0))) (gN 1) (NK.tB (eOp fNotN (eVar 1) (eC .non))) (eVar 1) [1]) aNil))))
noncomputable def m_Pattern_class_count : MF := fScope (runF 2 b_Pattern_class_count)
noncomputable def b_names_for : MS := (sSeq (sDrop (eCall 1 m_check_unlike_names [] (aCons (eVar 1) aNil)))
    (sSeq (sIf (NK.tB (eOp fLt (eCB fLen (aCons (eVar 1) aNil)) (eProp 5 m_Pattern_class_count (eVar 0)))) (sRaise 2 2 (aCons (eCB fLen (aCons (eVar 1) aNil)) (aCons (eC (.str "few")) aNil))) sNext)
    (sRet (eCB fTuple (aCons (eScope (eComp (iSeq (eFld 5 0 (eVar 0))) (gN 2) NK.tYes (eIf (NK.tB (eOp fIsN (eVar 2) (eC .non))) (eC .non) (eOp fIx (eVar 1) (eVar 2))) [2])) aNil)))))
noncomputable def m_names_for : MF := fScope (runF 3 b_names_for)
noncomputable def b_u_law_odd_right : MS := (sSeq (sAsg (eScope (eLst (aCons (eUn fNeg (eC (.int 1))) (aCons (eC (.bl true)) (aCons (eC (.str "1")) (aCons (eOp fAdd (eOp fPow (eC (.int 10)) (eC (.int 30))) (eC (.int 1))) (aCons (eTup (aCons (eC (.int 2)) aNil)) aNil))))))) (gN 4))
    (sSeq (sAsg (eScope (eSl (eCall 2 m_u_law_row [] (aCons (eVar 2) (aCons (eVar 3) aNil))) none (some (eC (.int 38))))) (gN 5))
    (sSeq (sAsg (eCall 3 m_u_law_odd [] (aCons (eVar 0) (aCons (eVar 5) (aCons (eVar 4) aNil)))) (gT [6, 7]))
    (sSeq (sIf (NK.tB (eOp fNe (eLamT hs_u_law_told (eCall 2 m_first_difference [] (aCons (eVar 1) (aCons (eVar 6) aNil)))) (eTup (aCons (eC .non) (aCons (eTup (aCons (eC (.str "names")) (aCons (eVar 7) (aCons (eC (.str "name")) aNil)))) aNil))))) (sRet (eC (.bl false))) sNext)
    (sSeq (sIf (NK.tB (eOp fNe (eLamT hs_u_law_told (eCall 2 m_renaming_of [] (aCons (eVar 6) (aCons (eScope (eOp fMul (eScope (eLst (aCons (eC .non) aNil))) (eC (.int 41)))) aNil)))) (eTup (aCons (eC .non) (aCons (eTup (aCons (eC (.str "names")) (aCons (eVar 7) (aCons (eC (.str "name")) aNil)))) aNil))))) (sRet (eC (.bl false))) sNext)
    (sSeq (sIf (NK.tB (eOp fNe (eLamT hs_u_law_told (eCall 2 m_renaming_of [] (aCons (eCB fTuple (aCons (eVar 5) aNil)) (aCons (eVar 6) aNil)))) (eTup (aCons (eC .non) (aCons (eTup (aCons (eC (.str "names")) (aCons (eVar 7) (aCons (eC (.str "name")) aNil)))) aNil))))) (sRet (eC (.bl false))) sNext)
    (sSeq (sIf (NK.tB (eOp fNe (eLamT hs_u_law_told (eCall 2 m_renaming_of [] (aCons (eVar 5) (aCons (eC (.str "12")) aNil)))) (eTup (aCons (eC .non) (aCons (eTup (aCons (eC (.str "names")) (aCons (eC (.int 0)) (aCons (eC (.str "names")) aNil)))) aNil))))) (sRet (eC (.bl false))) sNext)
    (sSeq (sIf (NK.tB (eOp fNe (eLamT hs_u_law_told (eCall 2 m_first_difference [] (aCons (eVar 1) (aCons (eScope (eOp fMul (eScope (eLst (aCons (eC .non) aNil))) (eC (.int 41)))) aNil)))) (eTup (aCons (eC .non) (aCons (eTup (aCons (eC (.str "names")) (aCons (eC (.int 0)) (aCons (eC (.str "names")) aNil)))) aNil))))) (sRet (eC (.bl false))) sNext)
    (sSeq (sAsg (eLamT hs_u_law_told (eCall 2 m_first_difference [] (aCons (eVar 1) (aCons (eScope (eOp fAdd (eScope (eCB fList (aCons (eScope (eSl (eVar 3) none (some (eC (.int 3))))) aNil))) (eScope (eOp fMul (eScope (eLst (aCons (eC .non) aNil))) (eOp fSub (eCB fLen (aCons (eVar 2) aNil)) (eC (.int 2))))))) aNil)))) (gN 8))
    (sSeq (sIf (tAnd (NK.tB (eOp fGe (eCB fLen (aCons (eVar 2) aNil)) (eC (.int 3)))) (tAnd (NK.tB (eOp fLt (eCB fLen (aCons (eVar 2) aNil)) (eC (.int 40)))) (NK.tB (eOp fNe (eVar 8) (eTup (aCons (eC .non) (aCons (eTup (aCons (eC (.str "names")) (aCons (eOp fAdd (eCB fLen (aCons (eVar 2) aNil)) (eC (.int 1))) (aCons (eC (.str "length")) aNil)))) aNil))))))) (sRet (eC (.bl false))) sNext)
    (sSeq (sAsg (eScope (eSl (eCall 2 m_u_law_row [] (aCons (eVar 2) (aCons (eVar 3) aNil))) (some (eC (.int 1))) none)) (gN 9))
    (sSeq (sIf (tAnd (NK.tB (eOp fGt (eCB fLen (aCons (eVar 2) aNil)) (eC (.int 0)))) (NK.tB (eOp fNe (eLamT hs_u_law_told (eCall 2 m_first_difference [] (aCons (eVar 1) (aCons (eVar 9) aNil)))) (eTup (aCons (eC .non) (aCons (eTup (aCons (eC (.str "names")) (aCons (eCB fLen (aCons (eVar 9) aNil)) (aCons (eC (.str "length")) aNil)))) aNil)))))) (sRet (eC (.bl false))) sNext)
    (sSeq (sAsg (eScope (eSl (eVar 3) none (some (eC (.int 38))))) (gN 10))
    (sSeq (sAsg (eCall 3 m_u_law_odd [] (aCons (eVar 0) (aCons (eVar 10) (aCons (eScope (eOp fAdd (eVar 4) (eScope (eLst (aCons (eC .non) aNil))))) aNil)))) (gT [11, 7]))
    (sSeq (sIf (NK.tB (eOp fNe (eLamT hs_u_law_told (eCall 2 m_names_for [] (aCons (eVar 1) (aCons (eVar 11) aNil)))) (eTup (aCons (eC .non) (aCons (eTup (aCons (eC (.str "names")) (aCons (eVar 7) (aCons (eC (.str "name")) aNil)))) aNil))))) (sRet (eC (.bl false))) sNext)
    (sSeq (sAsg (eScope (eOp fAdd (eVar 10) (eScope (eLst (aCons (eCall 2 m_u_law_pick [] (aCons (eVar 0) (aCons (eVar 10) aNil))) aNil))))) (gN 12))
    (sSeq (sIf (NK.tB (eOp fNe (eLamT hs_u_law_told (eCall 2 m_names_for [] (aCons (eVar 1) (aCons (eVar 12) aNil)))) (eTup (aCons (eC .non) (aCons (eTup (aCons (eC (.str "names")) (aCons (eCB fLen (aCons (eVar 10) aNil)) (aCons (eC (.str "double")) aNil)))) aNil))))) (sRet (eC (.bl false))) sNext)
    (sSeq (sAsg (eScope (eSl (eVar 3) none (some (eCB fMax2 (aCons (eC (.int 0)) (aCons (eOp fSub (eCall 1 m_u_law_count [] (aCons (eVar 2) aNil)) (eC (.int 1))) aNil)))))) (gN 13))
    (sSeq (sAsg (eIf (NK.tB (eOp fGt (eCall 1 m_u_law_count [] (aCons (eVar 2) aNil)) (eC (.int 0)))) (eTup (aCons (eC .non) (aCons (eTup (aCons (eC (.str "names")) (aCons (eCB fLen (aCons (eVar 13) aNil)) (aCons (eC (.str "few")) aNil)))) aNil))) (eTup (aCons (eCB fTuple (aCons (eVar 2) aNil)) (aCons (eC .non) aNil)))) (gN 14))
    (sRet (eOp fEq (eLamT hs_u_law_told (eCall 2 m_names_for [] (aCons (eVar 1) (aCons (eVar 13) aNil)))) (eVar 14))))))))))))))))))))))
noncomputable def m_u_law_odd_right : MF := fScope (runF 15 b_u_law_odd_right)
noncomputable def l_u_law_due_pairs_1 : MS := (sSeq (sIf (NK.tB (eOp fNe (eOp fIx (eVar 2) (eVar 5)) (eOp fIx (eVar 3) (eVar 5)))) (sRet (eTup (aCons (eC .non) (aCons (eTup (aCons (eC (.str "place")) (aCons (eVar 5) aNil))) aNil)))) sNext)
    (sIf (NK.tB (eOp fEq (eOp fIx (eVar 2) (eVar 5)) (eCB fLen (aCons (eVar 4) aNil)))) (sDrop (eBM fApp (eVar 4) (aCons (eTup (aCons (eOp fIx (eVar 0) (eVar 5)) (aCons (eOp fIx (eVar 1) (eVar 5)) aNil))) aNil))) sNext))
noncomputable def b_u_law_due_pairs : MS := (sSeq (sPar 2 3 (aCons (eCall 1 m_u_law_numbers [] (aCons (eVar 0) aNil)) (aCons (eCall 1 m_u_law_numbers [] (aCons (eVar 1) aNil)) aNil)))
    (sSeq (sAsg (eLst aNil) (gN 4))
    (sSeq (sFor (iRng1 (aCons (eCB fMin2 (aCons (eCB fLen (aCons (eVar 0) aNil)) (aCons (eCB fLen (aCons (eVar 1) aNil)) aNil))) aNil)) (gN 5) l_u_law_due_pairs_1)
    (sSeq (sIf (NK.tB (eOp fNe (eCB fLen (aCons (eVar 0) aNil)) (eCB fLen (aCons (eVar 1) aNil)))) (sRet (eTup (aCons (eC .non) (aCons (eTup (aCons (eC (.str "place")) (aCons (eCB fMin2 (aCons (eCB fLen (aCons (eVar 0) aNil)) (aCons (eCB fLen (aCons (eVar 1) aNil)) aNil))) aNil))) aNil)))) sNext)
    (sRet (eTup (aCons (eCB fTuple (aCons (eVar 4) aNil)) (aCons (eC .non) aNil))))))))
noncomputable def m_u_law_due_pairs : MF := fScope (runF 6 b_u_law_due_pairs)
noncomputable def l_u_law_renaming_right_1 : MS := (NK.sDPut (eVar 5) (eOp fIx (eVar 6) (eC (.int 0))) (eOp fIx (eVar 6) (eC (.int 1))))
noncomputable def b_u_law_renaming_right : MS := (sSeq (sAsg (eCB fRepr (aCons (eTup (aCons (eVar 0) (aCons (eVar 1) aNil))) aNil)) (gN 2))
    (sSeq (sAsg (eCall 2 m_u_law_due_pairs [] (aCons (eVar 0) (aCons (eVar 1) aNil))) (gN 3))
    (sSeq (sAsg (eLamT hs_u_law_told (eCall 2 m_renaming_of [] (aCons (eVar 0) (aCons (eVar 1) aNil)))) (gN 4))
    (sSeq (sIf (tOr (NK.tB (eOp fNe (eVar 4) (eVar 3))) (NK.tB (eOp fNe (eCB fRepr (aCons (eTup (aCons (eVar 0) (aCons (eVar 1) aNil))) aNil)) (eVar 2)))) (sRet (eC (.bl false))) sNext)
    (sSeq (sIf (NK.tB (eOp fIsN (eOp fIx (eVar 4) (eC (.int 0))) (eC .non))) (sRet (eOp fNe (eCall 1 m_u_law_numbers [] (aCons (eVar 0) aNil)) (eCall 1 m_u_law_numbers [] (aCons (eVar 1) aNil)))) sNext)
    (sSeq (sAsg eDict (gN 5))
    (sSeq (sFor (iSeq (eOp fIx (eVar 4) (eC (.int 0)))) (gN 6) l_u_law_renaming_right_1)
    (sRet (eAnd (eOp fEq (eScope (eComp (iSeq (eVar 0)) (gN 7) NK.tYes (eIf (NK.tB (eOp fIsN (eVar 7) (eC .non))) (eC .non) (eOp fDGet (eVar 5) (eVar 7))) [7])) (eVar 1)) (eIsi isl [(.b .tuple)] (eOp fIx (eVar 4) (eC (.int 0)))))))))))))
noncomputable def m_u_law_renaming_right : MF := fScope (runF 8 b_u_law_renaming_right)
noncomputable def l_law_1 : MS := (sIf (tNot (tTru (eCall 2 m_u_law_renaming_right [] (aCons (eOp fIx (eVar 15) (eC (.int 0))) (aCons (eOp fIx (eVar 15) (eC (.int 1))) aNil))))) (sRet (eC (.bl false))) sNext)
noncomputable def b_law : MS := (sSeq (sAsg (eCall 1 m_u_law_hand [] (aCons (eVar 0) aNil)) (gN 1))
    (sSeq (sAsg (eCall 1 m_u_law_size [] (aCons (eVar 1) aNil)) (gN 2))
    (sSeq (sAsg (eCall 3 m_u_law_entries [] (aCons (eVar 1) (aCons (eVar 2) (aCons (eOp fEq (eCall 2 m_u_law_draw [] (aCons (eVar 1) (aCons (eC (.int 2)) aNil))) (eC (.int 0))) aNil)))) (gN 3))
    (sSeq (sPar3 4 5 6 (aCons (eScope (eMake 5 2 m_Pattern___init [] (aCons (eVar 3) aNil))) (aCons (eCall 2 m_u_law_pool [] (aCons (eVar 1) (aCons (eC (.int 40)) aNil))) (aCons (eCall 2 m_u_law_pool [] (aCons (eVar 1) (aCons (eC (.int 40)) aNil))) aNil))))
    (sSeq (sAsg (eCall 2 m_u_law_row [] (aCons (eVar 3) (aCons (eVar 5) aNil))) (gN 7))
    (sSeq (sAsg (eOp fAdd (eCall 1 m_u_law_count [] (aCons (eVar 3) aNil)) (eCall 2 m_u_law_draw [] (aCons (eVar 1) (aCons (eOp fSub (eC (.int 41)) (eCall 1 m_u_law_count [] (aCons (eVar 3) aNil))) aNil)))) (gN 8))
    (sSeq (sAsg (eScope (eSl (eVar 5) none (some (eVar 8)))) (gN 9))
    (sSeq (sIf (tOr (NK.tB (eOp fNe (eCall 2 m_names_for [] (aCons (eVar 4) (aCons (eVar 9) aNil))) (eCB fTuple (aCons (eVar 7) aNil)))) (NK.tB (eOp fNe (eVar 9) (eScope (eSl (eVar 5) none (some (eVar 8))))))) (sRet (eC (.bl false))) sNext)
    (sSeq (sIf (tOr (NK.tB (eOp fNotN (eCall 2 m_first_difference [] (aCons (eVar 4) (aCons (eVar 7) aNil))) (eC .non))) (NK.tB (eOp fNotN (eCall 2 m_first_difference [] (aCons (eVar 4) (aCons (eCB fTuple (aCons (eVar 7) aNil)) aNil))) (eC .non)))) (sRet (eC (.bl false))) sNext)
    (sSeq (sAsg (eCall 3 m_u_law_spoilt [] (aCons (eVar 1) (aCons (eVar 7) (aCons (eScope (eSl (eVar 5) none (some (eC (.int 4))))) aNil)))) (gN 10))
    (sSeq (sPar 11 12 (aCons (eCall 2 m_first_difference [] (aCons (eVar 4) (aCons (eVar 10) aNil))) (aCons (eCall 2 m_u_law_differs [] (aCons (eVar 3) (aCons (eVar 10) aNil))) aNil)))
    (sSeq (sIf (tOr (NK.tB (eOp fNe (eVar 11) (eVar 12))) (tOr (NK.tB (eOp fNe (eOp fIsN (eVar 11) (eC .non)) (eOp fIsN (eVar 12) (eC .non)))) (tTru (eIsi isl [(.b .bool)] (eVar 11))))) (sRet (eC (.bl false))) sNext)
    (sSeq (sAsg (eCall 2 m_u_law_row [] (aCons (eVar 3) (aCons (eVar 6) aNil))) (gN 13))
    (sSeq (sAsg (eScope (eSl (eVar 13) none (some (eCall 2 m_u_law_draw [] (aCons (eVar 1) (aCons (eOp fAdd (eVar 2) (eC (.int 1))) aNil)))))) (gN 14))
    (sSeq (sFor (iSeq (eScope (eLst (aCons (eTup (aCons (eVar 7) (aCons (eVar 13) aNil))) (aCons (eTup (aCons (eVar 7) (aCons (eVar 10) aNil))) (aCons (eTup (aCons (eVar 10) (aCons (eVar 13) aNil))) (aCons (eTup (aCons (eVar 7) (aCons (eVar 14) aNil))) (aCons (eTup (aCons (eVar 14) (aCons (eVar 7) aNil))) (aCons (eTup (aCons (eVar 13) (aCons (eVar 7) aNil))) (aCons (eTup (aCons (eVar 10) (aCons (eVar 10) aNil))) aNil)))))))))) (gN 15) l_law_1)
    (sRet (eAnd (eCall 4 m_u_law_odd_right [] (aCons (eVar 1) (aCons (eVar 4) (aCons (eVar 3) (aCons (eVar 5) aNil))))) (eOp fIsN (eCall 2 m_first_difference [] (aCons (eVar 4) (aCons (eVar 7) aNil))) (eC .non)))))))))))))))))))
noncomputable def m_law : MF := fScope (runF 16 b_law)
end G

namespace G
open PySem L2 NK
structure Ad where
  q_u_law_odd_right : Addr
  p_u_law_odd_right : Addr
  q_u_law_renaming_right : Addr
  p_u_law_renaming_right : Addr
  c_CustomError : Addr
  c_BadPattern : Addr
  c_BadNames : Addr
  c_BadMatch : Addr
  c_NoRenaming : Addr
  c_Pattern : Addr
  f_u_law_hand : Addr
  d_u_law_hand : FuncData
  f_u_law_mix : Addr
  d_u_law_mix : FuncData
  f_u_law_draw : Addr
  d_u_law_draw : FuncData
  f_u_law_size : Addr
  d_u_law_size : FuncData
  f_u_law_entries : Addr
  d_u_law_entries : FuncData
  f_u_law_row : Addr
  d_u_law_row : FuncData
  f_u_law_pick : Addr
  d_u_law_pick : FuncData
  f_u_law_spoilt : Addr
  d_u_law_spoilt : FuncData
  f_entries_fault : Addr
  d_entries_fault : FuncData
  f_BadPattern___init : Addr
  d_BadPattern___init : FuncData
  f_Pattern___init : Addr
  d_Pattern___init : FuncData
  f_u_law_pool : Addr
  d_u_law_pool : FuncData
  f_u_law_count : Addr
  d_u_law_count : FuncData
  f_is_whole : Addr
  d_is_whole : FuncData
  f_is_name : Addr
  d_is_name : FuncData
  f_names_fault : Addr
  d_names_fault : FuncData
  f_BadNames___init : Addr
  d_BadNames___init : FuncData
  f_check_names : Addr
  d_check_names : FuncData
  f_class_numbers : Addr
  d_class_numbers : FuncData
  f_first_difference : Addr
  d_first_difference : FuncData
  f_u_law_numbers : Addr
  d_u_law_numbers : FuncData
  f_u_law_differs : Addr
  d_u_law_differs : FuncData
  f_u_law_odd : Addr
  d_u_law_odd : FuncData
  f_u_law_told : Addr
  d_u_law_told : FuncData
  f_NoRenaming___init : Addr
  d_NoRenaming___init : FuncData
  f_renaming_of : Addr
  d_renaming_of : FuncData
  f_check_unlike_names : Addr
  d_check_unlike_names : FuncData
  f_Pattern_class_count : Addr
  d_Pattern_class_count : FuncData
  pp_Pattern_class_count : Addr
  f_names_for : Addr
  d_names_for : FuncData
  f_u_law_odd_right : Addr
  d_u_law_odd_right : FuncData
  f_u_law_due_pairs : Addr
  d_u_law_due_pairs : FuncData
  f_u_law_renaming_right : Addr
  d_u_law_renaming_right : FuncData
  f_law : Addr
  d_law : FuncData
  cda_BadPattern : Addr
  cc_BadPattern : Addr
  cda_BadNames : Addr
  cc_BadNames : Addr
  cda_NoRenaming : Addr
  cc_NoRenaming : Addr
  v_MOST_NAME : Value
  v_MOST_PLACES : Value
def tb (w : World) (K : PySem.W.Frag) (a : Ad) : Tb where
  w := w
  K := K
  cls := fun k => match k with
    | 0 => a.c_CustomError
    | 1 => a.c_BadPattern
    | 2 => a.c_BadNames
    | 3 => a.c_BadMatch
    | 4 => a.c_NoRenaming
    | 5 => a.c_Pattern
    | _ => 0
  fld := fldN
  tabs := [(a.p_u_law_odd_right, ("_law_odd_right" : Str) ++ (".<locals>." : Str) ++ ("<lambda>" : Str)), (a.p_u_law_renaming_right, ("_law_renaming_right" : Str) ++ (".<locals>." : Str) ++ ("<lambda>" : Str))]
structure Txt (K : PySem.W.Frag) (mg : Str → Option Value) (base : Heap) (a : Ad) : Prop where
  tb_u_law_odd_right : LamX.TabB base mg a.q_u_law_odd_right a.p_u_law_odd_right
  cd_u_law_odd_right : a.d_u_law_odd_right.code = .ref a.q_u_law_odd_right
  tb_u_law_renaming_right : LamX.TabB base mg a.q_u_law_renaming_right a.p_u_law_renaming_right
  cd_u_law_renaming_right : a.d_u_law_renaming_right.code = .ref a.q_u_law_renaming_right
  tbne : a.p_u_law_odd_right ≠ a.p_u_law_renaming_right
  z_abs : mg "abs" = none
  z_bool : mg "bool" = none
  z_enumerate : mg "enumerate" = none
  z_int : mg "int" = none
  z_isinstance : mg "isinstance" = none
  z_len : mg "len" = none
  z_list : mg "list" = none
  z_max : mg "max" = none
  z_min : mg "min" = none
  z_range : mg "range" = none
  z_repr : mg "repr" = none
  z_super : mg "super" = none
  z_tuple : mg "tuple" = none
  g_MOST_NAME : RelV (.int 1000000000000000000000000000000) a.v_MOST_NAME ∧ mg "MOST_NAME" = some a.v_MOST_NAME
  g_MOST_PLACES : RelV (.int 40) a.v_MOST_PLACES ∧ mg "MOST_PLACES" = some a.v_MOST_PLACES
  c_CustomError : mg "CustomError" = some (.ref a.c_CustomError)
  c_BadPattern : mg "BadPattern" = some (.ref a.c_BadPattern)
  c_BadNames : mg "BadNames" = some (.ref a.c_BadNames)
  c_BadMatch : mg "BadMatch" = some (.ref a.c_BadMatch)
  c_NoRenaming : mg "NoRenaming" = some (.ref a.c_NoRenaming)
  c_Pattern : mg "Pattern" = some (.ref a.c_Pattern)
  F_u_law_hand : FunD K "_law_hand" "_law_hand" (defArgs s_u_law_hand) (defBody s_u_law_hand) (defScope s_u_law_hand) [] [] a.f_u_law_hand a.d_u_law_hand
  b_u_law_hand : Binds K a.d_u_law_hand (["_law_script"] : List Str) []
  m_u_law_hand : mg "_law_hand" = some (.ref a.f_u_law_hand)
  k_u_law_hand : PySem.W.keepIn K (.ref a.f_u_law_hand) = true
  F_u_law_mix : FunD K "_law_mix" "_law_mix" (defArgs s_u_law_mix) (defBody s_u_law_mix) (defScope s_u_law_mix) [] [] a.f_u_law_mix a.d_u_law_mix
  b_u_law_mix : Binds K a.d_u_law_mix (["_law_number", "_law_turn"] : List Str) []
  m_u_law_mix : mg "_law_mix" = some (.ref a.f_u_law_mix)
  k_u_law_mix : PySem.W.keepIn K (.ref a.f_u_law_mix) = true
  F_u_law_draw : FunD K "_law_draw" "_law_draw" (defArgs s_u_law_draw) (defBody s_u_law_draw) (defScope s_u_law_draw) [] [] a.f_u_law_draw a.d_u_law_draw
  b_u_law_draw : Binds K a.d_u_law_draw (["_law_hand_here", "_law_many"] : List Str) []
  m_u_law_draw : mg "_law_draw" = some (.ref a.f_u_law_draw)
  k_u_law_draw : PySem.W.keepIn K (.ref a.f_u_law_draw) = true
  F_u_law_size : FunD K "_law_size" "_law_size" (defArgs s_u_law_size) (defBody s_u_law_size) (defScope s_u_law_size) [] [] a.f_u_law_size a.d_u_law_size
  b_u_law_size : Binds K a.d_u_law_size (["_law_hand_here"] : List Str) []
  m_u_law_size : mg "_law_size" = some (.ref a.f_u_law_size)
  k_u_law_size : PySem.W.keepIn K (.ref a.f_u_law_size) = true
  F_u_law_entries : FunD K "_law_entries" "_law_entries" (defArgs s_u_law_entries) (defBody s_u_law_entries) (defScope s_u_law_entries) [] [] a.f_u_law_entries a.d_u_law_entries
  b_u_law_entries : Binds K a.d_u_law_entries (["_law_hand_here", "_law_size_here", "_law_empty"] : List Str) []
  m_u_law_entries : mg "_law_entries" = some (.ref a.f_u_law_entries)
  k_u_law_entries : PySem.W.keepIn K (.ref a.f_u_law_entries) = true
  F_u_law_row : FunD K "_law_row" "_law_row" (defArgs s_u_law_row) (defBody s_u_law_row) (defScope s_u_law_row) [] [] a.f_u_law_row a.d_u_law_row
  b_u_law_row : Binds K a.d_u_law_row (["_law_entries_here", "_law_names"] : List Str) []
  m_u_law_row : mg "_law_row" = some (.ref a.f_u_law_row)
  k_u_law_row : PySem.W.keepIn K (.ref a.f_u_law_row) = true
  F_u_law_pick : FunD K "_law_pick" "_law_pick" (defArgs s_u_law_pick) (defBody s_u_law_pick) (defScope s_u_law_pick) [] [] a.f_u_law_pick a.d_u_law_pick
  b_u_law_pick : Binds K a.d_u_law_pick (["_law_hand_here", "_law_things"] : List Str) []
  m_u_law_pick : mg "_law_pick" = some (.ref a.f_u_law_pick)
  k_u_law_pick : PySem.W.keepIn K (.ref a.f_u_law_pick) = true
  F_u_law_spoilt : FunD K "_law_spoilt" "_law_spoilt" (defArgs s_u_law_spoilt) (defBody s_u_law_spoilt) (defScope s_u_law_spoilt) [] [] a.f_u_law_spoilt a.d_u_law_spoilt
  b_u_law_spoilt : Binds K a.d_u_law_spoilt (["_law_hand_here", "_law_row_here", "_law_pool_here"] : List Str) []
  m_u_law_spoilt : mg "_law_spoilt" = some (.ref a.f_u_law_spoilt)
  k_u_law_spoilt : PySem.W.keepIn K (.ref a.f_u_law_spoilt) = true
  F_entries_fault : FunD K "entries_fault" "entries_fault" (defArgs s_entries_fault) (defBody s_entries_fault) (defScope s_entries_fault) [] [] a.f_entries_fault a.d_entries_fault
  b_entries_fault : Binds K a.d_entries_fault (["thing"] : List Str) []
  m_entries_fault : mg "entries_fault" = some (.ref a.f_entries_fault)
  k_entries_fault : PySem.W.keepIn K (.ref a.f_entries_fault) = true
  l_BadPattern : ∃ (oc : Value) (od : Option Addr) (osl : Array (Option Value)) (dV kV doc pm : Value) (an : Option Addr) (ct : Value), a.d_BadPattern___init = PySem.W.ksFn "__init__" "BadPattern.__init__" (defArgs s_BadPattern___init) (defBody s_BadPattern___init) (defScope s_BadPattern___init) dV kV doc pm an (.ref a.cda_BadPattern) ct a.cc_BadPattern ∧ K.lookup a.f_BadPattern___init = some ⟨oc, od, .func a.d_BadPattern___init, osl⟩ ∧ PySem.W.codeIn K (.ref a.cda_BadPattern) "BadPattern.__init__" = true
  b_BadPattern___init : Binds K a.d_BadPattern___init (["self", "index", "what"] : List Str) []
  S_BadPattern : Sup PW K mg (["self", "index", "what"] : List Str) (["self", "index", "what"] : List Str) (defScope s_BadPattern___init) a.c_BadPattern a.cda_BadPattern a.cc_BadPattern
  e_BadPattern : OexC K a.c_BadPattern
  ei_BadPattern : PySem.W.findIn K (.ref a.c_BadPattern) "__init__" = some (some (.ref a.f_BadPattern___init))
  et_BadPattern : PySem.W.typeIn K (.ref a.f_BadPattern___init) = some (.type "function")
  x_BadPattern : XfC K a.c_BadPattern
  n_BadPattern_index : PySem.W.findIn K (.ref a.c_BadPattern) "index" = some none
  n_BadPattern_what : PySem.W.findIn K (.ref a.c_BadPattern) "what" = some none
  F_Pattern___init : FunD K "__init__" "Pattern.__init__" (defArgs s_Pattern___init) (defBody s_Pattern___init) (defScope s_Pattern___init) [] [] a.f_Pattern___init a.d_Pattern___init
  b_Pattern___init : Binds K a.d_Pattern___init (["self", "entries"] : List Str) []
  F_u_law_pool : FunD K "_law_pool" "_law_pool" (defArgs s_u_law_pool) (defBody s_u_law_pool) (defScope s_u_law_pool) [] [] a.f_u_law_pool a.d_u_law_pool
  b_u_law_pool : Binds K a.d_u_law_pool (["_law_hand_here", "_law_many"] : List Str) []
  m_u_law_pool : mg "_law_pool" = some (.ref a.f_u_law_pool)
  k_u_law_pool : PySem.W.keepIn K (.ref a.f_u_law_pool) = true
  F_u_law_count : FunD K "_law_count" "_law_count" (defArgs s_u_law_count) (defBody s_u_law_count) (defScope s_u_law_count) [] [] a.f_u_law_count a.d_u_law_count
  b_u_law_count : Binds K a.d_u_law_count (["_law_entries_here"] : List Str) []
  m_u_law_count : mg "_law_count" = some (.ref a.f_u_law_count)
  k_u_law_count : PySem.W.keepIn K (.ref a.f_u_law_count) = true
  F_is_whole : FunD K "is_whole" "is_whole" (defArgs s_is_whole) (defBody s_is_whole) (defScope s_is_whole) [] [] a.f_is_whole a.d_is_whole
  b_is_whole : Binds K a.d_is_whole (["thing", "low", "high"] : List Str) []
  m_is_whole : mg "is_whole" = some (.ref a.f_is_whole)
  k_is_whole : PySem.W.keepIn K (.ref a.f_is_whole) = true
  F_is_name : FunD K "is_name" "is_name" (defArgs s_is_name) (defBody s_is_name) (defScope s_is_name) [] [] a.f_is_name a.d_is_name
  b_is_name : Binds K a.d_is_name (["thing"] : List Str) []
  m_is_name : mg "is_name" = some (.ref a.f_is_name)
  k_is_name : PySem.W.keepIn K (.ref a.f_is_name) = true
  F_names_fault : FunD K "names_fault" "names_fault" (defArgs s_names_fault) (defBody s_names_fault) (defScope s_names_fault) [] [] a.f_names_fault a.d_names_fault
  b_names_fault : Binds K a.d_names_fault (["thing"] : List Str) []
  m_names_fault : mg "names_fault" = some (.ref a.f_names_fault)
  k_names_fault : PySem.W.keepIn K (.ref a.f_names_fault) = true
  l_BadNames : ∃ (oc : Value) (od : Option Addr) (osl : Array (Option Value)) (dV kV doc pm : Value) (an : Option Addr) (ct : Value), a.d_BadNames___init = PySem.W.ksFn "__init__" "BadNames.__init__" (defArgs s_BadNames___init) (defBody s_BadNames___init) (defScope s_BadNames___init) dV kV doc pm an (.ref a.cda_BadNames) ct a.cc_BadNames ∧ K.lookup a.f_BadNames___init = some ⟨oc, od, .func a.d_BadNames___init, osl⟩ ∧ PySem.W.codeIn K (.ref a.cda_BadNames) "BadNames.__init__" = true
  b_BadNames___init : Binds K a.d_BadNames___init (["self", "index", "what"] : List Str) []
  S_BadNames : Sup PW K mg (["self", "index", "what"] : List Str) (["self", "index", "what"] : List Str) (defScope s_BadNames___init) a.c_BadNames a.cda_BadNames a.cc_BadNames
  e_BadNames : OexC K a.c_BadNames
  ei_BadNames : PySem.W.findIn K (.ref a.c_BadNames) "__init__" = some (some (.ref a.f_BadNames___init))
  et_BadNames : PySem.W.typeIn K (.ref a.f_BadNames___init) = some (.type "function")
  x_BadNames : XfC K a.c_BadNames
  n_BadNames_index : PySem.W.findIn K (.ref a.c_BadNames) "index" = some none
  n_BadNames_what : PySem.W.findIn K (.ref a.c_BadNames) "what" = some none
  F_check_names : FunD K "check_names" "check_names" (defArgs s_check_names) (defBody s_check_names) (defScope s_check_names) [] [] a.f_check_names a.d_check_names
  b_check_names : Binds K a.d_check_names (["thing"] : List Str) []
  m_check_names : mg "check_names" = some (.ref a.f_check_names)
  k_check_names : PySem.W.keepIn K (.ref a.f_check_names) = true
  F_class_numbers : FunD K "class_numbers" "class_numbers" (defArgs s_class_numbers) (defBody s_class_numbers) (defScope s_class_numbers) [] [] a.f_class_numbers a.d_class_numbers
  b_class_numbers : Binds K a.d_class_numbers (["things"] : List Str) []
  m_class_numbers : mg "class_numbers" = some (.ref a.f_class_numbers)
  k_class_numbers : PySem.W.keepIn K (.ref a.f_class_numbers) = true
  F_first_difference : FunD K "first_difference" "first_difference" (defArgs s_first_difference) (defBody s_first_difference) (defScope s_first_difference) [] [] a.f_first_difference a.d_first_difference
  b_first_difference : Binds K a.d_first_difference (["pattern", "names"] : List Str) []
  m_first_difference : mg "first_difference" = some (.ref a.f_first_difference)
  k_first_difference : PySem.W.keepIn K (.ref a.f_first_difference) = true
  F_u_law_numbers : FunD K "_law_numbers" "_law_numbers" (defArgs s_u_law_numbers) (defBody s_u_law_numbers) (defScope s_u_law_numbers) [] [] a.f_u_law_numbers a.d_u_law_numbers
  b_u_law_numbers : Binds K a.d_u_law_numbers (["_law_things"] : List Str) []
  m_u_law_numbers : mg "_law_numbers" = some (.ref a.f_u_law_numbers)
  k_u_law_numbers : PySem.W.keepIn K (.ref a.f_u_law_numbers) = true
  F_u_law_differs : FunD K "_law_differs" "_law_differs" (defArgs s_u_law_differs) (defBody s_u_law_differs) (defScope s_u_law_differs) [] [] a.f_u_law_differs a.d_u_law_differs
  b_u_law_differs : Binds K a.d_u_law_differs (["_law_one", "_law_other"] : List Str) []
  m_u_law_differs : mg "_law_differs" = some (.ref a.f_u_law_differs)
  k_u_law_differs : PySem.W.keepIn K (.ref a.f_u_law_differs) = true
  F_u_law_odd : FunD K "_law_odd" "_law_odd" (defArgs s_u_law_odd) (defBody s_u_law_odd) (defScope s_u_law_odd) [] [] a.f_u_law_odd a.d_u_law_odd
  b_u_law_odd : Binds K a.d_u_law_odd (["_law_hand_here", "_law_names", "_law_word_pool"] : List Str) []
  m_u_law_odd : mg "_law_odd" = some (.ref a.f_u_law_odd)
  k_u_law_odd : PySem.W.keepIn K (.ref a.f_u_law_odd) = true
  F_u_law_told : FunD K "_law_told" "_law_told" (defArgs s_u_law_told) (defBody s_u_law_told) (defScope s_u_law_told) [] [] a.f_u_law_told a.d_u_law_told
  b_u_law_told : Binds K a.d_u_law_told (["_law_call"] : List Str) []
  m_u_law_told : mg "_law_told" = some (.ref a.f_u_law_told)
  k_u_law_told : PySem.W.keepIn K (.ref a.f_u_law_told) = true
  l_NoRenaming : ∃ (oc : Value) (od : Option Addr) (osl : Array (Option Value)) (dV kV doc pm : Value) (an : Option Addr) (ct : Value), a.d_NoRenaming___init = PySem.W.ksFn "__init__" "NoRenaming.__init__" (defArgs s_NoRenaming___init) (defBody s_NoRenaming___init) (defScope s_NoRenaming___init) dV kV doc pm an (.ref a.cda_NoRenaming) ct a.cc_NoRenaming ∧ K.lookup a.f_NoRenaming___init = some ⟨oc, od, .func a.d_NoRenaming___init, osl⟩ ∧ PySem.W.codeIn K (.ref a.cda_NoRenaming) "NoRenaming.__init__" = true
  b_NoRenaming___init : Binds K a.d_NoRenaming___init (["self", "place"] : List Str) []
  S_NoRenaming : Sup PW K mg (["self", "place"] : List Str) (["self", "place"] : List Str) (defScope s_NoRenaming___init) a.c_NoRenaming a.cda_NoRenaming a.cc_NoRenaming
  e_NoRenaming : OexC K a.c_NoRenaming
  ei_NoRenaming : PySem.W.findIn K (.ref a.c_NoRenaming) "__init__" = some (some (.ref a.f_NoRenaming___init))
  et_NoRenaming : PySem.W.typeIn K (.ref a.f_NoRenaming___init) = some (.type "function")
  x_NoRenaming : XfC K a.c_NoRenaming
  n_NoRenaming_place : PySem.W.findIn K (.ref a.c_NoRenaming) "place" = some none
  F_renaming_of : FunD K "renaming_of" "renaming_of" (defArgs s_renaming_of) (defBody s_renaming_of) (defScope s_renaming_of) [] [] a.f_renaming_of a.d_renaming_of
  b_renaming_of : Binds K a.d_renaming_of (["one", "other"] : List Str) []
  m_renaming_of : mg "renaming_of" = some (.ref a.f_renaming_of)
  k_renaming_of : PySem.W.keepIn K (.ref a.f_renaming_of) = true
  F_check_unlike_names : FunD K "check_unlike_names" "check_unlike_names" (defArgs s_check_unlike_names) (defBody s_check_unlike_names) (defScope s_check_unlike_names) [] [] a.f_check_unlike_names a.d_check_unlike_names
  b_check_unlike_names : Binds K a.d_check_unlike_names (["thing"] : List Str) []
  m_check_unlike_names : mg "check_unlike_names" = some (.ref a.f_check_unlike_names)
  k_check_unlike_names : PySem.W.keepIn K (.ref a.f_check_unlike_names) = true
  F_Pattern_class_count : FunD K "class_count" "Pattern.class_count" (defArgs s_Pattern_class_count) (defBody s_Pattern_class_count) (defScope s_Pattern_class_count) [] [] a.f_Pattern_class_count a.d_Pattern_class_count
  b_Pattern_class_count : Binds K a.d_Pattern_class_count (["self"] : List Str) []
  pr_Pattern_class_count : L2.PropOf K a.c_Pattern "class_count" a.pp_Pattern_class_count a.f_Pattern_class_count
  F_names_for : FunD K "names_for" "names_for" (defArgs s_names_for) (defBody s_names_for) (defScope s_names_for) [] [] a.f_names_for a.d_names_for
  b_names_for : Binds K a.d_names_for (["pattern", "names"] : List Str) []
  m_names_for : mg "names_for" = some (.ref a.f_names_for)
  k_names_for : PySem.W.keepIn K (.ref a.f_names_for) = true
  F_u_law_odd_right : FunD K "_law_odd_right" "_law_odd_right" (defArgs s_u_law_odd_right) (defBody s_u_law_odd_right) (defScope s_u_law_odd_right) [] [] a.f_u_law_odd_right a.d_u_law_odd_right
  b_u_law_odd_right : Binds K a.d_u_law_odd_right (["_law_hand_here", "_law_pattern", "_law_entries_here", "_law_names"] : List Str) []
  m_u_law_odd_right : mg "_law_odd_right" = some (.ref a.f_u_law_odd_right)
  k_u_law_odd_right : PySem.W.keepIn K (.ref a.f_u_law_odd_right) = true
  F_u_law_due_pairs : FunD K "_law_due_pairs" "_law_due_pairs" (defArgs s_u_law_due_pairs) (defBody s_u_law_due_pairs) (defScope s_u_law_due_pairs) [] [] a.f_u_law_due_pairs a.d_u_law_due_pairs
  b_u_law_due_pairs : Binds K a.d_u_law_due_pairs (["_law_one", "_law_other"] : List Str) []
  m_u_law_due_pairs : mg "_law_due_pairs" = some (.ref a.f_u_law_due_pairs)
  k_u_law_due_pairs : PySem.W.keepIn K (.ref a.f_u_law_due_pairs) = true
  F_u_law_renaming_right : FunD K "_law_renaming_right" "_law_renaming_right" (defArgs s_u_law_renaming_right) (defBody s_u_law_renaming_right) (defScope s_u_law_renaming_right) [] [] a.f_u_law_renaming_right a.d_u_law_renaming_right
  b_u_law_renaming_right : Binds K a.d_u_law_renaming_right (["_law_one", "_law_other"] : List Str) []
  m_u_law_renaming_right : mg "_law_renaming_right" = some (.ref a.f_u_law_renaming_right)
  k_u_law_renaming_right : PySem.W.keepIn K (.ref a.f_u_law_renaming_right) = true
  F_law : FunD K "law" "law" (defArgs s_law) (defBody s_law) (defScope s_law) [] [] a.f_law a.d_law
  b_law : Binds K a.d_law (["_law_script"] : List Str) []
  m_law : mg "law" = some (.ref a.f_law)
  k_law : PySem.W.keepIn K (.ref a.f_law) = true
  hn : PySem.W.specialIn K (.builtin "object.__class__") "__get__" = some (some (.builtin "getset_descriptor.__get__"))
  ht : PySem.W.takesIn K (.builtin "object.__class__") = some true
  cl_Pattern : Cls K a.c_Pattern
  ha_Pattern : PySem.W.findIn K (.ref a.c_Pattern) "__class__" = some (some (.builtin "object.__class__"))
  hm_Pattern : PySem.W.mroIn K a.c_Pattern (.type "object") = some true
  na_Pattern_entries : NoAttr K a.c_Pattern "entries"
  mk_Pattern : Mk K a.c_Pattern a.f_Pattern___init
  xm_BadNames_0 : PySem.W.exmOne K (.ref a.c_CustomError) (.ref a.c_BadNames) = some false
  xm_BadNames_1 : PySem.W.exmOne K (.ref a.c_BadPattern) (.ref a.c_BadNames) = some false
  xm_BadNames_2 : PySem.W.exmOne K (.ref a.c_BadNames) (.ref a.c_BadNames) = some true
  xm_BadNames_3 : PySem.W.exmOne K (.ref a.c_BadMatch) (.ref a.c_BadNames) = some false
  xm_BadNames_4 : PySem.W.exmOne K (.ref a.c_NoRenaming) (.ref a.c_BadNames) = some false
  xm_NoRenaming_0 : PySem.W.exmOne K (.ref a.c_CustomError) (.ref a.c_NoRenaming) = some false
  xm_NoRenaming_1 : PySem.W.exmOne K (.ref a.c_BadPattern) (.ref a.c_NoRenaming) = some false
  xm_NoRenaming_2 : PySem.W.exmOne K (.ref a.c_BadNames) (.ref a.c_NoRenaming) = some false
  xm_NoRenaming_3 : PySem.W.exmOne K (.ref a.c_BadMatch) (.ref a.c_NoRenaming) = some false
  xm_NoRenaming_4 : PySem.W.exmOne K (.ref a.c_NoRenaming) (.ref a.c_NoRenaming) = some true
section
variable {w : World} {K : PySem.W.Frag} {mg : Str → Option Value} {a : Ad} {base : Heap}
theorem Txt.i_Pattern (T : Txt K mg base a) : InsC (tb w K a) 5 := ⟨T.cl_Pattern, T.ha_Pattern, T.hn, T.ht, T.hm_Pattern⟩
theorem Txt.o_Pattern_entries (T : Txt K mg base a) : FldOk (tb w K a) 5 0 "entries" := ⟨T.cl_Pattern, T.na_Pattern_entries, rfl, (show (fldN 5).Nodup by decide +kernel), (show (fldN 5).length ≤ 900 by decide)⟩
theorem Txt.isok (T : Txt K mg base a) : IsOk (tb w K a) isl := by
  intro p h
  cases h
theorem Txt.exm_BadNames (T : Txt K mg base a) : ∀ (k : Nat) (b : Bool), ([false, false, true, false, false] : List Bool)[k]? = some b → PySem.W.exmOne K (.ref ((tb w K a).cls k)) (.ref a.c_BadNames) = some b := by
  intro k b h
  match k, h with
  | 0, h => cases h; exact T.xm_BadNames_0
  | 1, h => cases h; exact T.xm_BadNames_1
  | 2, h => cases h; exact T.xm_BadNames_2
  | 3, h => cases h; exact T.xm_BadNames_3
  | 4, h => cases h; exact T.xm_BadNames_4
  | n + 5, h => simp at h
theorem Txt.exm_NoRenaming (T : Txt K mg base a) : ∀ (k : Nat) (b : Bool), ([false, false, false, false, true] : List Bool)[k]? = some b → PySem.W.exmOne K (.ref ((tb w K a).cls k)) (.ref a.c_NoRenaming) = some b := by
  intro k b h
  match k, h with
  | 0, h => cases h; exact T.xm_NoRenaming_0
  | 1, h => cases h; exact T.xm_NoRenaming_1
  | 2, h => cases h; exact T.xm_NoRenaming_2
  | 3, h => cases h; exact T.xm_NoRenaming_3
  | 4, h => cases h; exact T.xm_NoRenaming_4
  | n + 5, h => simp at h
theorem sc_u_law_hand : FnScope (["_law_script", "_law_total", "_law_k", "_law_cell"] : List Str) (["_law_script"] : List Str) (defScope s_u_law_hand) := ⟨rfl, rfl, rfl, by decide +kernel, rfl, by decide +kernel, by decide +kernel⟩
theorem ok_u_law_hand (T : Txt K mg base a) : FnOk PW w K mg base (L2.CX PW w) 1 a.f_u_law_hand a.d_u_law_hand (["_law_script"] : List Str) (spOf (tb w K a) 1 m_u_law_hand) :=
  fund_okl T.F_u_law_hand sc_u_law_hand fun cdv A outer s H E hr =>
    (pssm_cons (psm_set (i := 1) sc_u_law_hand.nd rfl (Or.inl rfl) pem_int)
    (pssm_cons (psm_for (passes_of rfl) rfl (pim_enumA rfl rfl T.z_enumerate (pam_cons (pem_var (pv 0)) pam_nil)) (pgm_tup rfl rfl (PGN.cons (pg_name (i := 2) sc_u_law_hand.nd rfl (Or.inl rfl)) rfl (PGN.cons (pg_name (i := 3) sc_u_law_hand.nd rfl (Or.inl rfl)) rfl PGN.nil rfl) rfl)) (pssm_one (psm_set (i := 1) sc_u_law_hand.nd rfl (Or.inl rfl) (pem_op op_mod sim_mod (pem_callTy call_int1 sim_int rfl T.z_int bt_int (pam_cons (pem_op op_addAll sim_add (pem_op op_mulAll sim_mul (pem_var (pv 1)) pem_int) (pem_op op_mulAll sim_mul (pem_callTy call_int1 sim_int rfl T.z_int bt_int (pam_cons (pem_var (pv 3)) pam_nil)) (pem_op op_addAll sim_add (pem_var (pv 2)) pem_int))) pam_nil)) pem_int))))
    (pssm_one (psm_ret (pem_lst (pam_cons (pem_scope (pem_comp (own := [("_law_cell", 3)]) rfl sc_u_law_hand.nd (pim_seq rfl (pem_var (pv 0))) (show BlkOk (["_law_script", "_law_total", "_law_k", "_law_cell"] : List Str) (defScope s_u_law_hand) _ [("_law_cell", 3)] from ⟨rfl, by decide +kernel, by decide +kernel, by decide +kernel, by decide +kernel⟩) (fun _ _ _ _ _ => (pg_name (i := 3) sc_u_law_hand.nd rfl (Or.inl rfl))) (gr_name rfl) (gw_name (by decide)) (fun _ _ _ _ _ => (ptsm_nil (σ := ()))) (fun _ _ _ _ _ => (pem_callB call_abs sim_abs rfl T.z_abs bt_abs (pam_cons (pem_callTy call_int1 sim_int rfl T.z_int bt_int (pam_cons (pem_var (pv 3)) pam_nil)) pam_nil))))) (pam_cons pem_int (pam_cons pem_int (pam_cons (pem_var (pv 1)) pam_nil)))))))))
theorem sc_u_law_mix : FnScope (["_law_number", "_law_turn", "_law_once", "_law_twice"] : List Str) (["_law_number", "_law_turn"] : List Str) (defScope s_u_law_mix) := ⟨rfl, rfl, rfl, by decide +kernel, rfl, by decide +kernel, by decide +kernel⟩
theorem ok_u_law_mix (T : Txt K mg base a) : FnOk PW w K mg base (L2.CX PW w) 1 a.f_u_law_mix a.d_u_law_mix (["_law_number", "_law_turn"] : List Str) (spOf (tb w K a) 2 m_u_law_mix) :=
  fund_okm T.F_u_law_mix sc_u_law_mix fun cdv A outer s H E hr =>
    (pssm_cons (psm_set (i := 2) sc_u_law_mix.nd rfl (Or.inl rfl) (pem_op op_mod sim_mod (pem_callTy call_int1 sim_int rfl T.z_int bt_int (pam_cons (pem_op op_addAll sim_add (pem_op op_addAll sim_add (pem_op op_mulAll sim_mul (pem_var (pv 0)) pem_int) (pem_op op_mulAll sim_mul (pem_var (pv 1)) pem_int)) pem_int) pam_nil)) pem_int))
    (pssm_cons (psm_set (i := 3) sc_u_law_mix.nd rfl (Or.inl rfl) (pem_op op_mod sim_mod (pem_callTy call_int1 sim_int rfl T.z_int bt_int (pam_cons (pem_op op_addAll sim_add (pem_op op_addAll sim_add (pem_op op_mulAll sim_mul (pem_var (pv 2)) (pem_var (pv 2))) (pem_op op_mulAll sim_mul (pem_op op_fdivW sim_div (pem_var (pv 2)) pem_int) pem_int)) (pem_op op_mulAll sim_mul (pem_var (pv 1)) pem_int)) pam_nil)) pem_int))
    (pssm_one (psm_ret (pem_op op_fdivW sim_div (pem_op op_mod sim_mod (pem_callTy call_int1 sim_int rfl T.z_int bt_int (pam_cons (pem_op op_addAll sim_add (pem_op op_fdivW sim_div (pem_op op_mulAll sim_mul (pem_var (pv 3)) (pem_var (pv 3))) pem_int) (pem_var (pv 2))) pam_nil)) pem_int) pem_int)))))
theorem sc_u_law_draw : FnScope (["_law_hand_here", "_law_many", "_law_cell", "_law_rest"] : List Str) (["_law_hand_here", "_law_many"] : List Str) (defScope s_u_law_draw) := ⟨rfl, rfl, rfl, by decide +kernel, rfl, by decide +kernel, by decide +kernel⟩
theorem ok_u_law_draw (T : Txt K mg base a) : FnOk PW w K mg base (L2.CX PW w) 2 a.f_u_law_draw a.d_u_law_draw (["_law_hand_here", "_law_many"] : List Str) (spOf (tb w K a) 2 m_u_law_draw) :=
  fund_okm T.F_u_law_draw sc_u_law_draw fun cdv A outer s H E hr =>
    (pssm_cons (psm_if (PWm.pt (pwm_and (ptm_cmp (op_eqD hr.units) sim_eq (pem_ix ix_seq sim_ix (pem_var (pv 0)) pem_int) pem_int (nomark _)) (pwm_and1 (ptm_cmp op_lt sim_lt (pem_ix ix_seq sim_ix (pem_var (pv 0)) pem_int) (pem_callB call_len sim_len rfl T.z_len bt_len (pam_cons (pem_ix ix_seq sim_ix (pem_var (pv 0)) pem_int) pam_nil)) (nomark _))))) (pssm_cons (psm_set (i := 2) sc_u_law_draw.nd rfl (Or.inl rfl) (pem_ix ix_seq sim_ix (pem_ix ix_seq sim_ix (pem_var (pv 0)) pem_int) (pem_ix ix_seq sim_ix (pem_var (pv 0)) pem_int)))
    (pssm_cons (psm_setIx (ps_asg (pem_op op_addAll sim_add (pem_ix ix_seq sim_ix (pem_var (pv 0)) pem_int) pem_int) (pg_sub (pem_var (pv 0)) pem_int set_list)))
    (pssm_cons (psm_if (ptm_cmp op_lt sim_lt (pem_var (pv 2)) (pem_op op_pow sim_pow pem_int pem_int) (nomark _)) (pssm_one (psm_ret (pem_op op_mod sim_mod (pem_callTy call_int1 sim_int rfl T.z_int bt_int (pam_cons (pem_call (takes_of rfl rfl rfl rfl) (ok_u_law_mix T) (hr.mono (by decide)) rfl T.m_u_law_mix T.k_u_law_mix T.b_u_law_mix .nil (fun _ => .nil) rfl (pam_cons (pem_op op_mod sim_mod (pem_callTy call_int1 sim_int rfl T.z_int bt_int (pam_cons (pem_var (pv 2)) pam_nil)) pem_int) (pam_cons (pem_ix ix_seq sim_ix (pem_var (pv 0)) pem_int) pam_nil))) pam_nil)) (pem_var (pv 1))))) pssm_nil)
    (pssm_one (psm_setIx (ps_asg (pem_var (pv 2)) (pg_sub (pem_var (pv 0)) pem_int set_list))))))) pssm_nil)
    (pssm_cons (psm_if (ptm_cmp op_gt sim_gt (pem_ix ix_seq sim_ix (pem_var (pv 0)) pem_int) pem_int (nomark _)) (pssm_cons (psm_set (i := 3) sc_u_law_draw.nd rfl (Or.inl rfl) (pem_ix ix_seq sim_ix (pem_var (pv 0)) pem_int))
    (pssm_cons (psm_setIx (ps_asg (pem_op op_fdivW sim_div (pem_var (pv 3)) (pem_var (pv 1))) (pg_sub (pem_var (pv 0)) pem_int set_list)))
    (pssm_one (psm_ret (pem_op op_mod sim_mod (pem_callTy call_int1 sim_int rfl T.z_int bt_int (pam_cons (pem_var (pv 3)) pam_nil)) (pem_var (pv 1))))))) pssm_nil)
    (pssm_cons (psm_setIx (ps_asg (pem_op op_mod sim_mod (pem_callTy call_int1 sim_int rfl T.z_int bt_int (pam_cons (pem_op op_addAll sim_add (pem_ix ix_seq sim_ix (pem_var (pv 0)) pem_int) pem_int) pam_nil)) pem_int) (pg_sub (pem_var (pv 0)) pem_int set_list)))
    (pssm_one (psm_ret (pem_op op_mod sim_mod (pem_callTy call_int1 sim_int rfl T.z_int bt_int (pam_cons (pem_call (takes_of rfl rfl rfl rfl) (ok_u_law_mix T) (hr.mono (by decide)) rfl T.m_u_law_mix T.k_u_law_mix T.b_u_law_mix .nil (fun _ => .nil) rfl (pam_cons (pem_ix ix_seq sim_ix (pem_var (pv 0)) pem_int) (pam_cons (pem_ix ix_seq sim_ix (pem_var (pv 0)) pem_int) pam_nil))) pam_nil)) (pem_var (pv 1))))))))
theorem sc_u_law_size : FnScope (["_law_hand_here", "_law_kind"] : List Str) (["_law_hand_here"] : List Str) (defScope s_u_law_size) := ⟨rfl, rfl, rfl, by decide +kernel, rfl, by decide +kernel, by decide +kernel⟩
theorem ok_u_law_size (T : Txt K mg base a) : FnOk PW w K mg base (L2.CX PW w) 3 a.f_u_law_size a.d_u_law_size (["_law_hand_here"] : List Str) (spOf (tb w K a) 1 m_u_law_size) :=
  fund_okm T.F_u_law_size sc_u_law_size fun cdv A outer s H E hr =>
    (pssm_cons (psm_set (i := 1) sc_u_law_size.nd rfl (Or.inl rfl) (pem_call (takes_of rfl rfl rfl rfl) (ok_u_law_draw T) (hr.mono (by decide)) rfl T.m_u_law_draw T.k_u_law_draw T.b_u_law_draw .nil (fun _ => .nil) rfl (pam_cons (pem_var (pv 0)) (pam_cons pem_int pam_nil))))
    (pssm_one (psm_ret (pem_ifExp (ptm_cmp (op_eqD hr.units) sim_eq (pem_var (pv 1)) pem_int (nomark _)) pem_int (pem_ifExp (ptm_cmp (op_eqD hr.units) sim_eq (pem_var (pv 1)) pem_int (nomark _)) (pem_call (takes_of rfl rfl rfl rfl) (ok_u_law_draw T) (hr.mono (by decide)) rfl T.m_u_law_draw T.k_u_law_draw T.b_u_law_draw .nil (fun _ => .nil) rfl (pam_cons (pem_var (pv 0)) (pam_cons pem_int pam_nil))) (pem_call (takes_of rfl rfl rfl rfl) (ok_u_law_draw T) (hr.mono (by decide)) rfl T.m_u_law_draw T.k_u_law_draw T.b_u_law_draw .nil (fun _ => .nil) rfl (pam_cons (pem_var (pv 0)) (pam_cons pem_int pam_nil))))))))
theorem sc_u_law_entries : FnScope (["_law_hand_here", "_law_size_here", "_law_empty", "_law_entries_here", "_law_met", "_law_k", "_law_entry"] : List Str) (["_law_hand_here", "_law_size_here", "_law_empty"] : List Str) (defScope s_u_law_entries) := ⟨rfl, rfl, rfl, by decide +kernel, rfl, by decide +kernel, by decide +kernel⟩
theorem ok_u_law_entries (T : Txt K mg base a) : FnOk PW w K mg base (L2.CX PW w) 3 a.f_u_law_entries a.d_u_law_entries (["_law_hand_here", "_law_size_here", "_law_empty"] : List Str) (spOf (tb w K a) 3 m_u_law_entries) :=
  fund_okm T.F_u_law_entries sc_u_law_entries fun cdv A outer s H E hr =>
    (pssm_cons (psm_par (i := 3) (j := 4) rfl sc_u_law_entries.nd rfl rfl (by decide) rfl rfl (pam_cons (pem_lst pam_nil) (pam_cons pem_int pam_nil)) rfl)
    (pssm_cons (psm_for (passes_of rfl) rfl (pim_range1 rfl T.z_range (pam_cons (pem_var (pv 1)) pam_nil)) (pgm_name (pg_name (i := 5) sc_u_law_entries.nd rfl (Or.inl rfl))) (pssm_one (psm_if (PWm.pt (pwm_and (ptm_tru rfl (pem_var (pv 2))) (pwm_and1 (ptm_cmp (op_eqD hr.units) sim_eq (pem_call (takes_of rfl rfl rfl rfl) (ok_u_law_draw T) (hr.mono (by decide)) rfl T.m_u_law_draw T.k_u_law_draw T.b_u_law_draw .nil (fun _ => .nil) rfl (pam_cons (pem_var (pv 0)) (pam_cons pem_int pam_nil))) pem_int (nomark _))))) (pssm_one (psm_expr (pem_bm sim_app (pe_bm PySem.F.plainAttrs_list PySem.F.slot_list_append PySem.F.type_list_append mt_append (pem_var (pv 3)) (pam_cons pem_non pam_nil))))) (pssm_cons (psm_set (i := 6) sc_u_law_entries.nd rfl (Or.inl rfl) (pem_call (takes_of rfl rfl rfl rfl) (ok_u_law_draw T) (hr.mono (by decide)) rfl T.m_u_law_draw T.k_u_law_draw T.b_u_law_draw .nil (fun _ => .nil) rfl (pam_cons (pem_var (pv 0)) (pam_cons (pem_op op_addAll sim_add (pem_var (pv 4)) pem_int) pam_nil))))
    (pssm_cons (psm_set (i := 4) sc_u_law_entries.nd rfl (Or.inl rfl) (pem_ifExp (ptm_cmp (op_eqD hr.units) sim_eq (pem_var (pv 6)) (pem_var (pv 4)) (nomark _)) (pem_op op_addAll sim_add (pem_var (pv 4)) pem_int) (pem_var (pv 4))))
    (pssm_one (psm_expr (pem_bm sim_app (pe_bm PySem.F.plainAttrs_list PySem.F.slot_list_append PySem.F.type_list_append mt_append (pem_var (pv 3)) (pam_cons (pem_var (pv 6)) pam_nil))))))))))
    (pssm_one (psm_ret (pem_var (pv 3))))))
theorem sc_u_law_row : FnScope (["_law_entries_here", "_law_names", "_law_entry"] : List Str) (["_law_entries_here", "_law_names"] : List Str) (defScope s_u_law_row) := ⟨rfl, rfl, rfl, by decide +kernel, rfl, by decide +kernel, by decide +kernel⟩
theorem ok_u_law_row (T : Txt K mg base a) : FnOk PW w K mg base (L2.CX PW w) 1 a.f_u_law_row a.d_u_law_row (["_law_entries_here", "_law_names"] : List Str) (spOf (tb w K a) 2 m_u_law_row) :=
  fund_okm T.F_u_law_row sc_u_law_row fun cdv A outer s H E hr =>
    (pssm_one (psm_ret (pem_scope (pem_comp (own := [("_law_entry", 2)]) rfl sc_u_law_row.nd (pim_seq rfl (pem_var (pv 0))) (show BlkOk (["_law_entries_here", "_law_names", "_law_entry"] : List Str) (defScope s_u_law_row) _ [("_law_entry", 2)] from ⟨rfl, by decide +kernel, by decide +kernel, by decide +kernel, by decide +kernel⟩) (fun _ _ _ _ _ => (pg_name (i := 2) sc_u_law_row.nd rfl (Or.inl rfl))) (gr_name rfl) (gw_name (by decide)) (fun _ _ _ _ _ => (ptsm_nil (σ := ()))) (fun _ _ _ _ _ => (pem_ifExp (ptm_cmp op_isN sim_isN (pem_var (pv 2)) pem_non (nomark _)) pem_non (pem_ix ix_seq sim_ix (pem_var (pv 1)) (pem_var (pv 2)))))))))
theorem sc_u_law_pick : FnScope (["_law_hand_here", "_law_things"] : List Str) (["_law_hand_here", "_law_things"] : List Str) (defScope s_u_law_pick) := ⟨rfl, rfl, rfl, by decide +kernel, rfl, by decide +kernel, by decide +kernel⟩
theorem ok_u_law_pick (T : Txt K mg base a) : FnOk PW w K mg base (L2.CX PW w) 3 a.f_u_law_pick a.d_u_law_pick (["_law_hand_here", "_law_things"] : List Str) (spOf (tb w K a) 2 m_u_law_pick) :=
  fund_okl T.F_u_law_pick sc_u_law_pick fun cdv A outer s H E hr =>
    (pssm_one (psm_ret (pem_ix ix_seq sim_ix (pem_var (pv 1)) (pem_call (takes_of rfl rfl rfl rfl) (ok_u_law_draw T) (hr.mono (by decide)) rfl T.m_u_law_draw T.k_u_law_draw T.b_u_law_draw .nil (fun _ => .nil) rfl (pam_cons (pem_var (pv 0)) (pam_cons (pem_callB call_len sim_len rfl T.z_len bt_len (pam_cons (pem_var (pv 1)) pam_nil)) pam_nil))))))
theorem sc_u_law_spoilt : FnScope (["_law_hand_here", "_law_row_here", "_law_pool_here", "_law_odd_here", "_law_k"] : List Str) (["_law_hand_here", "_law_row_here", "_law_pool_here"] : List Str) (defScope s_u_law_spoilt) := ⟨rfl, rfl, rfl, by decide +kernel, rfl, by decide +kernel, by decide +kernel⟩
theorem ok_u_law_spoilt (T : Txt K mg base a) : FnOk PW w K mg base (L2.CX PW w) 4 a.f_u_law_spoilt a.d_u_law_spoilt (["_law_hand_here", "_law_row_here", "_law_pool_here"] : List Str) (spOf (tb w K a) 3 m_u_law_spoilt) :=
  fund_okm T.F_u_law_spoilt sc_u_law_spoilt fun cdv A outer s H E hr =>
    (pssm_cons (psm_set (i := 3) sc_u_law_spoilt.nd rfl (Or.inl rfl) (pem_callTy call_list_of sim_list rfl T.z_list bt_list (pam_cons (pem_var (pv 1)) pam_nil)))
    (pssm_cons (psm_for (passes_of rfl) rfl (pim_range1 rfl T.z_range (pam_cons (pem_op op_addAll sim_add pem_int (pem_call (takes_of rfl rfl rfl rfl) (ok_u_law_draw T) (hr.mono (by decide)) rfl T.m_u_law_draw T.k_u_law_draw T.b_u_law_draw .nil (fun _ => .nil) rfl (pam_cons (pem_var (pv 0)) (pam_cons pem_int pam_nil)))) pam_nil)) (pgm_name (pg_name (i := 4) sc_u_law_spoilt.nd rfl (Or.inl rfl))) (pssm_one (psm_if (ptm_cmp (op_neD hr.units) sim_ne (pem_var (pv 3)) (pem_scope (pem_lst pam_nil)) (nomark _)) (pssm_one (psm_setIx (ps_asg (pem_call (takes_of rfl rfl rfl rfl) (ok_u_law_pick T) (hr.mono (by decide)) rfl T.m_u_law_pick T.k_u_law_pick T.b_u_law_pick .nil (fun _ => .nil) rfl (pam_cons (pem_var (pv 0)) (pam_cons (pem_scope (pem_op op_addAll sim_add (pem_var (pv 2)) (pem_scope (pem_lst (pam_cons pem_non pam_nil))))) pam_nil))) (pg_sub (pem_var (pv 3)) (pem_call (takes_of rfl rfl rfl rfl) (ok_u_law_draw T) (hr.mono (by decide)) rfl T.m_u_law_draw T.k_u_law_draw T.b_u_law_draw .nil (fun _ => .nil) rfl (pam_cons (pem_var (pv 0)) (pam_cons (pem_callB call_len sim_len rfl T.z_len bt_len (pam_cons (pem_var (pv 3)) pam_nil)) pam_nil))) set_list)))) pssm_nil)))
    (pssm_one (psm_ret (pem_var (pv 3))))))
theorem sc_entries_fault : FnScope (["thing", "least_new", "at", "entry"] : List Str) (["thing"] : List Str) (defScope s_entries_fault) := ⟨rfl, rfl, rfl, by decide +kernel, rfl, by decide +kernel, by decide +kernel⟩
theorem ok_entries_fault (T : Txt K mg base a) : FnOk PW w K mg base (L2.CX PW w) 1 a.f_entries_fault a.d_entries_fault (["thing"] : List Str) (spOf (tb w K a) 1 m_entries_fault) :=
  fund_okm T.F_entries_fault sc_entries_fault fun cdv A outer s H E hr =>
    (pssm_cons (psm_if (PWm.pt (pwm_or (ptm_not (ptm_tru rfl (pem_isiT T.isok rfl rfl T.z_isinstance (pem_var (pv 0)) (pa_cons (pe_bltn rfl T.z_list bt_list rfl) (pa_cons (pe_bltn rfl T.z_tuple bt_tuple rfl) pa_nil)) (by simp) (by decide)))) (pwm_or1 (ptm_cmp op_gt sim_gt (pem_callB call_len sim_len rfl T.z_len bt_len (pam_cons (pem_var (pv 0)) pam_nil)) (pem_c (pe_glob rfl T.g_MOST_PLACES.2 T.g_MOST_PLACES.1) fun _ => .int 40) (nomark _))))) (pssm_one (psm_ret (pem_tup (pam_cons pem_int (pam_cons pem_str pam_nil))))) pssm_nil)
    (pssm_cons (psm_set (i := 1) sc_entries_fault.nd rfl (Or.inl rfl) pem_int)
    (pssm_cons (psm_for (passes_of rfl) rfl (pim_enumA rfl rfl T.z_enumerate (pam_cons (pem_var (pv 0)) pam_nil)) (pgm_tup rfl rfl (PGN.cons (pg_name (i := 2) sc_entries_fault.nd rfl (Or.inl rfl)) rfl (PGN.cons (pg_name (i := 3) sc_entries_fault.nd rfl (Or.inl rfl)) rfl PGN.nil rfl) rfl)) (pssm_cons (psm_if (ptm_cmp op_isN sim_isN (pem_var (pv 3)) pem_non (nomark _)) (pssm_one psm_cont) pssm_nil)
    (pssm_cons (psm_if (PWm.pt (pwm_or (ptm_not (ptm_tru rfl (pem_isi1 T.isok rfl rfl T.z_isinstance (pem_var (pv 3)) (pe_bltn rfl T.z_int bt_int rfl)))) (pwm_or (ptm_tru rfl (pem_isi1 T.isok rfl rfl T.z_isinstance (pem_var (pv 3)) (pe_bltn rfl T.z_bool bt_bool rfl))) (pwm_or1 (ptm_cmp op_lt sim_lt (pem_var (pv 3)) pem_int (nomark _)))))) (pssm_one (psm_ret (pem_tup (pam_cons (pem_var (pv 2)) (pam_cons pem_str pam_nil))))) pssm_nil)
    (pssm_cons (psm_if (ptm_cmp op_gt sim_gt (pem_var (pv 3)) (pem_var (pv 1)) (nomark _)) (pssm_one (psm_ret (pem_tup (pam_cons (pem_var (pv 2)) (pam_cons pem_str pam_nil))))) pssm_nil)
    (pssm_one (psm_if (ptm_cmp (op_eqD hr.units) sim_eq (pem_var (pv 3)) (pem_var (pv 1)) (nomark _)) (pssm_one (psm_set (i := 1) sc_entries_fault.nd rfl (Or.inl rfl) (pem_op op_addAll sim_add (pem_var (pv 1)) pem_int))) pssm_nil))))))
    (pssm_one (psm_ret pem_non)))))
theorem ok_BadPattern___init (T : Txt K mg base a) : FnOk PW w K mg base (L2.CX PW w) 1 a.f_BadPattern___init a.d_BadPattern___init (["self", "index", "what"] : List Str) (spIni a.c_BadPattern (fldN 1)) := by
  obtain ⟨oc, od, osl, dV, kV, doc, pm, an, ct, e, l, cd⟩ := T.l_BadPattern
  rw [e] at l ⊢
  exact init_ok l cd T.S_BadPattern rfl rfl rfl (by decide) (by decide) (fun A outer s H E => ⟨_, (pa_cons pe_str pa_nil), fun σ H Q _ k => k _ (by simp)⟩) (fun A outer s H E => (.cons (pv 0) (pv 1) T.n_BadPattern_index rfl (.cons (pv 0) (pv 2) T.n_BadPattern_what rfl .nil)))
theorem sc_Pattern___init : FnScope (["self", "entries", "fault"] : List Str) (["self", "entries"] : List Str) (defScope s_Pattern___init) := ⟨rfl, rfl, rfl, by decide +kernel, rfl, by decide +kernel, by decide +kernel⟩
theorem ok_Pattern___init (T : Txt K mg base a) : FnOk PW w K mg base (L2.CX PW w) 3 a.f_Pattern___init a.d_Pattern___init (["self", "entries"] : List Str) (spOf (tb w K a) 2 m_Pattern___init) :=
  fund_okl T.F_Pattern___init sc_Pattern___init fun cdv A outer s H E hr =>
    (pssm_cons (psm_set (i := 2) sc_Pattern___init.nd rfl (Or.inl rfl) (pem_call (takes_of rfl rfl rfl rfl) (ok_entries_fault T) (hr.mono (by decide)) rfl T.m_entries_fault T.k_entries_fault T.b_entries_fault .nil (fun _ => .nil) rfl (pam_cons (pem_var (pv 1)) pam_nil)))
    (pssm_cons (psm_if (ptm_cmp op_notN sim_notN (pem_var (pv 2)) pem_non (nomark _)) (pssm_one (psm_raise (k := 1) rfl (takes_of rfl rfl rfl rfl) T.e_BadPattern T.ei_BadPattern T.et_BadPattern (ok_BadPattern___init T) (hr.mono (by decide)) T.b_BadPattern___init rfl T.c_BadPattern rfl (by decide) (pam_cons (pem_ix ix_seq sim_ix (pem_var (pv 2)) pem_int) (pam_cons (pem_ix ix_seq sim_ix (pem_var (pv 2)) pem_int) pam_nil)))) pssm_nil)
    (pssm_one (psm_fld rfl T.o_Pattern_entries (ps_fld (pem_var (pv 0)) (pem_callTy call_tuple_of sim_tuple rfl T.z_tuple bt_tuple (pam_cons (pem_var (pv 1)) pam_nil)) rfl)))))
theorem sc_u_law_pool : FnScope (["_law_hand_here", "_law_many", "_law_base", "_law_step", "_law_names", "_law_found", "_law_k"] : List Str) (["_law_hand_here", "_law_many"] : List Str) (defScope s_u_law_pool) := ⟨rfl, rfl, rfl, by decide +kernel, rfl, by decide +kernel, by decide +kernel⟩
theorem ok_u_law_pool (T : Txt K mg base a) : FnOk PW w K mg base (L2.CX PW w) 3 a.f_u_law_pool a.d_u_law_pool (["_law_hand_here", "_law_many"] : List Str) (spOf (tb w K a) 2 m_u_law_pool) :=
  fund_okm T.F_u_law_pool sc_u_law_pool fun cdv A outer s H E hr =>
    (pssm_cons (psm_asg (pem_tup (pam_cons (pem_call (takes_of rfl rfl rfl rfl) (ok_u_law_draw T) (hr.mono (by decide)) rfl T.m_u_law_draw T.k_u_law_draw T.b_u_law_draw .nil (fun _ => .nil) rfl (pam_cons (pem_var (pv 0)) (pam_cons pem_int pam_nil))) (pam_cons pem_int pam_nil))) (pgm_tup rfl rfl (PGN.cons (pg_name (i := 2) sc_u_law_pool.nd rfl (Or.inr rfl)) rfl (PGN.cons (pg_name (i := 3) sc_u_law_pool.nd rfl (Or.inr rfl)) rfl PGN.nil rfl) rfl)))
    (pssm_cons (psm_if (ptm_cmp (op_eqD hr.units) sim_eq (pem_call (takes_of rfl rfl rfl rfl) (ok_u_law_draw T) (hr.mono (by decide)) rfl T.m_u_law_draw T.k_u_law_draw T.b_u_law_draw .nil (fun _ => .nil) rfl (pam_cons (pem_var (pv 0)) (pam_cons pem_int pam_nil))) pem_int (nomark _)) (pssm_one (psm_asg (pem_tup (pam_cons (pem_call (takes_of rfl rfl rfl rfl) (ok_u_law_draw T) (hr.mono (by decide)) rfl T.m_u_law_draw T.k_u_law_draw T.b_u_law_draw .nil (fun _ => .nil) rfl (pam_cons (pem_var (pv 0)) (pam_cons (pem_op op_pow sim_pow pem_int pem_int) pam_nil))) (pam_cons (pem_op op_addAll sim_add pem_int (pem_call (takes_of rfl rfl rfl rfl) (ok_u_law_draw T) (hr.mono (by decide)) rfl T.m_u_law_draw T.k_u_law_draw T.b_u_law_draw .nil (fun _ => .nil) rfl (pam_cons (pem_var (pv 0)) (pam_cons (pem_op op_pow sim_pow pem_int pem_int) pam_nil)))) pam_nil))) (pgm_tup rfl rfl (PGN.cons (pg_name (i := 2) sc_u_law_pool.nd rfl (Or.inr rfl)) rfl (PGN.cons (pg_name (i := 3) sc_u_law_pool.nd rfl (Or.inr rfl)) rfl PGN.nil rfl) rfl)))) pssm_nil)
    (pssm_cons (psm_setLc (own := [("_law_k", 6)]) (fun _ _ _ h => h) rfl sc_u_law_pool.nd rfl rfl rfl (pim_range1 rfl T.z_range (pam_cons (pem_var (pv 1)) pam_nil)) (show BlkOk (["_law_hand_here", "_law_many", "_law_base", "_law_step", "_law_names", "_law_found", "_law_k"] : List Str) (defScope s_u_law_pool) _ [("_law_k", 6)] from ⟨rfl, by decide +kernel, by decide +kernel, by decide +kernel, by decide +kernel⟩) (fun _ _ _ _ _ => (pg_name (i := 6) sc_u_law_pool.nd rfl (Or.inl rfl))) (gr_name rfl) (gw_name (by decide)) (fun _ _ _ _ _ => (ptsm_nil (σ := ()))) (fun _ _ _ _ _ => (pem_op op_addAll sim_add (pem_var (pv 2)) (pem_op op_mulAll sim_mul (pem_var (pv 3)) (pem_var (pv 6))))))
    (pssm_cons (psm_set (i := 5) sc_u_law_pool.nd rfl (Or.inl rfl) (pem_lst pam_nil))
    (pssm_cons (psm_for (passes_of rfl) rfl (pim_range1 rfl T.z_range (pam_cons (pem_var (pv 1)) pam_nil)) (pgm_name (pg_name (i := 6) sc_u_law_pool.nd rfl (Or.inl rfl))) (pssm_one (psm_expr (pem_bm sim_app (pe_bm PySem.F.plainAttrs_list PySem.F.slot_list_append PySem.F.type_list_append mt_append (pem_var (pv 5)) (pam_cons (pem_bm sim_popAt (pe_bm PySem.F.plainAttrs_list PySem.F.slot_list_pop PySem.F.type_list_pop mt_popAt (pem_var (pv 4)) (pam_cons (pem_call (takes_of rfl rfl rfl rfl) (ok_u_law_draw T) (hr.mono (by decide)) rfl T.m_u_law_draw T.k_u_law_draw T.b_u_law_draw .nil (fun _ => .nil) rfl (pam_cons (pem_var (pv 0)) (pam_cons (pem_callB call_len sim_len rfl T.z_len bt_len (pam_cons (pem_var (pv 4)) pam_nil)) pam_nil))) pam_nil))) pam_nil))))))
    (pssm_one (psm_ret (pem_var (pv 5)))))))))
theorem sc_u_law_count : FnScope (["_law_entries_here", "_law_entry"] : List Str) (["_law_entries_here"] : List Str) (defScope s_u_law_count) := ⟨rfl, rfl, rfl, by decide +kernel, rfl, by decide +kernel, by decide +kernel⟩
theorem ok_u_law_count (T : Txt K mg base a) : FnOk PW w K mg base (L2.CX PW w) 1 a.f_u_law_count a.d_u_law_count (["_law_entries_here"] : List Str) (spOf (tb w K a) 1 m_u_law_count) :=
  fund_okm T.F_u_law_count sc_u_law_count fun cdv A outer s H E hr =>
    (pssm_one (psm_ret (pem_op op_addAll sim_add pem_int (pem_callB (cr_max rfl) sim_maxL rfl T.z_max PyProof.Rows.Boot.«max» (pam_cons (pem_scope (pem_op op_addAll sim_add (pem_scope (pem_lst (pam_cons (pem_un un_neg sim_neg pem_int) pam_nil))) (pem_scope (pem_comp (own := [("_law_entry", 1)]) rfl sc_u_law_count.nd (pim_seq rfl (pem_var (pv 0))) (show BlkOk (["_law_entries_here", "_law_entry"] : List Str) (defScope s_u_law_count) _ [("_law_entry", 1)] from ⟨rfl, by decide +kernel, by decide +kernel, by decide +kernel, by decide +kernel⟩) (fun _ _ _ _ _ => (pg_name (i := 1) sc_u_law_count.nd rfl (Or.inl rfl))) (gr_name rfl) (gw_name (by decide)) (fun _ _ _ _ _ => (ptsm_one (ptm_cmp op_notN sim_notN (pem_var (pv 1)) pem_non (nomark _)))) (fun _ _ _ _ _ => (pem_var (pv 1))))))) pam_nil)))))
theorem sc_is_whole : FnScope (["thing", "low", "high"] : List Str) (["thing", "low", "high"] : List Str) (defScope s_is_whole) := ⟨rfl, rfl, rfl, by decide +kernel, rfl, by decide +kernel, by decide +kernel⟩
theorem ok_is_whole (T : Txt K mg base a) : FnOk PW w K mg base (L2.CX PW w) 1 a.f_is_whole a.d_is_whole (["thing", "low", "high"] : List Str) (spOf (tb w K a) 3 m_is_whole) :=
  fund_okm T.F_is_whole sc_is_whole fun cdv A outer s H E hr =>
    (pssm_one (psm_ret (pem_and (pem_isi1 T.isok rfl rfl T.z_isinstance (pem_var (pv 0)) (pe_bltn rfl T.z_int bt_int rfl)) (pem_and (pem_not (pem_isi1 T.isok rfl rfl T.z_isinstance (pem_var (pv 0)) (pe_bltn rfl T.z_bool bt_bool rfl))) (pem_one (pem_chain op_le sim_le op_le sim_le (pem_var (pv 1)) (pem_var (pv 0)) (pem_var (pv 2))))))))
theorem sc_is_name : FnScope (["thing"] : List Str) (["thing"] : List Str) (defScope s_is_name) := ⟨rfl, rfl, rfl, by decide +kernel, rfl, by decide +kernel, by decide +kernel⟩
theorem ok_is_name (T : Txt K mg base a) : FnOk PW w K mg base (L2.CX PW w) 2 a.f_is_name a.d_is_name (["thing"] : List Str) (spOf (tb w K a) 1 m_is_name) :=
  fund_okm T.F_is_name sc_is_name fun cdv A outer s H E hr =>
    (pssm_one (psm_ret (pem_call (takes_of rfl rfl rfl rfl) (ok_is_whole T) (hr.mono (by decide)) rfl T.m_is_whole T.k_is_whole T.b_is_whole .nil (fun _ => .nil) rfl (pam_cons (pem_var (pv 0)) (pam_cons pem_int (pam_cons (pem_c (pe_glob rfl T.g_MOST_NAME.2 T.g_MOST_NAME.1) fun _ => .int 1000000000000000000000000000000) pam_nil))))))
theorem sc_names_fault : FnScope (["thing", "at", "name"] : List Str) (["thing"] : List Str) (defScope s_names_fault) := ⟨rfl, rfl, rfl, by decide +kernel, rfl, by decide +kernel, by decide +kernel⟩
theorem ok_names_fault (T : Txt K mg base a) : FnOk PW w K mg base (L2.CX PW w) 3 a.f_names_fault a.d_names_fault (["thing"] : List Str) (spOf (tb w K a) 1 m_names_fault) :=
  fund_okm T.F_names_fault sc_names_fault fun cdv A outer s H E hr =>
    (pssm_cons (psm_if (PWm.pt (pwm_or (ptm_not (ptm_tru rfl (pem_isiT T.isok rfl rfl T.z_isinstance (pem_var (pv 0)) (pa_cons (pe_bltn rfl T.z_list bt_list rfl) (pa_cons (pe_bltn rfl T.z_tuple bt_tuple rfl) pa_nil)) (by simp) (by decide)))) (pwm_or1 (ptm_cmp op_gt sim_gt (pem_callB call_len sim_len rfl T.z_len bt_len (pam_cons (pem_var (pv 0)) pam_nil)) (pem_c (pe_glob rfl T.g_MOST_PLACES.2 T.g_MOST_PLACES.1) fun _ => .int 40) (nomark _))))) (pssm_one (psm_ret (pem_tup (pam_cons pem_int (pam_cons pem_str pam_nil))))) pssm_nil)
    (pssm_cons (psm_for (passes_of rfl) rfl (pim_enumA rfl rfl T.z_enumerate (pam_cons (pem_var (pv 0)) pam_nil)) (pgm_tup rfl rfl (PGN.cons (pg_name (i := 1) sc_names_fault.nd rfl (Or.inl rfl)) rfl (PGN.cons (pg_name (i := 2) sc_names_fault.nd rfl (Or.inl rfl)) rfl PGN.nil rfl) rfl)) (pssm_one (psm_if (PWm.pt (pwm_and (ptm_cmp op_notN sim_notN (pem_var (pv 2)) pem_non (nomark _)) (pwm_and1 (ptm_not (ptm_tru rfl (pem_call (takes_of rfl rfl rfl rfl) (ok_is_name T) (hr.mono (by decide)) rfl T.m_is_name T.k_is_name T.b_is_name .nil (fun _ => .nil) rfl (pam_cons (pem_var (pv 2)) pam_nil))))))) (pssm_one (psm_ret (pem_tup (pam_cons (pem_var (pv 1)) (pam_cons pem_str pam_nil))))) pssm_nil)))
    (pssm_one (psm_ret pem_non))))
theorem ok_BadNames___init (T : Txt K mg base a) : FnOk PW w K mg base (L2.CX PW w) 1 a.f_BadNames___init a.d_BadNames___init (["self", "index", "what"] : List Str) (spIni a.c_BadNames (fldN 2)) := by
  obtain ⟨oc, od, osl, dV, kV, doc, pm, an, ct, e, l, cd⟩ := T.l_BadNames
  rw [e] at l ⊢
  exact init_ok l cd T.S_BadNames rfl rfl rfl (by decide) (by decide) (fun A outer s H E => ⟨_, (pa_cons pe_str pa_nil), fun σ H Q _ k => k _ (by simp)⟩) (fun A outer s H E => (.cons (pv 0) (pv 1) T.n_BadNames_index rfl (.cons (pv 0) (pv 2) T.n_BadNames_what rfl .nil)))
theorem sc_check_names : FnScope (["thing", "fault"] : List Str) (["thing"] : List Str) (defScope s_check_names) := ⟨rfl, rfl, rfl, by decide +kernel, rfl, by decide +kernel, by decide +kernel⟩
theorem ok_check_names (T : Txt K mg base a) : FnOk PW w K mg base (L2.CX PW w) 4 a.f_check_names a.d_check_names (["thing"] : List Str) (spOf (tb w K a) 1 m_check_names) :=
  fund_okm T.F_check_names sc_check_names fun cdv A outer s H E hr =>
    (pssm_cons (psm_set (i := 1) sc_check_names.nd rfl (Or.inl rfl) (pem_call (takes_of rfl rfl rfl rfl) (ok_names_fault T) (hr.mono (by decide)) rfl T.m_names_fault T.k_names_fault T.b_names_fault .nil (fun _ => .nil) rfl (pam_cons (pem_var (pv 0)) pam_nil)))
    (pssm_one (psm_if (ptm_cmp op_notN sim_notN (pem_var (pv 1)) pem_non (nomark _)) (pssm_one (psm_raise (k := 2) rfl (takes_of rfl rfl rfl rfl) T.e_BadNames T.ei_BadNames T.et_BadNames (ok_BadNames___init T) (hr.mono (by decide)) T.b_BadNames___init rfl T.c_BadNames rfl (by decide) (pam_cons (pem_ix ix_seq sim_ix (pem_var (pv 1)) pem_int) (pam_cons (pem_ix ix_seq sim_ix (pem_var (pv 1)) pem_int) pam_nil)))) pssm_nil)))
theorem sc_class_numbers : FnScope (["things", "numbers", "found", "thing"] : List Str) (["things"] : List Str) (defScope s_class_numbers) := ⟨rfl, rfl, rfl, by decide +kernel, rfl, by decide +kernel, by decide +kernel⟩
theorem ok_class_numbers (T : Txt K mg base a) : FnOk PW w K mg base (L2.CX PW w) 1 a.f_class_numbers a.d_class_numbers (["things"] : List Str) (spOf (tb w K a) 1 m_class_numbers) :=
  fund_okm T.F_class_numbers sc_class_numbers fun cdv A outer s H E hr =>
    (pssm_cons (psm_set (i := 1) sc_class_numbers.nd rfl (Or.inl rfl) pem_dict)
    (pssm_cons (psm_set (i := 2) sc_class_numbers.nd rfl (Or.inl rfl) (pem_lst pam_nil))
    (pssm_cons (psm_for (passes_of rfl) rfl (pim_seq rfl (pem_var (pv 0))) (pgm_name (pg_name (i := 3) sc_class_numbers.nd rfl (Or.inl rfl))) (pssm_cons (psm_if (PWm.pt (pwm_and (ptm_cmp op_notN sim_notN (pem_var (pv 3)) pem_non (nomark _)) (pwm_and1 (ptm_pc (pcm_dnotin (units1 hr) (pem_var (pv 3)) (pem_var (pv 1))))))) (pssm_one (psm_dput (ps_dput (units1 hr) (pem_var (pv 1)) (pem_var (pv 3)) (pem_callB call_lenO (sim_lenO (T := (tb w K a))) rfl T.z_len bt_len (pam_cons (pem_var (pv 1)) pam_nil)) rfl))) pssm_nil)
    (pssm_one (psm_expr (pem_bm sim_app (pe_bm PySem.F.plainAttrs_list PySem.F.slot_list_append PySem.F.type_list_append mt_append (pem_var (pv 2)) (pam_cons (pem_ifExp (ptm_cmp op_isN sim_isN (pem_var (pv 3)) pem_non (nomark _)) pem_non (pem_dget (units1 hr) (pem_var (pv 1)) (pem_var (pv 3)) fun _ _ => rfl)) pam_nil)))))))
    (pssm_one (psm_ret (pem_callTy call_tuple_of sim_tuple rfl T.z_tuple bt_tuple (pam_cons (pem_var (pv 2)) pam_nil)))))))
theorem sc_first_difference : FnScope (["pattern", "names", "place", "number"] : List Str) (["pattern", "names"] : List Str) (defScope s_first_difference) := ⟨rfl, rfl, rfl, by decide +kernel, rfl, by decide +kernel, by decide +kernel⟩
theorem ok_first_difference (T : Txt K mg base a) : FnOk PW w K mg base (L2.CX PW w) 5 a.f_first_difference a.d_first_difference (["pattern", "names"] : List Str) (spOf (tb w K a) 2 m_first_difference) :=
  fund_okm T.F_first_difference sc_first_difference fun cdv A outer s H E hr =>
    (pssm_cons (psm_expr (pem_call (takes_of rfl rfl rfl rfl) (ok_check_names T) (hr.mono (by decide)) rfl T.m_check_names T.k_check_names T.b_check_names .nil (fun _ => .nil) rfl (pam_cons (pem_var (pv 1)) pam_nil)))
    (pssm_cons (psm_if (ptm_cmp (op_neD hr.units) sim_ne (pem_callB call_len sim_len rfl T.z_len bt_len (pam_cons (pem_var (pv 1)) pam_nil)) (pem_callB call_len sim_len rfl T.z_len bt_len (pam_cons (pem_fld rfl T.o_Pattern_entries (pe_fld (pem_var (pv 0)) rfl)) pam_nil)) (nomark _)) (pssm_one (psm_raise (k := 2) rfl (takes_of rfl rfl rfl rfl) T.e_BadNames T.ei_BadNames T.et_BadNames (ok_BadNames___init T) (hr.mono (by decide)) T.b_BadNames___init rfl T.c_BadNames rfl (by decide) (pam_cons (pem_callB call_len sim_len rfl T.z_len bt_len (pam_cons (pem_var (pv 1)) pam_nil)) (pam_cons pem_str pam_nil)))) pssm_nil)
    (pssm_cons (psm_for (passes_of rfl) rfl (pim_enumA rfl rfl T.z_enumerate (pam_cons (pem_call (takes_of rfl rfl rfl rfl) (ok_class_numbers T) (hr.mono (by decide)) rfl T.m_class_numbers T.k_class_numbers T.b_class_numbers .nil (fun _ => .nil) rfl (pam_cons (pem_var (pv 1)) pam_nil)) pam_nil)) (pgm_tup rfl rfl (PGN.cons (pg_name (i := 2) sc_first_difference.nd rfl (Or.inl rfl)) rfl (PGN.cons (pg_name (i := 3) sc_first_difference.nd rfl (Or.inl rfl)) rfl PGN.nil rfl) rfl)) (pssm_one (psm_if (ptm_cmp (op_neD hr.units) sim_ne (pem_var (pv 3)) (pem_ix ix_seq sim_ix (pem_fld rfl T.o_Pattern_entries (pe_fld (pem_var (pv 0)) rfl)) (pem_var (pv 2))) (nomark _)) (pssm_one (psm_ret (pem_var (pv 2)))) pssm_nil)))
    (pssm_one (psm_ret pem_non)))))
theorem sc_u_law_numbers : FnScope (["_law_things", "_law_met", "_law_found", "_law_thing"] : List Str) (["_law_things"] : List Str) (defScope s_u_law_numbers) := ⟨rfl, rfl, rfl, by decide +kernel, rfl, by decide +kernel, by decide +kernel⟩
theorem ok_u_law_numbers (T : Txt K mg base a) : FnOk PW w K mg base (L2.CX PW w) 1 a.f_u_law_numbers a.d_u_law_numbers (["_law_things"] : List Str) (spOf (tb w K a) 1 m_u_law_numbers) :=
  fund_okm T.F_u_law_numbers sc_u_law_numbers fun cdv A outer s H E hr =>
    (pssm_cons (psm_par (i := 1) (j := 2) rfl sc_u_law_numbers.nd rfl rfl (by decide) rfl rfl (pam_cons (pem_lst pam_nil) (pam_cons (pem_lst pam_nil) pam_nil)) rfl)
    (pssm_cons (psm_for (passes_of rfl) rfl (pim_seq rfl (pem_var (pv 0))) (pgm_name (pg_name (i := 3) sc_u_law_numbers.nd rfl (Or.inl rfl))) (pssm_cons (psm_if (PWm.pt (pwm_and (ptm_cmp op_notN sim_notN (pem_var (pv 3)) pem_non (nomark _)) (pwm_and1 (ptm_cmp (op_notInDT (units65 hr)) sim_inD (pem_var (pv 3)) (pem_var (pv 1)) (by rfl))))) (pssm_one (psm_expr (pem_bm sim_app (pe_bm PySem.F.plainAttrs_list PySem.F.slot_list_append PySem.F.type_list_append mt_append (pem_var (pv 1)) (pam_cons (pem_var (pv 3)) pam_nil))))) pssm_nil)
    (pssm_one (psm_expr (pem_bm sim_app (pe_bm PySem.F.plainAttrs_list PySem.F.slot_list_append PySem.F.type_list_append mt_append (pem_var (pv 2)) (pam_cons (pem_ifExp (ptm_cmp op_isN sim_isN (pem_var (pv 3)) pem_non (nomark _)) pem_non (pem_bm sim_index (pe_bm PySem.F.plainAttrs_list PySem.F.slot_list_index PySem.F.type_list_index (mt_indexD (units65 hr)) (pem_var (pv 1)) (pam_cons (pem_var (pv 3)) pam_nil)))) pam_nil)))))))
    (pssm_one (psm_ret (pem_var (pv 2))))))
theorem sc_u_law_differs : FnScope (["_law_one", "_law_other", "_law_first", "_law_second", "_law_at"] : List Str) (["_law_one", "_law_other"] : List Str) (defScope s_u_law_differs) := ⟨rfl, rfl, rfl, by decide +kernel, rfl, by decide +kernel, by decide +kernel⟩
theorem ok_u_law_differs (T : Txt K mg base a) : FnOk PW w K mg base (L2.CX PW w) 2 a.f_u_law_differs a.d_u_law_differs (["_law_one", "_law_other"] : List Str) (spOf (tb w K a) 2 m_u_law_differs) :=
  fund_okm T.F_u_law_differs sc_u_law_differs fun cdv A outer s H E hr =>
    (pssm_cons (psm_par (i := 2) (j := 3) rfl sc_u_law_differs.nd rfl rfl (by decide) rfl rfl (pam_cons (pem_call (takes_of rfl rfl rfl rfl) (ok_u_law_numbers T) (hr.mono (by decide)) rfl T.m_u_law_numbers T.k_u_law_numbers T.b_u_law_numbers .nil (fun _ => .nil) rfl (pam_cons (pem_var (pv 0)) pam_nil)) (pam_cons (pem_call (takes_of rfl rfl rfl rfl) (ok_u_law_numbers T) (hr.mono (by decide)) rfl T.m_u_law_numbers T.k_u_law_numbers T.b_u_law_numbers .nil (fun _ => .nil) rfl (pam_cons (pem_var (pv 1)) pam_nil)) pam_nil)) rfl)
    (pssm_cons (psm_for (passes_of rfl) rfl (pim_range1 rfl T.z_range (pam_cons (pem_callB call_len sim_len rfl T.z_len bt_len (pam_cons (pem_var (pv 2)) pam_nil)) pam_nil)) (pgm_name (pg_name (i := 4) sc_u_law_differs.nd rfl (Or.inl rfl))) (pssm_one (psm_if (ptm_cmp (op_neD hr.units) sim_ne (pem_ix ix_seq sim_ix (pem_var (pv 2)) (pem_var (pv 4))) (pem_ix ix_seq sim_ix (pem_var (pv 3)) (pem_var (pv 4))) (nomark _)) (pssm_one (psm_ret (pem_var (pv 4)))) pssm_nil)))
    (pssm_one (psm_ret pem_non))))
theorem sc_u_law_odd : FnScope (["_law_hand_here", "_law_names", "_law_word_pool", "_law_odd_here", "_law_at"] : List Str) (["_law_hand_here", "_law_names", "_law_word_pool"] : List Str) (defScope s_u_law_odd) := ⟨rfl, rfl, rfl, by decide +kernel, rfl, by decide +kernel, by decide +kernel⟩
theorem ok_u_law_odd (T : Txt K mg base a) : FnOk PW w K mg base (L2.CX PW w) 4 a.f_u_law_odd a.d_u_law_odd (["_law_hand_here", "_law_names", "_law_word_pool"] : List Str) (spOf (tb w K a) 3 m_u_law_odd) :=
  fund_okm T.F_u_law_odd sc_u_law_odd fun cdv A outer s H E hr =>
    (pssm_cons (psm_par (i := 3) (j := 4) rfl sc_u_law_odd.nd rfl rfl (by decide) rfl rfl (pam_cons (pem_callTy call_list_of sim_list rfl T.z_list bt_list (pam_cons (pem_var (pv 1)) pam_nil)) (pam_cons (pem_call (takes_of rfl rfl rfl rfl) (ok_u_law_draw T) (hr.mono (by decide)) rfl T.m_u_law_draw T.k_u_law_draw T.b_u_law_draw .nil (fun _ => .nil) rfl (pam_cons (pem_var (pv 0)) (pam_cons (pem_op op_addAll sim_add (pem_callB call_len sim_len rfl T.z_len bt_len (pam_cons (pem_var (pv 1)) pam_nil)) pem_int) pam_nil))) pam_nil)) rfl)
    (pssm_cons (psm_expr (pem_bm sim_ins (pe_bm PySem.F.plainAttrs_list PySem.F.slot_list_insert PySem.F.type_list_insert mt_insert (pem_var (pv 3)) (pam_cons (pem_var (pv 4)) (pam_cons (pem_call (takes_of rfl rfl rfl rfl) (ok_u_law_pick T) (hr.mono (by decide)) rfl T.m_u_law_pick T.k_u_law_pick T.b_u_law_pick .nil (fun _ => .nil) rfl (pam_cons (pem_var (pv 0)) (pam_cons (pem_var (pv 2)) pam_nil))) pam_nil)))))
    (pssm_one (psm_ret (pem_tup (pam_cons (pem_frz (pem_var (pv 3))) (pam_cons (pem_var (pv 4)) pam_nil)))))))
theorem sc_u_law_told : FnScope (["_law_call", "_law_told_here", "_law_found", "e"] : List Str) (["_law_call"] : List Str) (defScope s_u_law_told) := ⟨rfl, rfl, rfl, by decide +kernel, rfl, by decide +kernel, by decide +kernel⟩
theorem told_u_law_told (T : Txt K mg base a) {X : Cx} (hK : X.K = K := by rfl) (hm : X.mg = mg := by rfl) {cdv : Value} {q : Str} : GivesTo3 X (["_law_call", "_law_told_here", "_law_found", "e"] : List Str) q (defScope s_u_law_told) a.f_u_law_told cdv (defBody s_u_law_told) "_law_call" (TTold X.K [(a.c_BadNames, [.c "names", .f "index", .f "what"]), (a.c_NoRenaming, [.c "place", .f "place"])]) := by
  subst hK hm
  exact told_gives sc_u_law_told.nd rfl rfl rfl (by decide) (by decide) (by decide) (by decide) (fun s H => ps_asg (pe_tup (pa_cons pe_non (pa_cons pe_non pa_nil))) (pg_tup rfl (pgs_cons (pg_name (i := 1) sc_u_law_told.nd rfl (.inl rfl)) (pgs_cons (pg_name (i := 2) sc_u_law_told.nd rfl (.inl rfl)) pgs_nil)))) (fun s H => (.cons ⟨rfl, by decide, Or.inl T.c_BadNames⟩ (fun ax oe cls dx pn hz hv => pss_one (ps_asg (pe_tup (pa_cons pe_str (pa_cons (pe_xf T.x_BadNames T.n_BadNames_index hz hv (pe_var (i := 3) rfl (.inl rfl))) (pa_cons (pe_xf T.x_BadNames T.n_BadNames_what hz hv (pe_var (i := 3) rfl (.inl rfl))) pa_nil)))) (pg_name sc_u_law_told.nd rfl (.inl rfl)))) (.cons ⟨rfl, by decide, Or.inl T.c_NoRenaming⟩ (fun ax oe cls dx pn hz hv => pss_one (ps_asg (pe_tup (pa_cons pe_str (pa_cons (pe_xf T.x_NoRenaming T.n_NoRenaming_place hz hv (pe_var (i := 3) rfl (.inl rfl))) pa_nil))) (pg_name sc_u_law_told.nd rfl (.inl rfl)))) .nil)))
theorem toldR_u_law_told (T : Txt K mg base a) : HsRel K (tb w K a) [(a.c_BadNames, [.c "names", .f "index", .f "what"]), (a.c_NoRenaming, [.c "place", .f "place"])] hs_u_law_told := (.cons 2 rfl rfl (one_of (by decide)) T.exm_BadNames (show (fldN 2).Nodup by decide +kernel) (.cons rfl (.cons rfl (.cons rfl .nil))) (by decide) (.cons 4 rfl rfl (one_of (by decide)) T.exm_NoRenaming (show (fldN 4).Nodup by decide +kernel) (.cons rfl (.cons rfl .nil)) (by decide) .nil))
theorem ok_NoRenaming___init (T : Txt K mg base a) : FnOk PW w K mg base (L2.CX PW w) 1 a.f_NoRenaming___init a.d_NoRenaming___init (["self", "place"] : List Str) (spIni a.c_NoRenaming (fldN 4)) := by
  obtain ⟨oc, od, osl, dV, kV, doc, pm, an, ct, e, l, cd⟩ := T.l_NoRenaming
  rw [e] at l ⊢
  exact init_ok l cd T.S_NoRenaming rfl rfl rfl (by decide) (by decide) (fun A outer s H E => ⟨_, (pa_cons pe_str pa_nil), fun σ H Q _ k => k _ (by simp)⟩) (fun A outer s H E => (.cons (pv 0) (pv 1) T.n_NoRenaming_place rfl .nil))
theorem sc_renaming_of : FnScope (["one", "other", "pairs", "numbers", "place", "number"] : List Str) (["one", "other"] : List Str) (defScope s_renaming_of) := ⟨rfl, rfl, rfl, by decide +kernel, rfl, by decide +kernel, by decide +kernel⟩
theorem ok_renaming_of (T : Txt K mg base a) : FnOk PW w K mg base (L2.CX PW w) 5 a.f_renaming_of a.d_renaming_of (["one", "other"] : List Str) (spOf (tb w K a) 2 m_renaming_of) :=
  fund_okm T.F_renaming_of sc_renaming_of fun cdv A outer s H E hr =>
    (pssm_cons (psm_expr (pem_call (takes_of rfl rfl rfl rfl) (ok_check_names T) (hr.mono (by decide)) rfl T.m_check_names T.k_check_names T.b_check_names .nil (fun _ => .nil) rfl (pam_cons (pem_var (pv 0)) pam_nil)))
    (pssm_cons (psm_expr (pem_call (takes_of rfl rfl rfl rfl) (ok_check_names T) (hr.mono (by decide)) rfl T.m_check_names T.k_check_names T.b_check_names .nil (fun _ => .nil) rfl (pam_cons (pem_var (pv 1)) pam_nil)))
    (pssm_cons (psm_set (i := 2) sc_renaming_of.nd rfl (Or.inl rfl) (pem_lst pam_nil))
    (pssm_cons (psm_set (i := 3) sc_renaming_of.nd rfl (Or.inl rfl) (pem_call (takes_of rfl rfl rfl rfl) (ok_class_numbers T) (hr.mono (by decide)) rfl T.m_class_numbers T.k_class_numbers T.b_class_numbers .nil (fun _ => .nil) rfl (pam_cons (pem_var (pv 0)) pam_nil)))
    (pssm_cons (psm_for (passes_of rfl) rfl (pim_enumA rfl rfl T.z_enumerate (pam_cons (pem_call (takes_of rfl rfl rfl rfl) (ok_class_numbers T) (hr.mono (by decide)) rfl T.m_class_numbers T.k_class_numbers T.b_class_numbers .nil (fun _ => .nil) rfl (pam_cons (pem_var (pv 1)) pam_nil)) pam_nil)) (pgm_tup rfl rfl (PGN.cons (pg_name (i := 4) sc_renaming_of.nd rfl (Or.inl rfl)) rfl (PGN.cons (pg_name (i := 5) sc_renaming_of.nd rfl (Or.inl rfl)) rfl PGN.nil rfl) rfl)) (pssm_cons (psm_if (PWm.pt (pwm_or (ptm_cmp op_ge sim_ge (pem_var (pv 4)) (pem_callB call_len sim_len rfl T.z_len bt_len (pam_cons (pem_var (pv 0)) pam_nil)) (nomark _)) (pwm_or1 (ptm_cmp (op_neD hr.units) sim_ne (pem_ix ix_seq sim_ix (pem_var (pv 3)) (pem_var (pv 4))) (pem_var (pv 5)) (nomark _))))) (pssm_one (psm_raise (k := 4) rfl (takes_of rfl rfl rfl rfl) T.e_NoRenaming T.ei_NoRenaming T.et_NoRenaming (ok_NoRenaming___init T) (hr.mono (by decide)) T.b_NoRenaming___init rfl T.c_NoRenaming rfl (by decide) (pam_cons (pem_var (pv 4)) pam_nil))) pssm_nil)
    (pssm_one (psm_if (ptm_cmp (op_eqD hr.units) sim_eq (pem_var (pv 5)) (pem_callB call_len sim_len rfl T.z_len bt_len (pam_cons (pem_var (pv 2)) pam_nil)) (nomark _)) (pssm_one (psm_expr (pem_bm sim_app (pe_bm PySem.F.plainAttrs_list PySem.F.slot_list_append PySem.F.type_list_append mt_append (pem_var (pv 2)) (pam_cons (pem_tup (pam_cons (pem_ix ix_seq sim_ix (pem_var (pv 0)) (pem_var (pv 4))) (pam_cons (pem_ix ix_seq sim_ix (pem_var (pv 1)) (pem_var (pv 4))) pam_nil))) pam_nil))))) pssm_nil))))
    (pssm_cons (psm_if (ptm_cmp op_gt sim_gt (pem_callB call_len sim_len rfl T.z_len bt_len (pam_cons (pem_var (pv 0)) pam_nil)) (pem_callB call_len sim_len rfl T.z_len bt_len (pam_cons (pem_var (pv 1)) pam_nil)) (nomark _)) (pssm_one (psm_raise (k := 4) rfl (takes_of rfl rfl rfl rfl) T.e_NoRenaming T.ei_NoRenaming T.et_NoRenaming (ok_NoRenaming___init T) (hr.mono (by decide)) T.b_NoRenaming___init rfl T.c_NoRenaming rfl (by decide) (pam_cons (pem_callB call_len sim_len rfl T.z_len bt_len (pam_cons (pem_var (pv 1)) pam_nil)) pam_nil))) pssm_nil)
    (pssm_one (psm_ret (pem_callTy call_tuple_of sim_tuple rfl T.z_tuple bt_tuple (pam_cons (pem_var (pv 2)) pam_nil))))))))))
theorem sc_check_unlike_names : FnScope (["thing", "at", "name"] : List Str) (["thing"] : List Str) (defScope s_check_unlike_names) := ⟨rfl, rfl, rfl, by decide +kernel, rfl, by decide +kernel, by decide +kernel⟩
theorem ok_check_unlike_names (T : Txt K mg base a) : FnOk PW w K mg base (L2.CX PW w) 3 a.f_check_unlike_names a.d_check_unlike_names (["thing"] : List Str) (spOf (tb w K a) 1 m_check_unlike_names) :=
  fund_okm T.F_check_unlike_names sc_check_unlike_names fun cdv A outer s H E hr =>
    (pssm_cons (psm_if (PWm.pt (pwm_or (ptm_not (ptm_tru rfl (pem_isiT T.isok rfl rfl T.z_isinstance (pem_var (pv 0)) (pa_cons (pe_bltn rfl T.z_list bt_list rfl) (pa_cons (pe_bltn rfl T.z_tuple bt_tuple rfl) pa_nil)) (by simp) (by decide)))) (pwm_or1 (ptm_cmp op_gt sim_gt (pem_callB call_len sim_len rfl T.z_len bt_len (pam_cons (pem_var (pv 0)) pam_nil)) (pem_c (pe_glob rfl T.g_MOST_PLACES.2 T.g_MOST_PLACES.1) fun _ => .int 40) (nomark _))))) (pssm_one (psm_raise (k := 2) rfl (takes_of rfl rfl rfl rfl) T.e_BadNames T.ei_BadNames T.et_BadNames (ok_BadNames___init T) (hr.mono (by decide)) T.b_BadNames___init rfl T.c_BadNames rfl (by decide) (pam_cons pem_int (pam_cons pem_str pam_nil)))) pssm_nil)
    (pssm_one (psm_for (passes_of rfl) rfl (pim_enumA rfl rfl T.z_enumerate (pam_cons (pem_var (pv 0)) pam_nil)) (pgm_tup rfl rfl (PGN.cons (pg_name (i := 1) sc_check_unlike_names.nd rfl (Or.inl rfl)) rfl (PGN.cons (pg_name (i := 2) sc_check_unlike_names.nd rfl (Or.inl rfl)) rfl PGN.nil rfl) rfl)) (pssm_cons (psm_if (ptm_not (ptm_tru rfl (pem_call (takes_of rfl rfl rfl rfl) (ok_is_name T) (hr.mono (by decide)) rfl T.m_is_name T.k_is_name T.b_is_name .nil (fun _ => .nil) rfl (pam_cons (pem_var (pv 2)) pam_nil)))) (pssm_one (psm_raise (k := 2) rfl (takes_of rfl rfl rfl rfl) T.e_BadNames T.ei_BadNames T.et_BadNames (ok_BadNames___init T) (hr.mono (by decide)) T.b_BadNames___init rfl T.c_BadNames rfl (by decide) (pam_cons (pem_var (pv 1)) (pam_cons pem_str pam_nil)))) pssm_nil)
    (pssm_one (psm_if (ptm_cmp op_in_seq sim_in (pem_var (pv 2)) (pem_scope (pem_sl rfl (pem_var (pv 0)) pom_none (pom_some (pem_var (pv 1))))) (by rfl)) (pssm_one (psm_raise (k := 2) rfl (takes_of rfl rfl rfl rfl) T.e_BadNames T.ei_BadNames T.et_BadNames (ok_BadNames___init T) (hr.mono (by decide)) T.b_BadNames___init rfl T.c_BadNames rfl (by decide) (pam_cons (pem_var (pv 1)) (pam_cons pem_str pam_nil)))) pssm_nil))))))
theorem sc_Pattern_class_count : FnScope (["self", "entry"] : List Str) (["self"] : List Str) (defScope s_Pattern_class_count) := ⟨rfl, rfl, rfl, by decide +kernel, rfl, by decide +kernel, by decide +kernel⟩
theorem ok_Pattern_class_count (T : Txt K mg base a) : FnOk PW w K mg base (L2.CX PW w) 1 a.f_Pattern_class_count a.d_Pattern_class_count (["self"] : List Str) (spOf (tb w K a) 1 m_Pattern_class_count) :=
  fund_okm T.F_Pattern_class_count sc_Pattern_class_count fun cdv A outer s H E hr =>
    (pssm_one (psm_ret (pem_scope (pem_callB call_lenO (sim_lenO (T := (tb w K a))) rfl T.z_len bt_len (pam_cons (pem_sc rfl (own := [("entry", 1)]) rfl sc_Pattern_class_count.nd (pim_seq rfl (pem_fld rfl T.o_Pattern_entries (pe_fld (pem_var (pv 0)) rfl))) (show BlkOk (["self", "entry"] : List Str) (defScope s_Pattern_class_count) _ [("entry", 1)] from ⟨rfl, by decide +kernel, by decide +kernel, by decide +kernel, by decide +kernel⟩) (fun _ _ _ _ _ => (pg_name (i := 1) sc_Pattern_class_count.nd rfl (Or.inl rfl))) (gr_name rfl) (gw_name (by decide)) (fun _ _ _ _ _ => (ptsm_one (ptm_cmp op_notN sim_notN (pem_var (pv 1)) pem_non (nomark _)))) (fun _ _ _ _ _ => (pem_var (pv 1)))) pam_nil)))))
theorem sc_names_for : FnScope (["pattern", "names", "entry"] : List Str) (["pattern", "names"] : List Str) (defScope s_names_for) := ⟨rfl, rfl, rfl, by decide +kernel, rfl, by decide +kernel, by decide +kernel⟩
theorem ok_names_for (T : Txt K mg base a) : FnOk PW w K mg base (L2.CX PW w) 4 a.f_names_for a.d_names_for (["pattern", "names"] : List Str) (spOf (tb w K a) 2 m_names_for) :=
  fund_okm T.F_names_for sc_names_for fun cdv A outer s H E hr =>
    (pssm_cons (psm_expr (pem_call (takes_of rfl rfl rfl rfl) (ok_check_unlike_names T) (hr.mono (by decide)) rfl T.m_check_unlike_names T.k_check_unlike_names T.b_check_unlike_names .nil (fun _ => .nil) rfl (pam_cons (pem_var (pv 1)) pam_nil)))
    (pssm_cons (psm_if (ptm_cmp op_lt sim_lt (pem_callB call_len sim_len rfl T.z_len bt_len (pam_cons (pem_var (pv 1)) pam_nil)) (pem_prop (ok_Pattern_class_count T) (hr.mono (by decide)) T.i_Pattern.cl T.pr_Pattern_class_count T.b_Pattern_class_count (pem_var (pv 0))) (nomark _)) (pssm_one (psm_raise (k := 2) rfl (takes_of rfl rfl rfl rfl) T.e_BadNames T.ei_BadNames T.et_BadNames (ok_BadNames___init T) (hr.mono (by decide)) T.b_BadNames___init rfl T.c_BadNames rfl (by decide) (pam_cons (pem_callB call_len sim_len rfl T.z_len bt_len (pam_cons (pem_var (pv 1)) pam_nil)) (pam_cons pem_str pam_nil)))) pssm_nil)
    (pssm_one (psm_ret (pem_callTy call_tuple_of sim_tuple rfl T.z_tuple bt_tuple (pam_cons (pem_scope (pem_comp (own := [("entry", 2)]) rfl sc_names_for.nd (pim_seq rfl (pem_fld rfl T.o_Pattern_entries (pe_fld (pem_var (pv 0)) rfl))) (show BlkOk (["pattern", "names", "entry"] : List Str) (defScope s_names_for) _ [("entry", 2)] from ⟨rfl, by decide +kernel, by decide +kernel, by decide +kernel, by decide +kernel⟩) (fun _ _ _ _ _ => (pg_name (i := 2) sc_names_for.nd rfl (Or.inl rfl))) (gr_name rfl) (gw_name (by decide)) (fun _ _ _ _ _ => (ptsm_nil (σ := ()))) (fun _ _ _ _ _ => (pem_ifExp (ptm_cmp op_isN sim_isN (pem_var (pv 2)) pem_non (nomark _)) pem_non (pem_ix ix_seq sim_ix (pem_var (pv 1)) (pem_var (pv 2))))))) pam_nil))))))
theorem sc_u_law_odd_right : FnScope (["_law_hand_here", "_law_pattern", "_law_entries_here", "_law_names", "_law_things", "_law_row_here", "_law_odd_here", "_law_at", "_law_short", "_law_less", "_law_some", "_law_bad", "_law_twice", "_law_few", "_law_due"] : List Str) (["_law_hand_here", "_law_pattern", "_law_entries_here", "_law_names"] : List Str) (defScope s_u_law_odd_right) := ⟨rfl, rfl, rfl, by decide +kernel, rfl, by decide +kernel, by decide +kernel⟩
theorem ok_u_law_odd_right (T : Txt K mg base a) : FnOk PW w K mg base (L2.CX PW w) 8 a.f_u_law_odd_right a.d_u_law_odd_right (["_law_hand_here", "_law_pattern", "_law_entries_here", "_law_names"] : List Str) (spOf (tb w K a) 4 m_u_law_odd_right) :=
  fund_okmC T.F_u_law_odd_right sc_u_law_odd_right T.cd_u_law_odd_right fun A outer s H E hr =>
    (pssm_cons (psm_set (i := 4) sc_u_law_odd_right.nd rfl (Or.inl rfl) (pem_scope (pem_lst (pam_cons (pem_un un_neg sim_neg pem_int) (pam_cons pem_bl (pam_cons pem_str (pam_cons (pem_op op_addAll sim_add (pem_op op_pow sim_pow pem_int pem_int) pem_int) (pam_cons (pem_tup (pam_cons pem_int pam_nil)) pam_nil))))))))
    (pssm_cons (psm_set (i := 5) sc_u_law_odd_right.nd rfl (Or.inr rfl) (pem_scope (pem_sl rfl (pem_call (takes_of rfl rfl rfl rfl) (ok_u_law_row T) (hr.mono (by decide)) rfl T.m_u_law_row T.k_u_law_row T.b_u_law_row .nil (fun _ => .nil) rfl (pam_cons (pem_var (pv 2)) (pam_cons (pem_var (pv 3)) pam_nil))) pom_none (pom_some pem_int))))
    (pssm_cons (psm_asg (pem_call (takes_of rfl rfl rfl rfl) (ok_u_law_odd T) (hr.mono (by decide)) rfl T.m_u_law_odd T.k_u_law_odd T.b_u_law_odd .nil (fun _ => .nil) rfl (pam_cons (pem_var (pv 0)) (pam_cons (pem_var (pv 5)) (pam_cons (pem_var (pv 4)) pam_nil)))) (pgm_tup rfl rfl (PGN.cons (pg_name (i := 6) sc_u_law_odd_right.nd rfl (Or.inr rfl)) rfl (PGN.cons (pg_name (i := 7) sc_u_law_odd_right.nd rfl (Or.inl rfl)) rfl PGN.nil rfl) rfl)))
    (pssm_cons (psm_if (ptm_cmp (op_neD hr.units) sim_ne (pem_lamT (k := 5) T.F_u_law_told rfl T.m_u_law_told T.k_u_law_told T.b_u_law_told sc_u_law_told rfl (Or.inl rfl) (fun cdv => told_u_law_told T) (toldR_u_law_told T) T.tb_u_law_odd_right rfl List.mem_cons_self (two_a T.tbne) (hr.mono (by decide)) rfl ⟨LamX.lamS_by rfl, fun _ _ _ _ _ => rfl, fun A outer s H E f k hr => (pem_call (takes_of rfl rfl rfl rfl) (ok_first_difference T) (hr.mono (by decide)) rfl T.m_first_difference T.k_first_difference T.b_first_difference .nil (fun _ => .nil) rfl (pam_cons (pem_var (pv 1)) (pam_cons (pem_var (pv 6)) pam_nil)))⟩) (pem_tup (pam_cons pem_non (pam_cons (pem_tup (pam_cons pem_str (pam_cons (pem_var (pv 7)) (pam_cons pem_str pam_nil)))) pam_nil))) (nomark _)) (pssm_one (psm_ret pem_bl)) pssm_nil)
    (pssm_cons (psm_if (ptm_cmp (op_neD hr.units) sim_ne (pem_lamT (k := 5) T.F_u_law_told rfl T.m_u_law_told T.k_u_law_told T.b_u_law_told sc_u_law_told rfl (Or.inl rfl) (fun cdv => told_u_law_told T) (toldR_u_law_told T) T.tb_u_law_odd_right rfl List.mem_cons_self (two_a T.tbne) (hr.mono (by decide)) rfl ⟨LamX.lamS_by rfl, fun _ _ _ _ _ => rfl, fun A outer s H E f k hr => (pem_call (takes_of rfl rfl rfl rfl) (ok_renaming_of T) (hr.mono (by decide)) rfl T.m_renaming_of T.k_renaming_of T.b_renaming_of .nil (fun _ => .nil) rfl (pam_cons (pem_var (pv 6)) (pam_cons (pem_scope (pem_op op_mulAll sim_mul (pem_scope (pem_lst (pam_cons pem_non pam_nil))) pem_int)) pam_nil)))⟩) (pem_tup (pam_cons pem_non (pam_cons (pem_tup (pam_cons pem_str (pam_cons (pem_var (pv 7)) (pam_cons pem_str pam_nil)))) pam_nil))) (nomark _)) (pssm_one (psm_ret pem_bl)) pssm_nil)
    (pssm_cons (psm_if (ptm_cmp (op_neD hr.units) sim_ne (pem_lamT (k := 5) T.F_u_law_told rfl T.m_u_law_told T.k_u_law_told T.b_u_law_told sc_u_law_told rfl (Or.inl rfl) (fun cdv => told_u_law_told T) (toldR_u_law_told T) T.tb_u_law_odd_right rfl List.mem_cons_self (two_a T.tbne) (hr.mono (by decide)) rfl ⟨LamX.lamS_by rfl, fun _ _ _ _ _ => rfl, fun A outer s H E f k hr => (pem_call (takes_of rfl rfl rfl rfl) (ok_renaming_of T) (hr.mono (by decide)) rfl T.m_renaming_of T.k_renaming_of T.b_renaming_of .nil (fun _ => .nil) rfl (pam_cons (pem_callTy call_tuple_of sim_tuple rfl T.z_tuple bt_tuple (pam_cons (pem_var (pv 5)) pam_nil)) (pam_cons (pem_var (pv 6)) pam_nil)))⟩) (pem_tup (pam_cons pem_non (pam_cons (pem_tup (pam_cons pem_str (pam_cons (pem_var (pv 7)) (pam_cons pem_str pam_nil)))) pam_nil))) (nomark _)) (pssm_one (psm_ret pem_bl)) pssm_nil)
    (pssm_cons (psm_if (ptm_cmp (op_neD hr.units) sim_ne (pem_lamT (k := 5) T.F_u_law_told rfl T.m_u_law_told T.k_u_law_told T.b_u_law_told sc_u_law_told rfl (Or.inl rfl) (fun cdv => told_u_law_told T) (toldR_u_law_told T) T.tb_u_law_odd_right rfl List.mem_cons_self (two_a T.tbne) (hr.mono (by decide)) rfl ⟨LamX.lamS_by rfl, fun _ _ _ _ _ => rfl, fun A outer s H E f k hr => (pem_call (takes_of rfl rfl rfl rfl) (ok_renaming_of T) (hr.mono (by decide)) rfl T.m_renaming_of T.k_renaming_of T.b_renaming_of .nil (fun _ => .nil) rfl (pam_cons (pem_var (pv 5)) (pam_cons pem_str pam_nil)))⟩) (pem_tup (pam_cons pem_non (pam_cons (pem_tup (pam_cons pem_str (pam_cons pem_int (pam_cons pem_str pam_nil)))) pam_nil))) (nomark _)) (pssm_one (psm_ret pem_bl)) pssm_nil)
    (pssm_cons (psm_if (ptm_cmp (op_neD hr.units) sim_ne (pem_lamT (k := 5) T.F_u_law_told rfl T.m_u_law_told T.k_u_law_told T.b_u_law_told sc_u_law_told rfl (Or.inl rfl) (fun cdv => told_u_law_told T) (toldR_u_law_told T) T.tb_u_law_odd_right rfl List.mem_cons_self (two_a T.tbne) (hr.mono (by decide)) rfl ⟨LamX.lamS_by rfl, fun _ _ _ _ _ => rfl, fun A outer s H E f k hr => (pem_call (takes_of rfl rfl rfl rfl) (ok_first_difference T) (hr.mono (by decide)) rfl T.m_first_difference T.k_first_difference T.b_first_difference .nil (fun _ => .nil) rfl (pam_cons (pem_var (pv 1)) (pam_cons (pem_scope (pem_op op_mulAll sim_mul (pem_scope (pem_lst (pam_cons pem_non pam_nil))) pem_int)) pam_nil)))⟩) (pem_tup (pam_cons pem_non (pam_cons (pem_tup (pam_cons pem_str (pam_cons pem_int (pam_cons pem_str pam_nil)))) pam_nil))) (nomark _)) (pssm_one (psm_ret pem_bl)) pssm_nil)
    (pssm_cons (psm_set (i := 8) sc_u_law_odd_right.nd rfl (Or.inl rfl) (pem_lamT (k := 5) T.F_u_law_told rfl T.m_u_law_told T.k_u_law_told T.b_u_law_told sc_u_law_told rfl (Or.inl rfl) (fun cdv => told_u_law_told T) (toldR_u_law_told T) T.tb_u_law_odd_right rfl List.mem_cons_self (two_a T.tbne) (hr.mono (by decide)) rfl ⟨LamX.lamS_by rfl, fun _ _ _ _ _ => rfl, fun A outer s H E f k hr => (pem_call (takes_of rfl rfl rfl rfl) (ok_first_difference T) (hr.mono (by decide)) rfl T.m_first_difference T.k_first_difference T.b_first_difference .nil (fun _ => .nil) rfl (pam_cons (pem_var (pv 1)) (pam_cons (pem_scope (pem_op op_addAll sim_add (pem_scope (pem_callTy call_list_of sim_list rfl T.z_list bt_list (pam_cons (pem_scope (pem_sl rfl (pem_var (pv 3)) pom_none (pom_some pem_int))) pam_nil))) (pem_scope (pem_op op_mulAll sim_mul (pem_scope (pem_lst (pam_cons pem_non pam_nil))) (pem_op op_sub sim_sub (pem_callB call_len sim_len rfl T.z_len bt_len (pam_cons (pem_var (pv 2)) pam_nil)) pem_int))))) pam_nil)))⟩))
    (pssm_cons (psm_if (PWm.pt (pwm_and (ptm_cmp op_ge sim_ge (pem_callB call_len sim_len rfl T.z_len bt_len (pam_cons (pem_var (pv 2)) pam_nil)) pem_int (nomark _)) (pwm_and (ptm_cmp op_lt sim_lt (pem_callB call_len sim_len rfl T.z_len bt_len (pam_cons (pem_var (pv 2)) pam_nil)) pem_int (nomark _)) (pwm_and1 (ptm_cmp (op_neD hr.units) sim_ne (pem_var (pv 8)) (pem_tup (pam_cons pem_non (pam_cons (pem_tup (pam_cons pem_str (pam_cons (pem_op op_addAll sim_add (pem_callB call_len sim_len rfl T.z_len bt_len (pam_cons (pem_var (pv 2)) pam_nil)) pem_int) (pam_cons pem_str pam_nil)))) pam_nil))) (nomark _)))))) (pssm_one (psm_ret pem_bl)) pssm_nil)
    (pssm_cons (psm_set (i := 9) sc_u_law_odd_right.nd rfl (Or.inr rfl) (pem_scope (pem_sl rfl (pem_call (takes_of rfl rfl rfl rfl) (ok_u_law_row T) (hr.mono (by decide)) rfl T.m_u_law_row T.k_u_law_row T.b_u_law_row .nil (fun _ => .nil) rfl (pam_cons (pem_var (pv 2)) (pam_cons (pem_var (pv 3)) pam_nil))) (pom_some pem_int) pom_none)))
    (pssm_cons (psm_if (PWm.pt (pwm_and (ptm_cmp op_gt sim_gt (pem_callB call_len sim_len rfl T.z_len bt_len (pam_cons (pem_var (pv 2)) pam_nil)) pem_int (nomark _)) (pwm_and1 (ptm_cmp (op_neD hr.units) sim_ne (pem_lamT (k := 5) T.F_u_law_told rfl T.m_u_law_told T.k_u_law_told T.b_u_law_told sc_u_law_told rfl (Or.inl rfl) (fun cdv => told_u_law_told T) (toldR_u_law_told T) T.tb_u_law_odd_right rfl List.mem_cons_self (two_a T.tbne) (hr.mono (by decide)) rfl ⟨LamX.lamS_by rfl, fun _ _ _ _ _ => rfl, fun A outer s H E f k hr => (pem_call (takes_of rfl rfl rfl rfl) (ok_first_difference T) (hr.mono (by decide)) rfl T.m_first_difference T.k_first_difference T.b_first_difference .nil (fun _ => .nil) rfl (pam_cons (pem_var (pv 1)) (pam_cons (pem_var (pv 9)) pam_nil)))⟩) (pem_tup (pam_cons pem_non (pam_cons (pem_tup (pam_cons pem_str (pam_cons (pem_callB call_len sim_len rfl T.z_len bt_len (pam_cons (pem_var (pv 9)) pam_nil)) (pam_cons pem_str pam_nil)))) pam_nil))) (nomark _))))) (pssm_one (psm_ret pem_bl)) pssm_nil)
    (pssm_cons (psm_set (i := 10) sc_u_law_odd_right.nd rfl (Or.inl rfl) (pem_scope (pem_sl rfl (pem_var (pv 3)) pom_none (pom_some pem_int))))
    (pssm_cons (psm_asg (pem_call (takes_of rfl rfl rfl rfl) (ok_u_law_odd T) (hr.mono (by decide)) rfl T.m_u_law_odd T.k_u_law_odd T.b_u_law_odd .nil (fun _ => .nil) rfl (pam_cons (pem_var (pv 0)) (pam_cons (pem_var (pv 10)) (pam_cons (pem_scope (pem_op op_addAll sim_add (pem_var (pv 4)) (pem_scope (pem_lst (pam_cons pem_non pam_nil))))) pam_nil)))) (pgm_tup rfl rfl (PGN.cons (pg_name (i := 11) sc_u_law_odd_right.nd rfl (Or.inr rfl)) rfl (PGN.cons (pg_name (i := 7) sc_u_law_odd_right.nd rfl (Or.inl rfl)) rfl PGN.nil rfl) rfl)))
    (pssm_cons (psm_if (ptm_cmp (op_neD hr.units) sim_ne (pem_lamT (k := 5) T.F_u_law_told rfl T.m_u_law_told T.k_u_law_told T.b_u_law_told sc_u_law_told rfl (Or.inl rfl) (fun cdv => told_u_law_told T) (toldR_u_law_told T) T.tb_u_law_odd_right rfl List.mem_cons_self (two_a T.tbne) (hr.mono (by decide)) rfl ⟨LamX.lamS_by rfl, fun _ _ _ _ _ => rfl, fun A outer s H E f k hr => (pem_call (takes_of rfl rfl rfl rfl) (ok_names_for T) (hr.mono (by decide)) rfl T.m_names_for T.k_names_for T.b_names_for .nil (fun _ => .nil) rfl (pam_cons (pem_var (pv 1)) (pam_cons (pem_var (pv 11)) pam_nil)))⟩) (pem_tup (pam_cons pem_non (pam_cons (pem_tup (pam_cons pem_str (pam_cons (pem_var (pv 7)) (pam_cons pem_str pam_nil)))) pam_nil))) (nomark _)) (pssm_one (psm_ret pem_bl)) pssm_nil)
    (pssm_cons (psm_set (i := 12) sc_u_law_odd_right.nd rfl (Or.inr rfl) (pem_scope (pem_op op_addAll sim_add (pem_var (pv 10)) (pem_scope (pem_lst (pam_cons (pem_call (takes_of rfl rfl rfl rfl) (ok_u_law_pick T) (hr.mono (by decide)) rfl T.m_u_law_pick T.k_u_law_pick T.b_u_law_pick .nil (fun _ => .nil) rfl (pam_cons (pem_var (pv 0)) (pam_cons (pem_var (pv 10)) pam_nil))) pam_nil))))))
    (pssm_cons (psm_if (ptm_cmp (op_neD hr.units) sim_ne (pem_lamT (k := 5) T.F_u_law_told rfl T.m_u_law_told T.k_u_law_told T.b_u_law_told sc_u_law_told rfl (Or.inl rfl) (fun cdv => told_u_law_told T) (toldR_u_law_told T) T.tb_u_law_odd_right rfl List.mem_cons_self (two_a T.tbne) (hr.mono (by decide)) rfl ⟨LamX.lamS_by rfl, fun _ _ _ _ _ => rfl, fun A outer s H E f k hr => (pem_call (takes_of rfl rfl rfl rfl) (ok_names_for T) (hr.mono (by decide)) rfl T.m_names_for T.k_names_for T.b_names_for .nil (fun _ => .nil) rfl (pam_cons (pem_var (pv 1)) (pam_cons (pem_var (pv 12)) pam_nil)))⟩) (pem_tup (pam_cons pem_non (pam_cons (pem_tup (pam_cons pem_str (pam_cons (pem_callB call_len sim_len rfl T.z_len bt_len (pam_cons (pem_var (pv 10)) pam_nil)) (pam_cons pem_str pam_nil)))) pam_nil))) (nomark _)) (pssm_one (psm_ret pem_bl)) pssm_nil)
    (pssm_cons (psm_set (i := 13) sc_u_law_odd_right.nd rfl (Or.inr rfl) (pem_scope (pem_sl rfl (pem_var (pv 3)) pom_none (pom_some (pem_callB (call_max2 rfl) sim_max2 rfl T.z_max PyProof.Rows.Boot.«max» (pam_cons pem_int (pam_cons (pem_op op_sub sim_sub (pem_call (takes_of rfl rfl rfl rfl) (ok_u_law_count T) (hr.mono (by decide)) rfl T.m_u_law_count T.k_u_law_count T.b_u_law_count .nil (fun _ => .nil) rfl (pam_cons (pem_var (pv 2)) pam_nil)) pem_int) pam_nil)))))))
    (pssm_cons (psm_set (i := 14) sc_u_law_odd_right.nd rfl (Or.inl rfl) (pem_ifExp (ptm_cmp op_gt sim_gt (pem_call (takes_of rfl rfl rfl rfl) (ok_u_law_count T) (hr.mono (by decide)) rfl T.m_u_law_count T.k_u_law_count T.b_u_law_count .nil (fun _ => .nil) rfl (pam_cons (pem_var (pv 2)) pam_nil)) pem_int (nomark _)) (pem_tup (pam_cons pem_non (pam_cons (pem_tup (pam_cons pem_str (pam_cons (pem_callB call_len sim_len rfl T.z_len bt_len (pam_cons (pem_var (pv 13)) pam_nil)) (pam_cons pem_str pam_nil)))) pam_nil))) (pem_tup (pam_cons (pem_callTy call_tuple_of sim_tuple rfl T.z_tuple bt_tuple (pam_cons (pem_var (pv 2)) pam_nil)) (pam_cons pem_non pam_nil)))))
    (pssm_one (psm_ret (pem_cmp (op_eqD hr.units) sim_eq (pem_lamT (k := 5) T.F_u_law_told rfl T.m_u_law_told T.k_u_law_told T.b_u_law_told sc_u_law_told rfl (Or.inl rfl) (fun cdv => told_u_law_told T) (toldR_u_law_told T) T.tb_u_law_odd_right rfl List.mem_cons_self (two_a T.tbne) (hr.mono (by decide)) rfl ⟨LamX.lamS_by rfl, fun _ _ _ _ _ => rfl, fun A outer s H E f k hr => (pem_call (takes_of rfl rfl rfl rfl) (ok_names_for T) (hr.mono (by decide)) rfl T.m_names_for T.k_names_for T.b_names_for .nil (fun _ => .nil) rfl (pam_cons (pem_var (pv 1)) (pam_cons (pem_var (pv 13)) pam_nil)))⟩) (pem_var (pv 14)) (nomark _)))))))))))))))))))))))
theorem sc_u_law_due_pairs : FnScope (["_law_one", "_law_other", "_law_first", "_law_second", "_law_pairs", "_law_at"] : List Str) (["_law_one", "_law_other"] : List Str) (defScope s_u_law_due_pairs) := ⟨rfl, rfl, rfl, by decide +kernel, rfl, by decide +kernel, by decide +kernel⟩
theorem ok_u_law_due_pairs (T : Txt K mg base a) : FnOk PW w K mg base (L2.CX PW w) 2 a.f_u_law_due_pairs a.d_u_law_due_pairs (["_law_one", "_law_other"] : List Str) (spOf (tb w K a) 2 m_u_law_due_pairs) :=
  fund_okm T.F_u_law_due_pairs sc_u_law_due_pairs fun cdv A outer s H E hr =>
    (pssm_cons (psm_par (i := 2) (j := 3) rfl sc_u_law_due_pairs.nd rfl rfl (by decide) rfl rfl (pam_cons (pem_call (takes_of rfl rfl rfl rfl) (ok_u_law_numbers T) (hr.mono (by decide)) rfl T.m_u_law_numbers T.k_u_law_numbers T.b_u_law_numbers .nil (fun _ => .nil) rfl (pam_cons (pem_var (pv 0)) pam_nil)) (pam_cons (pem_call (takes_of rfl rfl rfl rfl) (ok_u_law_numbers T) (hr.mono (by decide)) rfl T.m_u_law_numbers T.k_u_law_numbers T.b_u_law_numbers .nil (fun _ => .nil) rfl (pam_cons (pem_var (pv 1)) pam_nil)) pam_nil)) rfl)
    (pssm_cons (psm_set (i := 4) sc_u_law_due_pairs.nd rfl (Or.inl rfl) (pem_lst pam_nil))
    (pssm_cons (psm_for (passes_of rfl) rfl (pim_range1 rfl T.z_range (pam_cons (pem_callB (call_min2 rfl) sim_min2 rfl T.z_min bt_min (pam_cons (pem_callB call_len sim_len rfl T.z_len bt_len (pam_cons (pem_var (pv 0)) pam_nil)) (pam_cons (pem_callB call_len sim_len rfl T.z_len bt_len (pam_cons (pem_var (pv 1)) pam_nil)) pam_nil))) pam_nil)) (pgm_name (pg_name (i := 5) sc_u_law_due_pairs.nd rfl (Or.inl rfl))) (pssm_cons (psm_if (ptm_cmp (op_neD hr.units) sim_ne (pem_ix ix_seq sim_ix (pem_var (pv 2)) (pem_var (pv 5))) (pem_ix ix_seq sim_ix (pem_var (pv 3)) (pem_var (pv 5))) (nomark _)) (pssm_one (psm_ret (pem_tup (pam_cons pem_non (pam_cons (pem_tup (pam_cons pem_str (pam_cons (pem_var (pv 5)) pam_nil))) pam_nil))))) pssm_nil)
    (pssm_one (psm_if (ptm_cmp (op_eqD hr.units) sim_eq (pem_ix ix_seq sim_ix (pem_var (pv 2)) (pem_var (pv 5))) (pem_callB call_len sim_len rfl T.z_len bt_len (pam_cons (pem_var (pv 4)) pam_nil)) (nomark _)) (pssm_one (psm_expr (pem_bm sim_app (pe_bm PySem.F.plainAttrs_list PySem.F.slot_list_append PySem.F.type_list_append mt_append (pem_var (pv 4)) (pam_cons (pem_tup (pam_cons (pem_ix ix_seq sim_ix (pem_var (pv 0)) (pem_var (pv 5))) (pam_cons (pem_ix ix_seq sim_ix (pem_var (pv 1)) (pem_var (pv 5))) pam_nil))) pam_nil))))) pssm_nil))))
    (pssm_cons (psm_if (ptm_cmp (op_neD hr.units) sim_ne (pem_callB call_len sim_len rfl T.z_len bt_len (pam_cons (pem_var (pv 0)) pam_nil)) (pem_callB call_len sim_len rfl T.z_len bt_len (pam_cons (pem_var (pv 1)) pam_nil)) (nomark _)) (pssm_one (psm_ret (pem_tup (pam_cons pem_non (pam_cons (pem_tup (pam_cons pem_str (pam_cons (pem_callB (call_min2 rfl) sim_min2 rfl T.z_min bt_min (pam_cons (pem_callB call_len sim_len rfl T.z_len bt_len (pam_cons (pem_var (pv 0)) pam_nil)) (pam_cons (pem_callB call_len sim_len rfl T.z_len bt_len (pam_cons (pem_var (pv 1)) pam_nil)) pam_nil))) pam_nil))) pam_nil))))) pssm_nil)
    (pssm_one (psm_ret (pem_tup (pam_cons (pem_callTy call_tuple_of sim_tuple rfl T.z_tuple bt_tuple (pam_cons (pem_var (pv 4)) pam_nil)) (pam_cons pem_non pam_nil)))))))))
theorem sc_u_law_renaming_right : FnScope (["_law_one", "_law_other", "_law_kept", "_law_due", "_law_told_here", "_law_led", "_law_pair", "_law_name"] : List Str) (["_law_one", "_law_other"] : List Str) (defScope s_u_law_renaming_right) := ⟨rfl, rfl, rfl, by decide +kernel, rfl, by decide +kernel, by decide +kernel⟩
theorem ok_u_law_renaming_right (T : Txt K mg base a) : FnQ PW w K mg base (L2.CX PW w) 8 a.f_u_law_renaming_right a.d_u_law_renaming_right (["_law_one", "_law_other"] : List Str) (spOf (tb w K a) 2 m_u_law_renaming_right) :=
  fund_okmCQ T.F_u_law_renaming_right sc_u_law_renaming_right T.cd_u_law_renaming_right fun A outer s H E hq hr =>
    (pssm_cons (psm_set (i := 2) sc_u_law_renaming_right.nd rfl (Or.inl rfl) (pem_callB (call_reprD hq hr.units) sim_reprD rfl T.z_repr PyProof.Rows.bootS_repr (pam_cons (pem_tup (pam_cons (pem_var (pv 0)) (pam_cons (pem_var (pv 1)) pam_nil))) pam_nil)))
    (pssm_cons (psm_set (i := 3) sc_u_law_renaming_right.nd rfl (Or.inl rfl) (pem_call (takes_of rfl rfl rfl rfl) (ok_u_law_due_pairs T) (hr.mono (by decide)) rfl T.m_u_law_due_pairs T.k_u_law_due_pairs T.b_u_law_due_pairs .nil (fun _ => .nil) rfl (pam_cons (pem_var (pv 0)) (pam_cons (pem_var (pv 1)) pam_nil))))
    (pssm_cons (psm_set (i := 4) sc_u_law_renaming_right.nd rfl (Or.inl rfl) (pem_lamT (k := 5) T.F_u_law_told rfl T.m_u_law_told T.k_u_law_told T.b_u_law_told sc_u_law_told rfl (Or.inl rfl) (fun cdv => told_u_law_told T) (toldR_u_law_told T) T.tb_u_law_renaming_right rfl (List.mem_cons_of_mem _ List.mem_cons_self) (two_b T.tbne) (hr.mono (by decide)) rfl ⟨LamX.lamS_by rfl, fun _ _ _ _ _ => rfl, fun A outer s H E f k hr => (pem_call (takes_of rfl rfl rfl rfl) (ok_renaming_of T) (hr.mono (by decide)) rfl T.m_renaming_of T.k_renaming_of T.b_renaming_of .nil (fun _ => .nil) rfl (pam_cons (pem_var (pv 0)) (pam_cons (pem_var (pv 1)) pam_nil)))⟩))
    (pssm_cons (psm_if (PWm.pt (pwm_or (ptm_cmp (op_neD hr.units) sim_ne (pem_var (pv 4)) (pem_var (pv 3)) (nomark _)) (pwm_or1 (ptm_cmp (op_neD hr.units) sim_ne (pem_callB (call_reprD hq hr.units) sim_reprD rfl T.z_repr PyProof.Rows.bootS_repr (pam_cons (pem_tup (pam_cons (pem_var (pv 0)) (pam_cons (pem_var (pv 1)) pam_nil))) pam_nil)) (pem_var (pv 2)) (nomark _))))) (pssm_one (psm_ret pem_bl)) pssm_nil)
    (pssm_cons (psm_if (ptm_cmp op_isN sim_isN (pem_ix ix_seq sim_ix (pem_var (pv 4)) pem_int) pem_non (nomark _)) (pssm_one (psm_ret (pem_cmp (op_neD hr.units) sim_ne (pem_call (takes_of rfl rfl rfl rfl) (ok_u_law_numbers T) (hr.mono (by decide)) rfl T.m_u_law_numbers T.k_u_law_numbers T.b_u_law_numbers .nil (fun _ => .nil) rfl (pam_cons (pem_var (pv 0)) pam_nil)) (pem_call (takes_of rfl rfl rfl rfl) (ok_u_law_numbers T) (hr.mono (by decide)) rfl T.m_u_law_numbers T.k_u_law_numbers T.b_u_law_numbers .nil (fun _ => .nil) rfl (pam_cons (pem_var (pv 1)) pam_nil)) (nomark _)))) pssm_nil)
    (pssm_cons (psm_set (i := 5) sc_u_law_renaming_right.nd rfl (Or.inr rfl) pem_dict)
    (pssm_cons (psm_for (passes_of rfl) rfl (pim_seq rfl (pem_ix ix_seq sim_ix (pem_var (pv 4)) pem_int)) (pgm_name (pg_name (i := 6) sc_u_law_renaming_right.nd rfl (Or.inl rfl))) (pssm_one (psm_dput (ps_dput (units1 hr) (pem_var (pv 5)) (pem_ix ix_seq sim_ix (pem_var (pv 6)) pem_int) (pem_ix ix_seq sim_ix (pem_var (pv 6)) pem_int) rfl))))
    (pssm_one (psm_ret (pem_and (pem_cmp (op_eqD hr.units) sim_eq (pem_scope (pem_comp (own := [("_law_name", 7)]) rfl sc_u_law_renaming_right.nd (pim_seq rfl (pem_var (pv 0))) (show BlkOk (["_law_one", "_law_other", "_law_kept", "_law_due", "_law_told_here", "_law_led", "_law_pair", "_law_name"] : List Str) (defScope s_u_law_renaming_right) _ [("_law_name", 7)] from ⟨rfl, by decide +kernel, by decide +kernel, by decide +kernel, by decide +kernel⟩) (fun _ _ _ _ _ => (pg_name (i := 7) sc_u_law_renaming_right.nd rfl (Or.inl rfl))) (gr_name rfl) (gw_name (by decide)) (fun _ _ _ _ _ => (ptsm_nil (σ := ()))) (fun _ _ _ _ _ => (pem_ifExp (ptm_cmp op_isN sim_isN (pem_var (pv 7)) pem_non (nomark _)) pem_non (pem_dget (units1 hr) (pem_var (pv 5)) (pem_var (pv 7)) fun _ _ => rfl))))) (pem_var (pv 1)) (nomark _)) (pem_one (pem_isi1 T.isok rfl rfl T.z_isinstance (pem_ix ix_seq sim_ix (pem_var (pv 4)) pem_int) (pe_bltn rfl T.z_tuple bt_tuple rfl)))))))))))))
theorem sc_law : FnScope (["_law_script", "_law_hand_here", "_law_size_here", "_law_entries_here", "_law_pattern", "_law_names", "_law_others", "_law_row_here", "_law_spare", "_law_handed", "_law_spoilt_here", "_law_told_here", "_law_due", "_law_other", "_law_part", "_law_pair"] : List Str) (["_law_script"] : List Str) (defScope s_law) := ⟨rfl, rfl, rfl, by decide +kernel, rfl, by decide +kernel, by decide +kernel⟩
theorem ok_law (T : Txt K mg base a) : FnQ PW w K mg base (L2.CX PW w) 9 a.f_law a.d_law (["_law_script"] : List Str) (spOf (tb w K a) 1 m_law) :=
  fund_okmQ T.F_law sc_law fun cdv A outer s H E hq hr =>
    (pssm_cons (psm_set (i := 1) sc_law.nd rfl (Or.inl rfl) (pem_call (takes_of rfl rfl rfl rfl) (ok_u_law_hand T) (hr.mono (by decide)) rfl T.m_u_law_hand T.k_u_law_hand T.b_u_law_hand .nil (fun _ => .nil) rfl (pam_cons (pem_var (pv 0)) pam_nil)))
    (pssm_cons (psm_set (i := 2) sc_law.nd rfl (Or.inl rfl) (pem_call (takes_of rfl rfl rfl rfl) (ok_u_law_size T) (hr.mono (by decide)) rfl T.m_u_law_size T.k_u_law_size T.b_u_law_size .nil (fun _ => .nil) rfl (pam_cons (pem_var (pv 1)) pam_nil)))
    (pssm_cons (psm_set (i := 3) sc_law.nd rfl (Or.inl rfl) (pem_call (takes_of rfl rfl rfl rfl) (ok_u_law_entries T) (hr.mono (by decide)) rfl T.m_u_law_entries T.k_u_law_entries T.b_u_law_entries .nil (fun _ => .nil) rfl (pam_cons (pem_var (pv 1)) (pam_cons (pem_var (pv 2)) (pam_cons (pem_cmp (op_eqD hr.units) sim_eq (pem_call (takes_of rfl rfl rfl rfl) (ok_u_law_draw T) (hr.mono (by decide)) rfl T.m_u_law_draw T.k_u_law_draw T.b_u_law_draw .nil (fun _ => .nil) rfl (pam_cons (pem_var (pv 1)) (pam_cons pem_int pam_nil))) pem_int (nomark _)) pam_nil)))))
    (pssm_cons (psm_par3 (i := 4) (j := 5) (l := 6) rfl sc_law.nd rfl rfl rfl (by decide) (by decide) (by decide) rfl rfl rfl (pam_cons (pem_scope (pem_make (takes_of rfl rfl rfl rfl) T.mk_Pattern (ok_Pattern___init T) (hr.mono (by decide)) rfl T.c_Pattern T.b_Pattern___init .nil (fun _ => .nil) (pam_cons (pem_var (pv 3)) pam_nil))) (pam_cons (pem_call (takes_of rfl rfl rfl rfl) (ok_u_law_pool T) (hr.mono (by decide)) rfl T.m_u_law_pool T.k_u_law_pool T.b_u_law_pool .nil (fun _ => .nil) rfl (pam_cons (pem_var (pv 1)) (pam_cons pem_int pam_nil))) (pam_cons (pem_call (takes_of rfl rfl rfl rfl) (ok_u_law_pool T) (hr.mono (by decide)) rfl T.m_u_law_pool T.k_u_law_pool T.b_u_law_pool .nil (fun _ => .nil) rfl (pam_cons (pem_var (pv 1)) (pam_cons pem_int pam_nil))) pam_nil))) rfl)
    (pssm_cons (psm_set (i := 7) sc_law.nd rfl (Or.inl rfl) (pem_call (takes_of rfl rfl rfl rfl) (ok_u_law_row T) (hr.mono (by decide)) rfl T.m_u_law_row T.k_u_law_row T.b_u_law_row .nil (fun _ => .nil) rfl (pam_cons (pem_var (pv 3)) (pam_cons (pem_var (pv 5)) pam_nil))))
    (pssm_cons (psm_set (i := 8) sc_law.nd rfl (Or.inl rfl) (pem_op op_addAll sim_add (pem_call (takes_of rfl rfl rfl rfl) (ok_u_law_count T) (hr.mono (by decide)) rfl T.m_u_law_count T.k_u_law_count T.b_u_law_count .nil (fun _ => .nil) rfl (pam_cons (pem_var (pv 3)) pam_nil)) (pem_call (takes_of rfl rfl rfl rfl) (ok_u_law_draw T) (hr.mono (by decide)) rfl T.m_u_law_draw T.k_u_law_draw T.b_u_law_draw .nil (fun _ => .nil) rfl (pam_cons (pem_var (pv 1)) (pam_cons (pem_op op_sub sim_sub pem_int (pem_call (takes_of rfl rfl rfl rfl) (ok_u_law_count T) (hr.mono (by decide)) rfl T.m_u_law_count T.k_u_law_count T.b_u_law_count .nil (fun _ => .nil) rfl (pam_cons (pem_var (pv 3)) pam_nil))) pam_nil)))))
    (pssm_cons (psm_set (i := 9) sc_law.nd rfl (Or.inl rfl) (pem_scope (pem_sl rfl (pem_var (pv 5)) pom_none (pom_some (pem_var (pv 8))))))
    (pssm_cons (psm_if (PWm.pt (pwm_or (ptm_cmp (op_neD hr.units) sim_ne (pem_call (takes_of rfl rfl rfl rfl) (ok_names_for T) (hr.mono (by decide)) rfl T.m_names_for T.k_names_for T.b_names_for .nil (fun _ => .nil) rfl (pam_cons (pem_var (pv 4)) (pam_cons (pem_var (pv 9)) pam_nil))) (pem_callTy call_tuple_of sim_tuple rfl T.z_tuple bt_tuple (pam_cons (pem_var (pv 7)) pam_nil)) (nomark _)) (pwm_or1 (ptm_cmp (op_neD hr.units) sim_ne (pem_var (pv 9)) (pem_scope (pem_sl rfl (pem_var (pv 5)) pom_none (pom_some (pem_var (pv 8))))) (nomark _))))) (pssm_one (psm_ret pem_bl)) pssm_nil)
    (pssm_cons (psm_if (PWm.pt (pwm_or (ptm_cmp op_notN sim_notN (pem_call (takes_of rfl rfl rfl rfl) (ok_first_difference T) (hr.mono (by decide)) rfl T.m_first_difference T.k_first_difference T.b_first_difference .nil (fun _ => .nil) rfl (pam_cons (pem_var (pv 4)) (pam_cons (pem_var (pv 7)) pam_nil))) pem_non (nomark _)) (pwm_or1 (ptm_cmp op_notN sim_notN (pem_call (takes_of rfl rfl rfl rfl) (ok_first_difference T) (hr.mono (by decide)) rfl T.m_first_difference T.k_first_difference T.b_first_difference .nil (fun _ => .nil) rfl (pam_cons (pem_var (pv 4)) (pam_cons (pem_callTy call_tuple_of sim_tuple rfl T.z_tuple bt_tuple (pam_cons (pem_var (pv 7)) pam_nil)) pam_nil))) pem_non (nomark _))))) (pssm_one (psm_ret pem_bl)) pssm_nil)
    (pssm_cons (psm_set (i := 10) sc_law.nd rfl (Or.inl rfl) (pem_call (takes_of rfl rfl rfl rfl) (ok_u_law_spoilt T) (hr.mono (by decide)) rfl T.m_u_law_spoilt T.k_u_law_spoilt T.b_u_law_spoilt .nil (fun _ => .nil) rfl (pam_cons (pem_var (pv 1)) (pam_cons (pem_var (pv 7)) (pam_cons (pem_scope (pem_sl rfl (pem_var (pv 5)) pom_none (pom_some pem_int))) pam_nil)))))
    (pssm_cons (psm_par (i := 11) (j := 12) rfl sc_law.nd rfl rfl (by decide) rfl rfl (pam_cons (pem_call (takes_of rfl rfl rfl rfl) (ok_first_difference T) (hr.mono (by decide)) rfl T.m_first_difference T.k_first_difference T.b_first_difference .nil (fun _ => .nil) rfl (pam_cons (pem_var (pv 4)) (pam_cons (pem_var (pv 10)) pam_nil))) (pam_cons (pem_call (takes_of rfl rfl rfl rfl) (ok_u_law_differs T) (hr.mono (by decide)) rfl T.m_u_law_differs T.k_u_law_differs T.b_u_law_differs .nil (fun _ => .nil) rfl (pam_cons (pem_var (pv 3)) (pam_cons (pem_var (pv 10)) pam_nil))) pam_nil)) rfl)
    (pssm_cons (psm_if (PWm.pt (pwm_or (ptm_cmp (op_neD hr.units) sim_ne (pem_var (pv 11)) (pem_var (pv 12)) (nomark _)) (pwm_or (ptm_cmp (op_neD hr.units) sim_ne (pem_cmp op_isN sim_isN (pem_var (pv 11)) pem_non (nomark _)) (pem_cmp op_isN sim_isN (pem_var (pv 12)) pem_non (nomark _)) (nomark _)) (pwm_or1 (ptm_tru rfl (pem_isi1 T.isok rfl rfl T.z_isinstance (pem_var (pv 11)) (pe_bltn rfl T.z_bool bt_bool rfl))))))) (pssm_one (psm_ret pem_bl)) pssm_nil)
    (pssm_cons (psm_set (i := 13) sc_law.nd rfl (Or.inl rfl) (pem_call (takes_of rfl rfl rfl rfl) (ok_u_law_row T) (hr.mono (by decide)) rfl T.m_u_law_row T.k_u_law_row T.b_u_law_row .nil (fun _ => .nil) rfl (pam_cons (pem_var (pv 3)) (pam_cons (pem_var (pv 6)) pam_nil))))
    (pssm_cons (psm_set (i := 14) sc_law.nd rfl (Or.inl rfl) (pem_scope (pem_sl rfl (pem_var (pv 13)) pom_none (pom_some (pem_call (takes_of rfl rfl rfl rfl) (ok_u_law_draw T) (hr.mono (by decide)) rfl T.m_u_law_draw T.k_u_law_draw T.b_u_law_draw .nil (fun _ => .nil) rfl (pam_cons (pem_var (pv 1)) (pam_cons (pem_op op_addAll sim_add (pem_var (pv 2)) pem_int) pam_nil)))))))
    (pssm_cons (psm_for (passes_of rfl) rfl (pim_seq rfl (pem_scope (pem_lst (pam_cons (pem_tup (pam_cons (pem_var (pv 7)) (pam_cons (pem_var (pv 13)) pam_nil))) (pam_cons (pem_tup (pam_cons (pem_var (pv 7)) (pam_cons (pem_var (pv 10)) pam_nil))) (pam_cons (pem_tup (pam_cons (pem_var (pv 10)) (pam_cons (pem_var (pv 13)) pam_nil))) (pam_cons (pem_tup (pam_cons (pem_var (pv 7)) (pam_cons (pem_var (pv 14)) pam_nil))) (pam_cons (pem_tup (pam_cons (pem_var (pv 14)) (pam_cons (pem_var (pv 7)) pam_nil))) (pam_cons (pem_tup (pam_cons (pem_var (pv 13)) (pam_cons (pem_var (pv 7)) pam_nil))) (pam_cons (pem_tup (pam_cons (pem_var (pv 10)) (pam_cons (pem_var (pv 10)) pam_nil))) pam_nil)))))))))) (pgm_name (pg_name (i := 15) sc_law.nd rfl (Or.inl rfl))) (pssm_one (psm_if (ptm_not (ptm_tru rfl (pem_callQ (takes_of rfl rfl rfl rfl) (ok_u_law_renaming_right T) hq (hr.mono (by decide)) rfl T.m_u_law_renaming_right T.k_u_law_renaming_right T.b_u_law_renaming_right rfl (pam_cons (pem_ix ix_seq sim_ix (pem_var (pv 15)) pem_int) (pam_cons (pem_ix ix_seq sim_ix (pem_var (pv 15)) pem_int) pam_nil))))) (pssm_one (psm_ret pem_bl)) pssm_nil)))
    (pssm_one (psm_ret (pem_and (pem_call (takes_of rfl rfl rfl rfl) (ok_u_law_odd_right T) (hr.mono (by decide)) rfl T.m_u_law_odd_right T.k_u_law_odd_right T.b_u_law_odd_right .nil (fun _ => .nil) rfl (pam_cons (pem_var (pv 1)) (pam_cons (pem_var (pv 4)) (pam_cons (pem_var (pv 3)) (pam_cons (pem_var (pv 5)) pam_nil))))) (pem_one (pem_cmp op_isN sim_isN (pem_call (takes_of rfl rfl rfl rfl) (ok_first_difference T) (hr.mono (by decide)) rfl T.m_first_difference T.k_first_difference T.b_first_difference .nil (fun _ => .nil) rfl (pam_cons (pem_var (pv 4)) (pam_cons (pem_var (pv 7)) pam_nil))) pem_non (nomark _)))))))))))))))))))))
end
end G

namespace NK
open PySem L2 TL
theorem seq_n {a b : MS} {env env1 : NK.Env} {S S1 : Sto} {r : SO} (h1 : a env S = SO.next env1 S1) (h2 : b env1 S1 = r) : sSeq a b env S = r := by
  show SO.bind _ _ = _
  rw [h1]
  exact h2
theorem seq_r {a b : MS} {env : NK.Env} {S S1 : Sto} {u : U} (h1 : a env S = SO.ret u S1) : sSeq a b env S = SO.ret u S1 := by
  show SO.bind _ _ = _
  rw [h1]
  rfl
theorem asg_ok {m : ME} {i : Nat} {env : NK.Env} {S S1 : Sto} {u : U} (h : m env S = Out.ok u S1) : sAsg m (gN i) env S = SO.next (env.set i (some u)) S1 := by
  unfold sAsg
  rw [h]
  rfl
theorem ret_ok {m : ME} {env : NK.Env} {S S1 : Sto} {u : U} (h : m env S = Out.ok u S1) : sRet m env S = SO.ret u S1 := by
  unfold sRet
  rw [h]
  rfl
theorem ne_same {u : U} {S : Sto} (h : okU 12 u = true) : fNe u u S = Out.ok (U.bl false) S := by
  rw [fNe_ok h h, eqvU_same h]
  rfl
theorem eq_same {u : U} {S : Sto} (h : okU 12 u = true) : fEq u u S = Out.ok (U.bl true) S := by
  rw [fEq_ok h h, eqvU_same h]
def num (i : Int) : Str := Str.ofString (toString i)
section
variable {S : Sto} {a b c d e : U} {l : List U}
end
section
variable {k n : Nat} {mf : MF} {ma mk : MA} {env : NK.Env} {S : Sto} {us ws ks : List U} {x : Ex} {S2 : Sto} {gU : List U → List U → List U}
theorem mk_ok (ha : ma env S = Out.ok us S) (hn : us.length + 1 = n) (hm : mf (.loc S.length :: us) (S ++ [.ins k []]) = Out.ok .non (S ++ [.ins k ws])) (hw : U.underL 0 ws = true) : eScope (eMake k n mf [] ma) env S = Out.ok (.ins k ws) S := by
  have e : eMake k n mf [] ma env S = Out.ok (.loc S.length) (S ++ [.ins k ws]) := by
    unfold eMake
    rw [ha, ob, List.append_nil, if_pos (by rw [List.length_cons]; exact hn), hm, ob]
  unfold eScope
  rw [e]
  exact sc_obj (j := 0) [.ins k ws] (Old.refl S) rfl hw
theorem put_s {j : Nat} {us : List U} {w : U} (h : j = us.length) : putFld k j (U.loc S.length) w (S ++ [Ob.ins k us]) = some (S ++ [Ob.ins k (us ++ [w])]) := put2 h
end
end NK

namespace NK
open PySem L2 TL
section
variable {α : Type} {g : Sto → Prop} {i : Nat} {mt : MT} {me : ME} {mi : MI} {env : Env} {st : Sto}
theorem compM_map (f r : α → U) (p : α → Bool) (hg : ∀ acc, g (st ++ [.lst acc])) : ∀ (as : List α) (acc : List U), acc.length + as.length ≤ 16777216 →
    (∀ a ∈ as, ∀ acc, mt (env.set i (some (f a))) (st ++ [.lst acc]) = .ok (p a) (st ++ [.lst acc]) ∧ (p a = true → me (env.set i (some (f a))) (st ++ [.lst acc]) = .ok (r a) (st ++ [.lst acc]))) →
    compM g (gN i) mt me st.length (wipeE env [i]) (as.map f) (st ++ [.lst acc]) = .ok (.loc st.length) (st ++ [.lst (acc ++ (as.filter p).map r)])
  | [], acc, _, _ => by
    show compM g (gN i) mt me st.length (wipeE env [i]) [] (st ++ [.lst acc]) = _
    unfold compM
    rw [if_pos (hg acc)]
    simp
  | a :: as, acc, hz, h => by
    have ih := compM_map f r p hg as
    obtain ⟨h1, h2⟩ := h a List.mem_cons_self acc
    have h' := fun w hw => h w (List.mem_cons_of_mem _ hw)
    rw [List.length_cons] at hz
    rw [List.map_cons]
    unfold compM
    rw [if_pos (hg acc)]
    show (match mt ((wipeE env [i]).set i (some (f a))) (st ++ [.lst acc]) with | .ok true st1 => _ | .ok false st1 => _ | _ => Out.bad) = _
    rw [wipe1, h1]
    cases hp : p a with
    | false =>
      dsimp only
      rw [ih acc (by omega) h', List.filter_cons_of_neg (by simp [hp])]
    | true =>
      dsimp only
      rw [h2 hp]
      dsimp only
      have e : (st ++ [Ob.lst acc])[st.length]? = some (.lst acc) := by simp
      rw [e]
      dsimp only
      rw [if_pos (by omega)]
      have e2 : (st ++ [Ob.lst acc]).set st.length (.lst (acc ++ [r a])) = st ++ [.lst (acc ++ [r a])] := by simp
      rw [e2, ih (acc ++ [r a]) (by simp; omega) h', List.filter_cons_of_pos hp]
      simp [List.append_assoc]
theorem comp_mapL (f r : α → U) (p : α → Bool) {as : List α} (hm : mi env st = .ok ⟨as.map f, g⟩ st) (hg : ∀ acc, g (st ++ [.lst acc])) (hz : as.length ≤ 16777216)
    (h : ∀ a ∈ as, ∀ acc, mt (env.set i (some (f a))) (st ++ [.lst acc]) = .ok (p a) (st ++ [.lst acc]) ∧ (p a = true → me (env.set i (some (f a))) (st ++ [.lst acc]) = .ok (r a) (st ++ [.lst acc]))) :
    eComp mi (gN i) mt me [i] env st = .ok (.loc st.length) (st ++ [.lst ((as.filter p).map r)]) := by
  unfold eComp
  rw [hm, ob, compM_map f r p hg as [] (by simpa using hz) h, List.nil_append]
theorem comp_mapS (f r : α → U) (p : α → Bool) {as : List α} (hm : mi env st = .ok ⟨as.map f, g⟩ st) (hg : ∀ acc, g (st ++ [.lst acc])) (hz : as.length ≤ 16777216)
    (h : ∀ a ∈ as, ∀ acc, mt (env.set i (some (f a))) (st ++ [.lst acc]) = .ok (p a) (st ++ [.lst acc]) ∧ (p a = true → me (env.set i (some (f a))) (st ++ [.lst acc]) = .ok (r a) (st ++ [.lst acc])))
    (hu : ∀ a ∈ as, p a = true → (r a).under 0 = true) : eScope (eComp mi (gN i) mt me [i]) env st = .ok (.lst ((as.filter p).map r)) st := by
  unfold eScope
  rw [comp_mapL f r p hm hg hz h]
  refine sc_loc (j := 0) [.lst _] (Old.refl st) rfl (underL_all fun u hu' => ?_)
  obtain ⟨a, ha, rfl⟩ := List.mem_map.mp hu'
  obtain ⟨h1, h2⟩ := List.mem_filter.mp ha
  exact hu a h1 h2
theorem filter_true (as : List α) : as.filter (fun _ => true) = as := List.filter_eq_self.mpr fun _ _ => rfl
theorem comp_all (f r : α → U) {as : List α} (hm : mi env st = .ok ⟨as.map f, g⟩ st) (hg : ∀ acc, g (st ++ [.lst acc])) (hz : as.length ≤ 16777216)
    (h : ∀ a ∈ as, ∀ acc, me (env.set i (some (f a))) (st ++ [.lst acc]) = .ok (r a) (st ++ [.lst acc])) (hu : ∀ a ∈ as, (r a).under 0 = true) : eScope (eComp mi (gN i) NK.tYes me [i]) env st = .ok (.lst (as.map r)) st := by
  have e := comp_mapS (mt := NK.tYes) f r (fun _ => true) hm hg hz (fun a ha acc => ⟨rfl, fun _ => h a ha acc⟩) fun a ha _ => hu a ha
  rw [filter_true] at e
  exact e
end
structure Lq (u : U) (S : Sto) (us : List U) : Prop where
  len : fLen [u] S = Out.ok (U.int (us.length : Nat)) S
  ix : ∀ (i : Nat) x, us[i]? = some x → fIx u (U.int (i : Int)) S = Out.ok x S
  it : items u S = some us
end NK

set_option maxHeartbeats 2000000
namespace G
open PySem L2 NK
theorem mix_ok (n t : Int) (st : Sto) : ∃ k, m_u_law_mix [.int n, .int t] st = .ok (.int k) st := by
  have h1 : ∀ x : Int, 0 ≤ x % 2147483647 ∧ x % 2147483647 < 2147483647 := fun x => ⟨Int.emod_nonneg _ (by decide), Int.emod_lt_of_pos _ (by decide)⟩
  have h2 : ∀ x : Int, 0 ≤ x % 2147483399 ∧ x % 2147483399 < 2147483399 := fun x => ⟨Int.emod_nonneg _ (by decide), Int.emod_lt_of_pos _ (by decide)⟩
  suffices h : ∃ k, b_u_law_mix [some (.int n), some (.int t), none, none] st = .ret (.int k) st from let ⟨k, e⟩ := h; ⟨k, fs_same rfl e rfl⟩
  unfold b_u_law_mix
  simp (maxDischargeDepth := 8) -implicitDefEqProofs only [sSeq, sIf, sAsg, sRet, sRetN, sDrop, sSetIx, sNext, sCont, sBrk, NK.sFld, NK.sDPut, NK.tAnd, NK.tOr, NK.tNot, NK.tTru, NK.tB, eOp, eUn, eCB, eIf, eAnd, eOr, eNot, eVar, eC, aCons, aNil, eTup, eChain, eMeth, eBM, eFld, eCall, eIsi, sPar, sPar3, eDInT, eDGetT, sDPutT, keyT2, keyU, gN, ob, xb, NK.os, NK.xs, nb, rb, kb, eb, List.getElem?_cons_zero, List.getElem?_cons_succ, List.set_cons_zero, List.set_cons_succ, ↓reduceIte, Bool.false_eq_true, Bool.not_true, Bool.not_false, fAdd_i, fSub_i, fNeg_i, fInt_i, fAbs_i, fLt_i, fLe_i, fGt_i, fGe_i, fMin_i, fIsN_n, fNotN_n, fLen_lst, fLen_tup, fTuple_lst, fTuple_tup, non_non, non_bl, non_int, non_str, non_tup, non_lst, non_ins, non_loc, truth_bl, truth_non, truth_int, truth_tup, truth_lst, fMod_i, fDiv_i, fMul_i, Int.reduceLT, Int.reduceNeg, Int.reducePow, Int.reduceLE, Nat.reduceLeDiff, or_true, true_or, and_self, and_true, true_and, List.append_nil, List.length_cons, List.length_nil, Nat.reduceAdd, Nat.zero_add, fEq_ii, fNe_ii, beq_self_eq_true, decide_true, decide_false, Int.reduceBEq, Int.reduceBNe, String.reduceBEq, beq_lit, Bool.true_and, Bool.false_and, Bool.and_true, Bool.and_false, Bool.true_or, Bool.or_true, Bool.false_or, Bool.or_false, Bool.or_self, Bool.bne_true, Bool.bne_false, bne_self_eq_false, Option.isSome_some, Option.isSome_none]
  generalize he : (n * 48271 + t * 16807 + 11) % 2147483647 = e
  have b1 := h1 (n * 48271 + t * 16807 + 11)
  rw [he] at b1
  have c1 : -18446744073709551616 < e ∧ e < 18446744073709551616 := ⟨by omega, by omega⟩
  simp (maxDischargeDepth := 8) -implicitDefEqProofs only [sSeq, sIf, sAsg, sRet, sRetN, sDrop, sSetIx, sNext, sCont, sBrk, NK.sFld, NK.sDPut, NK.tAnd, NK.tOr, NK.tNot, NK.tTru, NK.tB, eOp, eUn, eCB, eIf, eAnd, eOr, eNot, eVar, eC, aCons, aNil, eTup, eChain, eMeth, eBM, eFld, eCall, eIsi, sPar, sPar3, eDInT, eDGetT, sDPutT, keyT2, keyU, gN, ob, xb, NK.os, NK.xs, nb, rb, kb, eb, List.getElem?_cons_zero, List.getElem?_cons_succ, List.set_cons_zero, List.set_cons_succ, ↓reduceIte, Bool.false_eq_true, Bool.not_true, Bool.not_false, fAdd_i, fSub_i, fNeg_i, fInt_i, fAbs_i, fLt_i, fLe_i, fGt_i, fGe_i, fMin_i, fIsN_n, fNotN_n, fLen_lst, fLen_tup, fTuple_lst, fTuple_tup, non_non, non_bl, non_int, non_str, non_tup, non_lst, non_ins, non_loc, truth_bl, truth_non, truth_int, truth_tup, truth_lst, fMod_i, fDiv_i, fMul_i, Int.reduceLT, Int.reduceNeg, Int.reducePow, Int.reduceLE, Nat.reduceLeDiff, or_true, true_or, and_self, and_true, true_and, List.append_nil, List.length_cons, List.length_nil, Nat.reduceAdd, Nat.zero_add, fEq_ii, fNe_ii, beq_self_eq_true, decide_true, decide_false, Int.reduceBEq, Int.reduceBNe, String.reduceBEq, beq_lit, Bool.true_and, Bool.false_and, Bool.and_true, Bool.and_false, Bool.true_or, Bool.or_true, Bool.false_or, Bool.or_false, Bool.or_self, Bool.bne_true, Bool.bne_false, bne_self_eq_false, Option.isSome_some, Option.isSome_none, c1]
  generalize hf : (e * e + e / 127 * 40692 + t * 69621) % 2147483399 = f
  have b2 := h2 (e * e + e / 127 * 40692 + t * 69621)
  rw [hf] at b2
  have c2 : -18446744073709551616 < f ∧ f < 18446744073709551616 := ⟨by omega, by omega⟩
  simp (maxDischargeDepth := 8) -implicitDefEqProofs only [sSeq, sIf, sAsg, sRet, sRetN, sDrop, sSetIx, sNext, sCont, sBrk, NK.sFld, NK.sDPut, NK.tAnd, NK.tOr, NK.tNot, NK.tTru, NK.tB, eOp, eUn, eCB, eIf, eAnd, eOr, eNot, eVar, eC, aCons, aNil, eTup, eChain, eMeth, eBM, eFld, eCall, eIsi, sPar, sPar3, eDInT, eDGetT, sDPutT, keyT2, keyU, gN, ob, xb, NK.os, NK.xs, nb, rb, kb, eb, List.getElem?_cons_zero, List.getElem?_cons_succ, List.set_cons_zero, List.set_cons_succ, ↓reduceIte, Bool.false_eq_true, Bool.not_true, Bool.not_false, fAdd_i, fSub_i, fNeg_i, fInt_i, fAbs_i, fLt_i, fLe_i, fGt_i, fGe_i, fMin_i, fIsN_n, fNotN_n, fLen_lst, fLen_tup, fTuple_lst, fTuple_tup, non_non, non_bl, non_int, non_str, non_tup, non_lst, non_ins, non_loc, truth_bl, truth_non, truth_int, truth_tup, truth_lst, fMod_i, fDiv_i, fMul_i, Int.reduceLT, Int.reduceNeg, Int.reducePow, Int.reduceLE, Nat.reduceLeDiff, or_true, true_or, and_self, and_true, true_and, List.append_nil, List.length_cons, List.length_nil, Nat.reduceAdd, Nat.zero_add, fEq_ii, fNe_ii, beq_self_eq_true, decide_true, decide_false, Int.reduceBEq, Int.reduceBNe, String.reduceBEq, beq_lit, Bool.true_and, Bool.false_and, Bool.and_true, Bool.and_false, Bool.true_or, Bool.or_true, Bool.false_or, Bool.or_false, Bool.or_self, Bool.bne_true, Bool.bne_false, bne_self_eq_false, Option.isSome_some, Option.isSome_none, c2]
  exact ⟨_, rfl⟩

def hob (cs : List Int) (i r t : Int) : Ob := .lst [.lst (cs.map U.int), .int i, .int r, .int t]
def HOb (o : Ob) : Prop := ∃ cs i r t, o = hob cs i r t ∧ 0 ≤ i ∧ 0 ≤ r
theorem ints_under : ∀ cs : List Int, U.underL 0 (cs.map U.int) = true
  | [] => rfl
  | c :: cs => by
    show U.underL 0 (U.int c :: cs.map U.int) = true
    unfold U.underL
    rw [ints_under cs]
    rfl
theorem HOb.under {o : Ob} (h : HOb o) : o.under 0 = true := by
  obtain ⟨cs, i, r, t, rfl, _, _⟩ := h
  show U.underL 0 [.lst (cs.map U.int), .int i, .int r, .int t] = true
  simp [U.underL, U.under, ints_under cs]
section
variable {cs : List Int} {i r t : Int} {st : Sto}
theorem ix0 : fIx (.loc 0) (.int 0) (hob cs i r t :: st) = .ok (.lst (cs.map U.int)) (hob cs i r t :: st) := rfl
theorem ix1 : fIx (.loc 0) (.int 1) (hob cs i r t :: st) = .ok (.int i) (hob cs i r t :: st) := rfl
theorem ix2 : fIx (.loc 0) (.int 2) (hob cs i r t :: st) = .ok (.int r) (hob cs i r t :: st) := rfl
theorem ix3 : fIx (.loc 0) (.int 3) (hob cs i r t :: st) = .ok (.int t) (hob cs i r t :: st) := rfl
theorem set1 {x : Int} : setIx (.loc 0) (.int 1) (.int x) (hob cs i r t :: st) = some (hob cs x r t :: st) := rfl
theorem set2 {x : Int} : setIx (.loc 0) (.int 2) (.int x) (hob cs i r t :: st) = some (hob cs i x t :: st) := rfl
theorem set3 {x : Int} : setIx (.loc 0) (.int 3) (.int x) (hob cs i r t :: st) = some (hob cs i r x :: st) := rfl
theorem cell_at (h0 : 0 ≤ i) (h1 : i < cs.length) : ∃ c : Int, fIx (.lst (cs.map U.int)) (.int i) st = .ok (.int c) st := by
  obtain ⟨k, rfl⟩ := Int.eq_ofNat_of_zero_le h0
  have hk : k < cs.length := by omega
  refine ⟨cs[k], fIx_lst ?_⟩
  rw [NK.atI_nat]
  simp [hk]
end
theorem draw_ok {h : Ob} {st : Sto} {m : Int} (H : HOb h) (hm : 0 < m) (hm2 : m < 1000000000000000000000000000000000000000000000000000000000000) : ∃ d h', HOb h' ∧ 0 ≤ d ∧ d < m ∧ m_u_law_draw [.loc 0, .int m] (h :: st) = .ok (.int d) (h' :: st) := by
  obtain ⟨cs, i, r, t, rfl, hi, hr⟩ := H
  have fin : ∀ {d : Int} {o : Ob}, HOb o → b_u_law_draw [some (.loc 0), some (.int m), none, none] (hob cs i r t :: st) = .ret (.int (d % m)) (o :: st) → ∃ d h', HOb h' ∧ 0 ≤ d ∧ d < m ∧ m_u_law_draw [.loc 0, .int m] (hob cs i r t :: st) = .ok (.int d) (h' :: st) := fun {d o} ho e =>
    ⟨d % m, o, ho, Int.emod_nonneg _ (by omega), Int.emod_lt_of_pos _ hm, fs_old rfl e (Old.hand ho.under) rfl⟩
  have hlen : ((cs.map U.int).length : Int) = cs.length := by simp
  -- the second half: r is above 0
  have big : ∀ (i r : Int) (e2 e3 : Option U), 0 ≤ i → 0 < r → (sSeq (sIf (NK.tB (eOp fGt (eOp fIx (eVar 0) (eC (.int 2))) (eC (.int 0)))) (sSeq (sAsg (eOp fIx (eVar 0) (eC (.int 2))) (gN 3))
    (sSeq (sSetIx (eVar 0) (eC (.int 2)) (eOp fDiv (eVar 3) (eVar 1)))
    (sRet (eOp fMod (eCB fInt (aCons (eVar 3) aNil)) (eVar 1))))) sNext)
    (sSeq (sSetIx (eVar 0) (eC (.int 3)) (eOp fMod (eCB fInt (aCons (eOp fAdd (eOp fIx (eVar 0) (eC (.int 3))) (eC (.int 1))) aNil)) (eC (.int 2147483629))))
    (sRet (eOp fMod (eCB fInt (aCons (eCall 2 m_u_law_mix [] (aCons (eOp fIx (eVar 0) (eC (.int 3))) (aCons (eOp fIx (eVar 0) (eC (.int 1))) aNil))) aNil)) (eVar 1))))) [some (.loc 0), some (.int m), e2, e3] (hob cs i r t :: st) = .ret (.int (r % m)) (hob cs i (r / m) t :: st) := by
    intro i r e2 e3 h0 h1
    simp (maxDischargeDepth := 8) -implicitDefEqProofs only [sSeq, sIf, sAsg, sRet, sRetN, sDrop, sSetIx, sNext, sCont, sBrk, NK.sFld, NK.sDPut, NK.tAnd, NK.tOr, NK.tNot, NK.tTru, NK.tB, eOp, eUn, eCB, eIf, eAnd, eOr, eNot, eVar, eC, aCons, aNil, eTup, eChain, eMeth, eBM, eFld, eCall, eIsi, sPar, sPar3, eDInT, eDGetT, sDPutT, keyT2, keyU, gN, ob, xb, NK.os, NK.xs, nb, rb, kb, eb, List.getElem?_cons_zero, List.getElem?_cons_succ, List.set_cons_zero, List.set_cons_succ, ↓reduceIte, Bool.false_eq_true, Bool.not_true, Bool.not_false, fAdd_i, fSub_i, fNeg_i, fInt_i, fAbs_i, fLt_i, fLe_i, fGt_i, fGe_i, fMin_i, fIsN_n, fNotN_n, fLen_lst, fLen_tup, fTuple_lst, fTuple_tup, non_non, non_bl, non_int, non_str, non_tup, non_lst, non_ins, non_loc, truth_bl, truth_non, truth_int, truth_tup, truth_lst, fMod_i, fDiv_i, fMul_i, Int.reduceLT, Int.reduceNeg, Int.reducePow, Int.reduceLE, Nat.reduceLeDiff, or_true, true_or, and_self, and_true, true_and, List.append_nil, List.length_cons, List.length_nil, Nat.reduceAdd, Nat.zero_add, fEq_ii, fNe_ii, beq_self_eq_true, decide_true, decide_false, Int.reduceBEq, Int.reduceBNe, String.reduceBEq, beq_lit, Bool.true_and, Bool.false_and, Bool.and_true, Bool.and_false, Bool.true_or, Bool.or_true, Bool.false_or, Bool.or_false, Bool.or_self, Bool.bne_true, Bool.bne_false, bne_self_eq_false, Option.isSome_some, Option.isSome_none, hm, hm2, ix2, decide_eq_true h1, set2]
  by_cases hr0 : r = 0
  · subst hr0
    by_cases hl : i < cs.length
    · obtain ⟨c, hc⟩ := cell_at (st := hob cs i 0 t :: st) hi hl
      by_cases hb : c < 1000000000000000000
      · obtain ⟨k, hk⟩ := mix_ok (c % 2147483647) (i + 1) (hob cs (i + 1) 0 t :: st)
        refine fin (d := k) (o := hob cs (i + 1) 0 t) ⟨_, _, _, _, rfl, by omega, by omega⟩ ?_
        unfold b_u_law_draw
        simp (maxDischargeDepth := 8) -implicitDefEqProofs only [sSeq, sIf, sAsg, sRet, sRetN, sDrop, sSetIx, sNext, sCont, sBrk, NK.sFld, NK.sDPut, NK.tAnd, NK.tOr, NK.tNot, NK.tTru, NK.tB, eOp, eUn, eCB, eIf, eAnd, eOr, eNot, eVar, eC, aCons, aNil, eTup, eChain, eMeth, eBM, eFld, eCall, eIsi, sPar, sPar3, eDInT, eDGetT, sDPutT, keyT2, keyU, gN, ob, xb, NK.os, NK.xs, nb, rb, kb, eb, List.getElem?_cons_zero, List.getElem?_cons_succ, List.set_cons_zero, List.set_cons_succ, ↓reduceIte, Bool.false_eq_true, Bool.not_true, Bool.not_false, fAdd_i, fSub_i, fNeg_i, fInt_i, fAbs_i, fLt_i, fLe_i, fGt_i, fGe_i, fMin_i, fIsN_n, fNotN_n, fLen_lst, fLen_tup, fTuple_lst, fTuple_tup, non_non, non_bl, non_int, non_str, non_tup, non_lst, non_ins, non_loc, truth_bl, truth_non, truth_int, truth_tup, truth_lst, fMod_i, fDiv_i, fMul_i, Int.reduceLT, Int.reduceNeg, Int.reducePow, Int.reduceLE, Nat.reduceLeDiff, or_true, true_or, and_self, and_true, true_and, List.append_nil, List.length_cons, List.length_nil, Nat.reduceAdd, Nat.zero_add, fEq_ii, fNe_ii, beq_self_eq_true, decide_true, decide_false, Int.reduceBEq, Int.reduceBNe, String.reduceBEq, beq_lit, Bool.true_and, Bool.false_and, Bool.and_true, Bool.and_false, Bool.true_or, Bool.or_true, Bool.false_or, Bool.or_false, Bool.or_self, Bool.bne_true, Bool.bne_false, bne_self_eq_false, Option.isSome_some, Option.isSome_none, hm, hm2, ix0, ix1, ix2, fEq_ii, beq_self_eq_true, hlen, decide_eq_true hl, hc, set1, pow18, decide_eq_true hb, hk]
      · refine fin (d := c) (o := hob cs (i + 1) (c / m) t) ⟨_, _, _, _, rfl, by omega, Int.ediv_nonneg (by omega) (by omega)⟩ ?_
        have hb2 : decide (c < 1000000000000000000) = false := decide_eq_false hb
        have bg := big (i + 1) c (some (.int c)) none (by omega) (by omega)
        unfold b_u_law_draw
        show SO.bind _ _ = _
        rw [show (sIf (NK.tAnd (NK.tB (eOp fEq (eOp fIx (eVar 0) (eC (.int 2))) (eC (.int 0)))) (NK.tB (eOp fLt (eOp fIx (eVar 0) (eC (.int 1))) (eCB fLen (aCons (eOp fIx (eVar 0) (eC (.int 0))) aNil))))) (sSeq (sAsg (eOp fIx (eOp fIx (eVar 0) (eC (.int 0))) (eOp fIx (eVar 0) (eC (.int 1)))) (gN 2))
    (sSeq (sSetIx (eVar 0) (eC (.int 1)) (eOp fAdd (eOp fIx (eVar 0) (eC (.int 1))) (eC (.int 1))))
    (sSeq (sIf (NK.tB (eOp fLt (eVar 2) (eOp fPow (eC (.int 10)) (eC (.int 18))))) (sRet (eOp fMod (eCB fInt (aCons (eCall 2 m_u_law_mix [] (aCons (eOp fMod (eCB fInt (aCons (eVar 2) aNil)) (eC (.int 2147483647))) (aCons (eOp fIx (eVar 0) (eC (.int 1))) aNil))) aNil)) (eVar 1))) sNext)
    (sSetIx (eVar 0) (eC (.int 2)) (eVar 2))))) sNext) [some (.loc 0), some (.int m), none, none] (hob cs i 0 t :: st) = .next [some (.loc 0), some (.int m), some (.int c), none] (hob cs (i + 1) c t :: st) from by
          simp (maxDischargeDepth := 8) -implicitDefEqProofs only [sSeq, sIf, sAsg, sRet, sRetN, sDrop, sSetIx, sNext, sCont, sBrk, NK.sFld, NK.sDPut, NK.tAnd, NK.tOr, NK.tNot, NK.tTru, NK.tB, eOp, eUn, eCB, eIf, eAnd, eOr, eNot, eVar, eC, aCons, aNil, eTup, eChain, eMeth, eBM, eFld, eCall, eIsi, sPar, sPar3, eDInT, eDGetT, sDPutT, keyT2, keyU, gN, ob, xb, NK.os, NK.xs, nb, rb, kb, eb, List.getElem?_cons_zero, List.getElem?_cons_succ, List.set_cons_zero, List.set_cons_succ, ↓reduceIte, Bool.false_eq_true, Bool.not_true, Bool.not_false, fAdd_i, fSub_i, fNeg_i, fInt_i, fAbs_i, fLt_i, fLe_i, fGt_i, fGe_i, fMin_i, fIsN_n, fNotN_n, fLen_lst, fLen_tup, fTuple_lst, fTuple_tup, non_non, non_bl, non_int, non_str, non_tup, non_lst, non_ins, non_loc, truth_bl, truth_non, truth_int, truth_tup, truth_lst, fMod_i, fDiv_i, fMul_i, Int.reduceLT, Int.reduceNeg, Int.reducePow, Int.reduceLE, Nat.reduceLeDiff, or_true, true_or, and_self, and_true, true_and, List.append_nil, List.length_cons, List.length_nil, Nat.reduceAdd, Nat.zero_add, fEq_ii, fNe_ii, beq_self_eq_true, decide_true, decide_false, Int.reduceBEq, Int.reduceBNe, String.reduceBEq, beq_lit, Bool.true_and, Bool.false_and, Bool.and_true, Bool.and_false, Bool.true_or, Bool.or_true, Bool.false_or, Bool.or_false, Bool.or_self, Bool.bne_true, Bool.bne_false, bne_self_eq_false, Option.isSome_some, Option.isSome_none, ix0, ix1, ix2, fEq_ii, beq_self_eq_true, hlen, decide_eq_true hl, hc, set1, pow18, hb2, set2]]
        exact bg
    · have hl2 : decide (i < (cs.length : Int)) = false := decide_eq_false hl
      obtain ⟨k, hk⟩ := mix_ok ((t + 1) % 2147483629) i (hob cs i 0 ((t + 1) % 2147483629) :: st)
      refine fin (d := k) (o := hob cs i 0 ((t + 1) % 2147483629)) ⟨_, _, _, _, rfl, hi, by omega⟩ ?_
      unfold b_u_law_draw
      simp (maxDischargeDepth := 8) -implicitDefEqProofs only [sSeq, sIf, sAsg, sRet, sRetN, sDrop, sSetIx, sNext, sCont, sBrk, NK.sFld, NK.sDPut, NK.tAnd, NK.tOr, NK.tNot, NK.tTru, NK.tB, eOp, eUn, eCB, eIf, eAnd, eOr, eNot, eVar, eC, aCons, aNil, eTup, eChain, eMeth, eBM, eFld, eCall, eIsi, sPar, sPar3, eDInT, eDGetT, sDPutT, keyT2, keyU, gN, ob, xb, NK.os, NK.xs, nb, rb, kb, eb, List.getElem?_cons_zero, List.getElem?_cons_succ, List.set_cons_zero, List.set_cons_succ, ↓reduceIte, Bool.false_eq_true, Bool.not_true, Bool.not_false, fAdd_i, fSub_i, fNeg_i, fInt_i, fAbs_i, fLt_i, fLe_i, fGt_i, fGe_i, fMin_i, fIsN_n, fNotN_n, fLen_lst, fLen_tup, fTuple_lst, fTuple_tup, non_non, non_bl, non_int, non_str, non_tup, non_lst, non_ins, non_loc, truth_bl, truth_non, truth_int, truth_tup, truth_lst, fMod_i, fDiv_i, fMul_i, Int.reduceLT, Int.reduceNeg, Int.reducePow, Int.reduceLE, Nat.reduceLeDiff, or_true, true_or, and_self, and_true, true_and, List.append_nil, List.length_cons, List.length_nil, Nat.reduceAdd, Nat.zero_add, fEq_ii, fNe_ii, beq_self_eq_true, decide_true, decide_false, Int.reduceBEq, Int.reduceBNe, String.reduceBEq, beq_lit, Bool.true_and, Bool.false_and, Bool.and_true, Bool.and_false, Bool.true_or, Bool.or_true, Bool.false_or, Bool.or_false, Bool.or_self, Bool.bne_true, Bool.bne_false, bne_self_eq_false, Option.isSome_some, Option.isSome_none, hm, hm2, ix0, ix1, ix2, ix3, fEq_ii, beq_self_eq_true, hlen, hl2, Int.lt_irrefl, decide_false, set3, hk]
  · have hr1 : 0 < r := by omega
    refine fin (d := r) (o := hob cs i (r / m) t) ⟨_, _, _, _, rfl, hi, Int.ediv_nonneg hr (by omega)⟩ ?_
    have bg := big i r none none hi hr1
    have hz : (r == 0) = false := by simpa using hr0
    unfold b_u_law_draw
    show SO.bind _ _ = _
    rw [show (sIf (NK.tAnd (NK.tB (eOp fEq (eOp fIx (eVar 0) (eC (.int 2))) (eC (.int 0)))) (NK.tB (eOp fLt (eOp fIx (eVar 0) (eC (.int 1))) (eCB fLen (aCons (eOp fIx (eVar 0) (eC (.int 0))) aNil))))) (sSeq (sAsg (eOp fIx (eOp fIx (eVar 0) (eC (.int 0))) (eOp fIx (eVar 0) (eC (.int 1)))) (gN 2))
    (sSeq (sSetIx (eVar 0) (eC (.int 1)) (eOp fAdd (eOp fIx (eVar 0) (eC (.int 1))) (eC (.int 1))))
    (sSeq (sIf (NK.tB (eOp fLt (eVar 2) (eOp fPow (eC (.int 10)) (eC (.int 18))))) (sRet (eOp fMod (eCB fInt (aCons (eCall 2 m_u_law_mix [] (aCons (eOp fMod (eCB fInt (aCons (eVar 2) aNil)) (eC (.int 2147483647))) (aCons (eOp fIx (eVar 0) (eC (.int 1))) aNil))) aNil)) (eVar 1))) sNext)
    (sSetIx (eVar 0) (eC (.int 2)) (eVar 2))))) sNext) [some (.loc 0), some (.int m), none, none] (hob cs i r t :: st) = .next [some (.loc 0), some (.int m), none, none] (hob cs i r t :: st) from by
      simp (maxDischargeDepth := 8) -implicitDefEqProofs only [sSeq, sIf, sAsg, sRet, sRetN, sDrop, sSetIx, sNext, sCont, sBrk, NK.sFld, NK.sDPut, NK.tAnd, NK.tOr, NK.tNot, NK.tTru, NK.tB, eOp, eUn, eCB, eIf, eAnd, eOr, eNot, eVar, eC, aCons, aNil, eTup, eChain, eMeth, eBM, eFld, eCall, eIsi, sPar, sPar3, eDInT, eDGetT, sDPutT, keyT2, keyU, gN, ob, xb, NK.os, NK.xs, nb, rb, kb, eb, List.getElem?_cons_zero, List.getElem?_cons_succ, List.set_cons_zero, List.set_cons_succ, ↓reduceIte, Bool.false_eq_true, Bool.not_true, Bool.not_false, fAdd_i, fSub_i, fNeg_i, fInt_i, fAbs_i, fLt_i, fLe_i, fGt_i, fGe_i, fMin_i, fIsN_n, fNotN_n, fLen_lst, fLen_tup, fTuple_lst, fTuple_tup, non_non, non_bl, non_int, non_str, non_tup, non_lst, non_ins, non_loc, truth_bl, truth_non, truth_int, truth_tup, truth_lst, fMod_i, fDiv_i, fMul_i, Int.reduceLT, Int.reduceNeg, Int.reducePow, Int.reduceLE, Nat.reduceLeDiff, or_true, true_or, and_self, and_true, true_and, List.append_nil, List.length_cons, List.length_nil, Nat.reduceAdd, Nat.zero_add, fEq_ii, fNe_ii, beq_self_eq_true, decide_true, decide_false, Int.reduceBEq, Int.reduceBNe, String.reduceBEq, beq_lit, Bool.true_and, Bool.false_and, Bool.and_true, Bool.and_false, Bool.true_or, Bool.or_true, Bool.false_or, Bool.or_false, Bool.or_self, Bool.bne_true, Bool.bne_false, bne_self_eq_false, Option.isSome_some, Option.isSome_none, ix2, fEq_ii, hz]]
    exact bg
theorem pick_body {md : MF} {things u : U} {n k : Int} {S S1 : Sto} (hl : fLen [things] S = Out.ok (U.int n) S) (hd : md [U.loc 0, U.int n] S = Out.ok (U.int k) S1) (hx : fIx things (U.int k) S1 = Out.ok u S1) :
    (sRet (eOp fIx (eVar 1) (eCall 2 md [] (aCons (eVar 0) (aCons (eCB fLen (aCons (eVar 1) aNil)) aNil))))) [some (U.loc 0), some things] S = SO.ret u S1 := by
  simp (maxDischargeDepth := 8) -implicitDefEqProofs only [sSeq, sIf, sAsg, sRet, sRetN, sDrop, sSetIx, sNext, sCont, sBrk, NK.sFld, NK.sDPut, NK.tAnd, NK.tOr, NK.tNot, NK.tTru, NK.tB, eOp, eUn, eCB, eIf, eAnd, eOr, eNot, eVar, eC, aCons, aNil, eTup, eChain, eMeth, eBM, eFld, eCall, eIsi, sPar, sPar3, eDInT, eDGetT, sDPutT, keyT2, keyU, gN, ob, xb, NK.os, NK.xs, nb, rb, kb, eb, List.getElem?_cons_zero, List.getElem?_cons_succ, List.set_cons_zero, List.set_cons_succ, ↓reduceIte, Bool.false_eq_true, Bool.not_true, Bool.not_false, fAdd_i, fSub_i, fNeg_i, fInt_i, fAbs_i, fLt_i, fLe_i, fGt_i, fGe_i, fMin_i, fIsN_n, fNotN_n, fLen_lst, fLen_tup, fTuple_lst, fTuple_tup, non_non, non_bl, non_int, non_str, non_tup, non_lst, non_ins, non_loc, truth_bl, truth_non, truth_int, truth_tup, truth_lst, fMod_i, fDiv_i, fMul_i, Int.reduceLT, Int.reduceNeg, Int.reducePow, Int.reduceLE, Nat.reduceLeDiff, or_true, true_or, and_self, and_true, true_and, List.append_nil, List.length_cons, List.length_nil, Nat.reduceAdd, Nat.zero_add, fEq_ii, fNe_ii, beq_self_eq_true, decide_true, decide_false, Int.reduceBEq, Int.reduceBNe, String.reduceBEq, beq_lit, Bool.true_and, Bool.false_and, Bool.and_true, Bool.and_false, Bool.true_or, Bool.or_true, Bool.false_or, Bool.or_false, Bool.or_self, Bool.bne_true, Bool.bne_false, bne_self_eq_false, Option.isSome_some, Option.isSome_none, hl, hd, hx]
theorem pick_gen {h : Ob} {st : Sto} {things : U} {n : Nat} {P : U → Prop} (H : HOb h) (hn : 0 < n) (hn2 : n ≤ 1000) (hl : fLen [things] (h :: st) = Out.ok (U.int (n : Int)) (h :: st))
    (hx : ∀ (h' : Ob) (k : Nat), k < n → ∃ u, P u ∧ fIx things (U.int (k : Int)) (h' :: st) = Out.ok u (h' :: st)) : ∃ u h', P u ∧ HOb h' ∧ m_u_law_pick [U.loc 0, things] (h :: st) = Out.ok u (h' :: st) := by
  obtain ⟨d, h', H', d0, d1, e⟩ := draw_ok (st := st) (m := (n : Int)) H (by omega) (by omega)
  obtain ⟨k, rfl⟩ := Int.eq_ofNat_of_zero_le d0
  obtain ⟨u, pu, eu⟩ := hx h' k (by omega)
  exact ⟨u, h', pu, H', run_ret (n := 2) (mb := b_u_law_pick) (env := [some (U.loc 0), some things]) rfl (pick_body hl e eu)⟩
theorem pick_ok {h : Ob} {st : Sto} {us : List U} (H : HOb h) (hne : us ≠ []) (hl : us.length ≤ 1000) : ∃ u h', u ∈ us ∧ HOb h' ∧ m_u_law_pick [U.loc 0, U.lst us] (h :: st) = Out.ok u (h' :: st) :=
  pick_gen (P := (· ∈ us)) H (List.length_pos_iff.mpr hne) hl rfl fun h' k hk => ⟨us[k], List.getElem_mem hk, fIx_lst (by rw [NK.atI_nat]; simp [hk])⟩
def absU : U → U | .int i => .int (if i < 0 then -i else i) | u => u
theorem abs_map (ns : List Int) : ((ns.map U.int).filter fun _ => true).map absU = (ns.map fun i => if i < 0 then -i else i).map U.int := by
  rw [filter_all, List.map_map, List.map_map]
  rfl
theorem hand_ok (ns : List Int) (hl : ns.length ≤ 63) : ∃ h, HOb h ∧ m_u_law_hand [.scr (ns.map U.int)] [] = .ok (.loc 0) [h] := by
  have loop : ∀ (ns : List Int) (k : Nat) (s : Option U) (t : Int) (e2 e3 : Option U), k + ns.length ≤ 1000 → ∃ t' e2' e3', forM (fun _ => True) (gT [2, 3]) l_u_law_hand_1
      (enumFrom k (ns.map U.int)) [s, some (.int t), e2, e3] [] = .next [s, some (.int t'), e2', e3'] [] := by
    intro ns
    induction ns with
    | nil => intro k s t e2 e3 _; exact ⟨t, e2, e3, forM_nil True.intro⟩
    | cons n ns ih =>
      intro k s t e2 e3 hk
      simp only [List.length_cons] at hk
      obtain ⟨t', e2', e3', h⟩ := ih (k + 1) s ((t * 31 + n * ((k : Int) + 7)) % 2147483629) (some (.int (k : Int))) (some (.int n)) (by omega)
      refine ⟨t', e2', e3', Eq.trans (forM_n (env1 := [s, some (.int t), some (.int (k : Int)), some (.int n)]) True.intro rfl ?_) h⟩
      have c : -18446744073709551616 < (k : Int) + 7 ∧ (k : Int) + 7 < 18446744073709551616 := ⟨by omega, by omega⟩
      unfold l_u_law_hand_1
      simp (maxDischargeDepth := 8) -implicitDefEqProofs only [sSeq, sIf, sAsg, sRet, sRetN, sDrop, sSetIx, sNext, sCont, sBrk, NK.sFld, NK.sDPut, NK.tAnd, NK.tOr, NK.tNot, NK.tTru, NK.tB, eOp, eUn, eCB, eIf, eAnd, eOr, eNot, eVar, eC, aCons, aNil, eTup, eChain, eMeth, eBM, eFld, eCall, eIsi, sPar, sPar3, eDInT, eDGetT, sDPutT, keyT2, keyU, gN, ob, xb, NK.os, NK.xs, nb, rb, kb, eb, List.getElem?_cons_zero, List.getElem?_cons_succ, List.set_cons_zero, List.set_cons_succ, ↓reduceIte, Bool.false_eq_true, Bool.not_true, Bool.not_false, fAdd_i, fSub_i, fNeg_i, fInt_i, fAbs_i, fLt_i, fLe_i, fGt_i, fGe_i, fMin_i, fIsN_n, fNotN_n, fLen_lst, fLen_tup, fTuple_lst, fTuple_tup, non_non, non_bl, non_int, non_str, non_tup, non_lst, non_ins, non_loc, truth_bl, truth_non, truth_int, truth_tup, truth_lst, fMod_i, fDiv_i, fMul_i, Int.reduceLT, Int.reduceNeg, Int.reducePow, Int.reduceLE, Nat.reduceLeDiff, or_true, true_or, and_self, and_true, true_and, List.append_nil, List.length_cons, List.length_nil, Nat.reduceAdd, Nat.zero_add, fEq_ii, fNe_ii, beq_self_eq_true, decide_true, decide_false, Int.reduceBEq, Int.reduceBNe, String.reduceBEq, beq_lit, Bool.true_and, Bool.false_and, Bool.and_true, Bool.and_false, Bool.true_or, Bool.or_true, Bool.false_or, Bool.or_false, Bool.or_self, Bool.bne_true, Bool.bne_false, bne_self_eq_false, Option.isSome_some, Option.isSome_none, c]
  obtain ⟨t', e2', e3', hloop⟩ := loop ns 0 (some (.scr (ns.map U.int))) 0 none none (by omega)
  have hc := comp_scope (i := 3) (mt := NK.tYes) (me := eCB fAbs (aCons (eCB fInt (aCons (eVar 3) aNil)) aNil)) (mi := iSeq (eVar 0)) (env := [some (.scr (ns.map U.int)), some (.int t'), e2', e3']) (st := []) (g := fun _ => True)
    absU (fun _ => true) (us := ns.map U.int) (by simp only [iSeq, sSeq, sIf, sAsg, sRet, eCB, eVar, eC, aCons, aNil, ob, List.getElem?_cons_zero, List.getElem?_cons_succ, src]) (fun _ => True.intro) (by simp; omega)
    (fun u hu acc => by
      obtain ⟨n, _, rfl⟩ := List.mem_map.mp hu
      refine ⟨rfl, fun _ => ?_⟩
      simp (maxDischargeDepth := 8) -implicitDefEqProofs only [sSeq, sIf, sAsg, sRet, sRetN, sDrop, sSetIx, sNext, sCont, sBrk, NK.sFld, NK.sDPut, NK.tAnd, NK.tOr, NK.tNot, NK.tTru, NK.tB, eOp, eUn, eCB, eIf, eAnd, eOr, eNot, eVar, eC, aCons, aNil, eTup, eChain, eMeth, eBM, eFld, eCall, eIsi, sPar, sPar3, eDInT, eDGetT, sDPutT, keyT2, keyU, gN, ob, xb, NK.os, NK.xs, nb, rb, kb, eb, List.getElem?_cons_zero, List.getElem?_cons_succ, List.set_cons_zero, List.set_cons_succ, ↓reduceIte, Bool.false_eq_true, Bool.not_true, Bool.not_false, fAdd_i, fSub_i, fNeg_i, fInt_i, fAbs_i, fLt_i, fLe_i, fGt_i, fGe_i, fMin_i, fIsN_n, fNotN_n, fLen_lst, fLen_tup, fTuple_lst, fTuple_tup, non_non, non_bl, non_int, non_str, non_tup, non_lst, non_ins, non_loc, truth_bl, truth_non, truth_int, truth_tup, truth_lst, fMod_i, fDiv_i, fMul_i, Int.reduceLT, Int.reduceNeg, Int.reducePow, Int.reduceLE, Nat.reduceLeDiff, or_true, true_or, and_self, and_true, true_and, List.append_nil, List.length_cons, List.length_nil, Nat.reduceAdd, Nat.zero_add, fEq_ii, fNe_ii, beq_self_eq_true, decide_true, decide_false, Int.reduceBEq, Int.reduceBNe, String.reduceBEq, beq_lit, Bool.true_and, Bool.false_and, Bool.and_true, Bool.and_false, Bool.true_or, Bool.or_true, Bool.false_or, Bool.or_false, Bool.or_self, Bool.bne_true, Bool.bne_false, bne_self_eq_false, Option.isSome_some, Option.isSome_none, absU]) (by
      refine underL_all fun u hu => ?_
      obtain ⟨w, hw, rfl⟩ := List.mem_map.mp hu
      obtain ⟨n, _, rfl⟩ := List.mem_map.mp (List.mem_filter.mp hw).1
      rfl)
  rw [abs_map] at hc
  refine ⟨hob (ns.map fun i => if i < 0 then -i else i) 0 0 t', ⟨_, _, _, _, rfl, by decide, by decide⟩, ?_⟩
  show runF 4 b_u_law_hand [.scr (ns.map U.int)] [] = _
  refine run_ret (env := [some (.scr (ns.map U.int)), none, none, none]) rfl ?_
  unfold b_u_law_hand
  simp (maxDischargeDepth := 8) -implicitDefEqProofs only [sSeq, sIf, sAsg, sRet, sRetN, sDrop, sSetIx, sNext, sCont, sBrk, NK.sFld, NK.sDPut, NK.tAnd, NK.tOr, NK.tNot, NK.tTru, NK.tB, eOp, eUn, eCB, eIf, eAnd, eOr, eNot, eVar, eC, aCons, aNil, eTup, eChain, eMeth, eBM, eFld, eCall, eIsi, sPar, sPar3, eDInT, eDGetT, sDPutT, keyT2, keyU, gN, ob, xb, NK.os, NK.xs, nb, rb, kb, eb, List.getElem?_cons_zero, List.getElem?_cons_succ, List.set_cons_zero, List.set_cons_succ, ↓reduceIte, Bool.false_eq_true, Bool.not_true, Bool.not_false, fAdd_i, fSub_i, fNeg_i, fInt_i, fAbs_i, fLt_i, fLe_i, fGt_i, fGe_i, fMin_i, fIsN_n, fNotN_n, fLen_lst, fLen_tup, fTuple_lst, fTuple_tup, non_non, non_bl, non_int, non_str, non_tup, non_lst, non_ins, non_loc, truth_bl, truth_non, truth_int, truth_tup, truth_lst, fMod_i, fDiv_i, fMul_i, Int.reduceLT, Int.reduceNeg, Int.reducePow, Int.reduceLE, Nat.reduceLeDiff, or_true, true_or, and_self, and_true, true_and, List.append_nil, List.length_cons, List.length_nil, Nat.reduceAdd, Nat.zero_add, fEq_ii, fNe_ii, beq_self_eq_true, decide_true, decide_false, Int.reduceBEq, Int.reduceBNe, String.reduceBEq, beq_lit, Bool.true_and, Bool.false_and, Bool.and_true, Bool.and_false, Bool.true_or, Bool.or_true, Bool.false_or, Bool.or_false, Bool.or_self, Bool.bne_true, Bool.bne_false, bne_self_eq_false, Option.isSome_some, Option.isSome_none, sFor, iEnumA, hloop, hc, eLst, Nat.reduceLeDiff]
  rfl
end G

set_option maxHeartbeats 800000
namespace G
abbrev Ent := List (Option Nat)
def al {α : Type} (es : List (Option α)) (i j : Nat) : Prop := ∃ a, es[i]? = some (some a) ∧ es[j]? = some (some a)
theorem al_symm {α : Type} {es : List (Option α)} {i j : Nat} (h : al es i j) : al es j i := let ⟨a, x, y⟩ := h; ⟨a, y, x⟩
theorem al_trans {α : Type} {es : List (Option α)} {i j k : Nat} (h : al es i j) (g : al es j k) : al es i k := by
  obtain ⟨a, x, y⟩ := h
  obtain ⟨b, z, w⟩ := g
  rw [y] at z
  cases z
  exact ⟨a, x, w⟩
def mk {α β : Type} (es : List (Option α)) (fs : List (Option β)) : Prop := es.map Option.isSome = fs.map Option.isSome
theorem mk_len {α β : Type} {es : List (Option α)} {fs : List (Option β)} (h : mk es fs) : es.length = fs.length := by
  have := congrArg List.length h
  rwa [List.length_map, List.length_map] at this
theorem mk_at {α β : Type} {es : List (Option α)} {fs : List (Option β)} (h : mk es fs) {i : Nat} {a : α} (e : es[i]? = some (some a)) : ∃ b, fs[i]? = some (some b) := by
  have q := congrArg (fun l : List Bool => l[i]?) h
  simp only [List.getElem?_map, e, Option.map_some, Option.isSome_some] at q
  cases r : fs[i]? with
  | none => rw [r] at q; cases q
  | some o =>
    rw [r] at q
    cases o with
    | none => cases q
    | some b => exact ⟨b, rfl⟩
theorem mk_symm {α β : Type} {es : List (Option α)} {fs : List (Option β)} (h : mk es fs) : mk fs es := Eq.symm h
theorem mk_trans {α β γ : Type} {es : List (Option α)} {fs : List (Option β)} {gs : List (Option γ)} (h : mk es fs) (g : mk fs gs) : mk es gs := Eq.trans h g
section
variable {α : Type} [DecidableEq α]
def numGo (met : List α) : List (Option α) → Ent
  | [] => []
  | none :: xs => none :: numGo met xs
  | some x :: xs => if x ∈ met then some (met.idxOf x) :: numGo met xs else some met.length :: numGo (met ++ [x]) xs
def num (xs : List (Option α)) : Ent := numGo [] xs
def finM (met : List α) : List (Option α) → List α
  | [] => met
  | none :: xs => finM met xs
  | some x :: xs => if x ∈ met then finM met xs else finM (met ++ [x]) xs
theorem finM_pre : ∀ (xs : List (Option α)) (met : List α), ∃ t, finM met xs = met ++ t
  | [], met => ⟨[], (List.append_nil _).symm⟩
  | none :: xs, met => finM_pre xs met
  | some x :: xs, met => by
    unfold finM
    split
    · exact finM_pre xs met
    · obtain ⟨t, e⟩ := finM_pre xs (met ++ [x])
      exact ⟨[x] ++ t, by rw [e, List.append_assoc]⟩
theorem finM_mem : ∀ (xs : List (Option α)) (met : List α) (x : α), x ∈ met ∨ some x ∈ xs → x ∈ finM met xs
  | [], met, x, h => h.elim id fun z => by cases z
  | none :: xs, met, x, h => finM_mem xs met x (h.imp id fun z => by
    rcases List.mem_cons.mp z with z | z
    · cases z
    · exact z)
  | some y :: xs, met, x, h => by
    unfold finM
    split
    · rename_i hy
      refine finM_mem xs met x (h.elim .inl fun z => ?_)
      rcases List.mem_cons.mp z with z | z
      · cases z; exact .inl hy
      · exact .inr z
    · refine finM_mem xs (met ++ [y]) x ?_
      rcases h with h | h
      · exact .inl (List.mem_append_left _ h)
      · rcases List.mem_cons.mp h with z | z
        · cases z; exact .inl (List.mem_append_right _ (List.mem_singleton.mpr rfl))
        · exact .inr z
theorem idx_app {x : α} {a b : List α} (h : x ∈ a) : (a ++ b).idxOf x = a.idxOf x := by rw [List.idxOf_append, if_pos h]
theorem numGo_map : ∀ (xs : List (Option α)) (met : List α), numGo met xs = xs.map (Option.map (finM met xs).idxOf)
  | [], _ => rfl
  | none :: xs, met => by
    unfold numGo finM
    rw [numGo_map xs met, List.map_cons, Option.map_none]
  | some x :: xs, met => by
    unfold numGo finM
    split
    · rename_i hx
      obtain ⟨t, e⟩ := finM_pre xs met
      rw [numGo_map xs met, List.map_cons, Option.map_some]
      rw [show (finM met xs).idxOf x = met.idxOf x by rw [e]; exact idx_app hx]
    · rename_i hx
      obtain ⟨t, e⟩ := finM_pre xs (met ++ [x])
      rw [numGo_map xs (met ++ [x]), List.map_cons, Option.map_some]
      have q : (finM (met ++ [x]) xs).idxOf x = met.length := by
        rw [e, idx_app (List.mem_append_right _ (List.mem_singleton.mpr rfl)), List.idxOf_append, if_neg hx]
        simp
      rw [q]
theorem num_map (xs : List (Option α)) : num xs = xs.map (Option.map (finM [] xs).idxOf) := numGo_map xs []
theorem num_len (xs : List (Option α)) : (num xs).length = xs.length := by rw [num_map, List.length_map]
theorem num_mk (xs : List (Option α)) : mk (num xs) xs := by
  unfold mk
  rw [num_map, List.map_map]
  refine List.map_congr_left fun o _ => ?_
  cases o <;> rfl
theorem num_al {xs : List (Option α)} {i j : Nat} : al (num xs) i j ↔ al xs i j := by
  have g : ∀ {k : Nat} {a : Nat}, (num xs)[k]? = some (some a) ↔ ∃ x, xs[k]? = some (some x) ∧ (finM [] xs).idxOf x = a := fun {k a} => by
    rw [num_map, List.getElem?_map]
    cases xs[k]? with
    | none => simp
    | some o => cases o <;> simp
  constructor
  · rintro ⟨a, h1, h2⟩
    obtain ⟨x, e1, q1⟩ := g.mp h1
    obtain ⟨y, e2, q2⟩ := g.mp h2
    have m1 : x ∈ finM [] xs := finM_mem xs [] x (.inr (List.mem_of_getElem? e1))
    have m2 : y ∈ finM [] xs := finM_mem xs [] y (.inr (List.mem_of_getElem? e2))
    have e : x = y := by
      have l1 := List.idxOf_lt_length_iff.mpr m1
      have l2 := List.idxOf_lt_length_iff.mpr m2
      have t1 := List.getElem_idxOf l1
      have t2 := List.getElem_idxOf l2
      have w : (finM [] xs).idxOf x = (finM [] xs).idxOf y := q1.trans q2.symm
      rw [← t1, ← t2]
      simp only [w]
    subst e
    exact ⟨x, e1, e2⟩
  · rintro ⟨x, e1, e2⟩
    exact ⟨_, g.mpr ⟨x, e1, rfl⟩, g.mpr ⟨x, e2, rfl⟩⟩
end
def canGo : Nat → Ent → Prop
  | _, [] => True
  | m, none :: es => canGo m es
  | m, some k :: es => (k < m ∧ canGo m es) ∨ (k = m ∧ canGo (m + 1) es)
abbrev Can (es : Ent) : Prop := canGo 0 es
theorem numGo_can {α : Type} [DecidableEq α] : ∀ (xs : List (Option α)) (met : List α), canGo met.length (numGo met xs)
  | [], _ => True.intro
  | none :: xs, met => numGo_can xs met
  | some x :: xs, met => by
    unfold numGo
    split
    · rename_i h
      exact .inl ⟨List.idxOf_lt_length_iff.mpr h, numGo_can xs met⟩
    · have := numGo_can xs (met ++ [x])
      rw [List.length_append] at this
      exact .inr ⟨rfl, this⟩
theorem num_can {α : Type} [DecidableEq α] (xs : List (Option α)) : Can (num xs) := numGo_can xs []
def run : Nat → Ent → Nat
  | m, [] => m
  | m, none :: es => run m es
  | m, some k :: es => if k = m then run (m + 1) es else run m es
theorem run_ge : ∀ (es : Ent) (m : Nat), m ≤ run m es
  | [], _ => Nat.le_refl _
  | none :: es, m => run_ge es m
  | some k :: es, m => by
    unfold run
    split
    · exact Nat.le_trans (Nat.le_succ m) (run_ge es (m + 1))
    · exact run_ge es m
theorem run_met : ∀ (es : Ent) (m v : Nat), canGo m es → m ≤ v → v < run m es → some v ∈ es
  | [], m, v, _, h1, h2 => absurd h2 (Nat.not_lt.mpr h1)
  | none :: es, m, v, c, h1, h2 => List.mem_cons_of_mem _ (run_met es m v c h1 h2)
  | some k :: es, m, v, c, h1, h2 => by
    unfold run at h2
    rcases c with ⟨hk, c⟩ | ⟨rfl, c⟩
    · rw [if_neg (by omega)] at h2
      exact List.mem_cons_of_mem _ (run_met es m v c h1 h2)
    · rw [if_pos rfl] at h2
      by_cases e : v = k
      · rw [e]; exact List.mem_cons_self
      · exact List.mem_cons_of_mem _ (run_met es (k + 1) v c (by omega) h2)
theorem can_at : ∀ (es : Ent) (m i a : Nat), canGo m es → es[i]? = some (some a) → a ≤ run m (es.take i)
  | [], _, _, _, _, h => by simp at h
  | o :: es, m, 0, a, c, h => by
    simp only [List.getElem?_cons_zero, Option.some.injEq] at h
    subst h
    show a ≤ m
    rcases c with ⟨h, _⟩ | ⟨h, _⟩ <;> omega
  | none :: es, m, i + 1, a, c, h => can_at es m i a c (by simpa using h)
  | some k :: es, m, i + 1, a, c, h => by
    have h' : es[i]? = some (some a) := by simpa using h
    show a ≤ run m (some k :: es.take i)
    unfold run
    rcases c with ⟨hk, c⟩ | ⟨rfl, c⟩
    · rw [if_neg (by omega)]
      exact can_at es m i a c h'
    · rw [if_pos rfl]
      exact can_at es (k + 1) i a c h'
theorem can_take : ∀ (es : Ent) (m i : Nat), canGo m es → canGo m (es.take i)
  | [], _, _, _ => by rw [List.take_nil]; exact True.intro
  | _ :: _, _, 0, _ => True.intro
  | none :: es, m, i + 1, c => can_take es m i c
  | some k :: es, m, i + 1, c => c.imp (fun ⟨h, c⟩ => ⟨h, can_take es m i c⟩) fun ⟨h, c⟩ => ⟨h, can_take es (m + 1) i c⟩
theorem can_new {es : Ent} {i a : Nat} (c : Can es) (e : es[i]? = some (some a)) (h : ∀ j, j < i → ¬ al es i j) : a = run 0 (es.take i) := by
  have le := can_at es 0 i a c e
  refine Classical.byContradiction fun ne => ?_
  have m := run_met (es.take i) 0 a (can_take es 0 i c) (Nat.zero_le _) (by omega)
  obtain ⟨j, hj⟩ := List.mem_iff_getElem?.mp m
  rw [List.getElem?_take] at hj
  split at hj
  · rename_i lt
    exact h j lt ⟨a, e, hj⟩
  · cases hj
theorem can_uniq {es fs : Ent} (c1 : Can es) (c2 : Can fs) (m : mk es fs) (h : ∀ i j, al es i j ↔ al fs i j) : es = fs := by
  have key : ∀ n, es.take n = fs.take n := fun n => by
    induction n with
    | zero => rfl
    | succ n ih =>
      have e : es[n]? = fs[n]? := by
        cases q : es[n]? with
        | none =>
          have l := List.getElem?_eq_none_iff.mp q
          exact (List.getElem?_eq_none_iff.mpr (by have := mk_len m; omega)).symm
        | some o =>
          cases o with
          | none =>
            cases r : fs[n]? with
            | none =>
              have l := List.getElem?_eq_none_iff.mp r
              have l2 := (List.getElem?_eq_some_iff.mp q).1
              have := mk_len m
              omega
            | some o =>
              cases o with
              | none => rfl
              | some b =>
                obtain ⟨a, ha⟩ := mk_at (mk_symm m) r
                rw [q] at ha
                cases ha
          | some a =>
            obtain ⟨b, r⟩ := mk_at m q
            rw [r]
            by_cases z : ∃ j, j < n ∧ al es n j
            · obtain ⟨j, lt, w⟩ := z
              obtain ⟨a', x, y⟩ := id w
              rw [q] at x
              cases x
              obtain ⟨b', x', y'⟩ := (h n j).mp w
              rw [r] at x'
              cases x'
              have t := congrArg (fun l : Ent => l[j]?) ih
              simp only [List.getElem?_take, if_pos lt] at t
              rw [y, y'] at t
              exact t
            · have n1 : ∀ j, j < n → ¬ al es n j := fun j lt w => z ⟨j, lt, w⟩
              have n2 : ∀ j, j < n → ¬ al fs n j := fun j lt w => z ⟨j, lt, (h n j).mpr w⟩
              rw [can_new c1 q n1, can_new c2 r n2, ih]
      rw [List.take_succ, List.take_succ, ih, e]
  have l := mk_len m
  have k := key es.length
  rwa [List.take_length, l, List.take_length] at k
end G

namespace G
section
variable {β : Type} [DecidableEq β]
end
structure IsOr (es fs : Ent) (M : Ent) : Prop where
  mm : mk M es
  l : ∀ i j, al es i j → al M i j
  r : ∀ i j, al fs i j → al M i j
  least : ∀ E : Nat → Nat → Prop, (∀ i j, E i j → E j i) → (∀ i j k, E i j → E j k → E i k) → (∀ i j, al es i j → E i j) → (∀ i j, al fs i j → E i j) → ∀ i j, al M i j → E i j
theorem IsOr.sub {es fs M K : Ent} (a : IsOr es fs M) (b : IsOr es fs K) {i j : Nat} (h : al M i j) : al K i j := a.least (al K) (fun _ _ => al_symm) (fun _ _ _ => al_trans) b.l b.r i j h
section
variable {es fs hs : Ent} (c1 : Can es) (c2 : Can fs) (c3 : Can hs) (m : mk es fs) (m2 : mk fs hs)
end
end G

namespace G
theorem run_lt : ∀ (es : Ent) (m k : Nat), canGo m es → some k ∈ es → k < run m es
  | [], _, _, _, h => by cases h
  | none :: es, m, k, c, h => run_lt es m k c (by
    rcases List.mem_cons.mp h with z | z
    · cases z
    · exact z)
  | some j :: es, m, k, c, h => by
    unfold run
    rcases c with ⟨hj, c⟩ | ⟨rfl, c⟩
    · rw [if_neg (by omega)]
      rcases List.mem_cons.mp h with z | z
      · cases z
        exact Nat.lt_of_lt_of_le hj (run_ge es m)
      · exact run_lt es m k c z
    · rw [if_pos rfl]
      rcases List.mem_cons.mp h with z | z
      · cases z
        exact Nat.lt_of_lt_of_le (Nat.lt_succ_self _) (run_ge es _)
      · exact run_lt es _ k c z
theorem run_le_len : ∀ (es : Ent) (m : Nat), run m es ≤ m + es.length
  | [], _ => Nat.le_refl _
  | none :: es, m => by
    have := run_le_len es m
    rw [List.length_cons]
    show run m es ≤ _
    omega
  | some j :: es, m => by
    rw [List.length_cons]
    unfold run
    split
    · have := run_le_len es (m + 1)
      omega
    · have := run_le_len es m
      omega
def rowE (es : Ent) (ns : List Nat) : Ent := es.map fun o => o.map fun k => ns.getD k 0
theorem rowE_len {es : Ent} {ns : List Nat} : (rowE es ns).length = es.length := List.length_map ..
theorem rowE_mk (es : Ent) (ns : List Nat) : mk (rowE es ns) es := by
  unfold mk rowE
  rw [List.map_map]
  refine List.map_congr_left fun o _ => ?_
  cases o <;> rfl
theorem nd_getD {ns : List Nat} (nd : ns.Nodup) {i j : Nat} (hi : i < ns.length) (hj : j < ns.length) (e : ns.getD i 0 = ns.getD j 0) : i = j := by
  rw [List.getD_eq_getElem?_getD, List.getD_eq_getElem?_getD, List.getElem?_eq_getElem hi, List.getElem?_eq_getElem hj] at e
  exact (List.getElem_inj nd).mp e
theorem row_num {es : Ent} {ns : List Nat} (c : Can es) (nd : ns.Nodup) (h : run 0 es ≤ ns.length) : num (rowE es ns) = es := by
  refine can_uniq (num_can _) c (mk_trans (num_mk _) (rowE_mk _ _)) fun i j => num_al.trans ?_
  have g : ∀ {i k : Nat}, es[i]? = some (some k) → k < ns.length := fun {i k} e => Nat.lt_of_lt_of_le (run_lt es 0 k c (List.mem_of_getElem? e)) h
  constructor
  · rintro ⟨x, h1, h2⟩
    unfold rowE at h1 h2
    rw [List.getElem?_map] at h1 h2
    obtain ⟨o1, e1, f1⟩ := Option.map_eq_some_iff.mp h1
    obtain ⟨o2, e2, f2⟩ := Option.map_eq_some_iff.mp h2
    obtain ⟨k1, rfl, g1⟩ := Option.map_eq_some_iff.mp f1
    obtain ⟨k2, rfl, g2⟩ := Option.map_eq_some_iff.mp f2
    have := nd_getD nd (g e1) (g e2) (g1.trans g2.symm)
    subst this
    exact ⟨k1, e1, e2⟩
  · rintro ⟨k, e1, e2⟩
    refine ⟨ns.getD k 0, ?_, ?_⟩
    · unfold rowE; rw [List.getElem?_map, e1]; rfl
    · unfold rowE; rw [List.getElem?_map, e2]; rfl
theorem num_self {es : Ent} (c : Can es) : num es = es := can_uniq (num_can _) c (num_mk es) fun _ _ => num_al
def fd : Nat → Ent → Ent → Option Nat
  | k, a :: A, b :: B => if a = b then fd (k + 1) A B else some k
  | _, _, _ => none
theorem fd_same : ∀ (A : Ent) (k : Nat), fd k A A = none
  | [], _ => rfl
  | a :: A, k => by
    unfold fd
    rw [if_pos rfl]
    exact fd_same A (k + 1)
theorem fd_symm : ∀ (A B : Ent) (k : Nat), fd k A B = fd k B A
  | [], [], _ => rfl
  | [], _ :: _, _ => rfl
  | _ :: _, [], _ => rfl
  | a :: A, b :: B, k => by
    unfold fd
    by_cases h : a = b
    · rw [if_pos h, if_pos h.symm, fd_symm A B (k + 1)]
    · rw [if_neg h, if_neg fun z => h z.symm]
def rn : Nat → List (Nat × Nat) → Ent → Ent → Ent → Ent → Nat ⊕ List (Nat × Nat)
  | k, ps, a :: A, b :: B, o :: O, p :: P => if a = b then rn (k + 1) (if a = some ps.length then ps ++ [(o.getD 0, p.getD 0)] else ps) A B O P else .inl k
  | _, ps, [], [], _, _ => .inr ps
  | k, _, _, _, _, _ => .inl k
theorem rn_no : ∀ (A B O P : Ent) (k : Nat) (ps : List (Nat × Nat)), A ≠ B → ∃ j, rn k ps A B O P = .inl j
  | [], [], _, _, _, _, h => absurd rfl h
  | [], _ :: _, _, _, k, _, _ => ⟨k, by unfold rn; rfl⟩
  | _ :: _, [], _, _, k, _, _ => ⟨k, by unfold rn; rfl⟩
  | _ :: _, _ :: _, [], _, k, _, _ => ⟨k, by unfold rn; rfl⟩
  | _ :: _, _ :: _, _ :: _, [], k, _, _ => ⟨k, by unfold rn; rfl⟩
  | a :: A, b :: B, o :: O, p :: P, k, ps, h => by
    unfold rn
    by_cases e : a = b
    · rw [if_pos e]
      exact rn_no A B O P _ _ fun z => h (by rw [e, z])
    · rw [if_neg e]
      exact ⟨k, rfl⟩
theorem rn_yes : ∀ (O P : Ent) (k : Nat) (ps : List (Nat × Nat)), numGo (ps.map Prod.fst) O = numGo (ps.map Prod.snd) P → ∃ qs, rn k ps (numGo (ps.map Prod.fst) O) (numGo (ps.map Prod.snd) P) O P = .inr qs ∧ qs.map Prod.fst = finM (ps.map Prod.fst) O ∧ qs.map Prod.snd = finM (ps.map Prod.snd) P
  | [], [], _, ps, _ => ⟨ps, by unfold numGo rn; rfl, rfl, rfl⟩
  | [], some y :: P, _, ps, h => by
    unfold numGo at h
    split at h <;> cases h
  | [], none :: P, _, ps, h => by
    unfold numGo at h
    cases h
  | some x :: O, [], _, ps, h => by
    unfold numGo at h
    split at h <;> cases h
  | none :: O, [], _, ps, h => by
    unfold numGo at h
    cases h
  | none :: O, none :: P, k, ps, h => by
    have h2 : none :: numGo (ps.map Prod.fst) O = none :: numGo (ps.map Prod.snd) P := h
    obtain ⟨qs, e1, e2, e3⟩ := rn_yes O P (k + 1) ps (List.cons.inj h2).2
    refine ⟨qs, ?_, e2, e3⟩
    show (if (none : Option Nat) = none then rn (k + 1) (if (none : Option Nat) = some ps.length then _ else ps) _ _ O P else _) = _
    rw [if_pos rfl, if_neg (fun z => nomatch z)]
    exact e1
  | none :: O, some y :: P, _, ps, h => by
    have h2 : none :: numGo (ps.map Prod.fst) O = (if y ∈ ps.map Prod.snd then some ((ps.map Prod.snd).idxOf y) :: numGo (ps.map Prod.snd) P else some (ps.map Prod.snd).length :: numGo (ps.map Prod.snd ++ [y]) P) := h
    split at h2 <;> exact nomatch (List.cons.inj h2).1
  | some x :: O, none :: P, _, ps, h => by
    have h2 : (if x ∈ ps.map Prod.fst then some ((ps.map Prod.fst).idxOf x) :: numGo (ps.map Prod.fst) O else some (ps.map Prod.fst).length :: numGo (ps.map Prod.fst ++ [x]) O) = none :: numGo (ps.map Prod.snd) P := h
    split at h2 <;> exact nomatch (List.cons.inj h2).1
  | some x :: O, some y :: P, k, ps, h => by
    have u1 : numGo (ps.map Prod.fst) (some x :: O) = if x ∈ ps.map Prod.fst then some ((ps.map Prod.fst).idxOf x) :: numGo (ps.map Prod.fst) O else some (ps.map Prod.fst).length :: numGo (ps.map Prod.fst ++ [x]) O := rfl
    have u2 : numGo (ps.map Prod.snd) (some y :: P) = if y ∈ ps.map Prod.snd then some ((ps.map Prod.snd).idxOf y) :: numGo (ps.map Prod.snd) P else some (ps.map Prod.snd).length :: numGo (ps.map Prod.snd ++ [y]) P := rfl
    have l1 : (ps.map Prod.fst).length = ps.length := List.length_map ..
    have l2 : (ps.map Prod.snd).length = ps.length := List.length_map ..
    have w1 : finM (ps.map Prod.fst) (some x :: O) = if x ∈ ps.map Prod.fst then finM (ps.map Prod.fst) O else finM (ps.map Prod.fst ++ [x]) O := rfl
    have w2 : finM (ps.map Prod.snd) (some y :: P) = if y ∈ ps.map Prod.snd then finM (ps.map Prod.snd) P else finM (ps.map Prod.snd ++ [y]) P := rfl
    rw [u1, u2] at h
    rw [u1, u2, w1, w2]
    by_cases hx : x ∈ ps.map Prod.fst
    · have i1 := List.idxOf_lt_length_iff.mpr hx
      by_cases hy : y ∈ ps.map Prod.snd
      · rw [if_pos hx, if_pos hy] at h
        obtain ⟨g1, g2⟩ := List.cons.inj h
        obtain ⟨qs, e1, e2, e3⟩ := rn_yes O P (k + 1) ps g2
        rw [if_pos hx, if_pos hy, if_pos hx, if_pos hy]
        refine ⟨qs, ?_, e2, e3⟩
        show (if some ((ps.map Prod.fst).idxOf x) = some ((ps.map Prod.snd).idxOf y) then rn (k + 1) (if some ((ps.map Prod.fst).idxOf x) = some ps.length then _ else ps) _ _ O P else _) = _
        rw [if_pos g1, if_neg (fun z => by have := Option.some.inj z; omega)]
        exact e1
      · rw [if_pos hx, if_neg hy] at h
        have := Option.some.inj (List.cons.inj h).1
        omega
    · by_cases hy : y ∈ ps.map Prod.snd
      · have i2 := List.idxOf_lt_length_iff.mpr hy
        rw [if_neg hx, if_pos hy] at h
        have := Option.some.inj (List.cons.inj h).1
        omega
      · rw [if_neg hx, if_neg hy] at h
        obtain ⟨g1, g2⟩ := List.cons.inj h
        have m1 : (ps ++ [(x, y)]).map Prod.fst = ps.map Prod.fst ++ [x] := by rw [List.map_append]; rfl
        have m2 : (ps ++ [(x, y)]).map Prod.snd = ps.map Prod.snd ++ [y] := by rw [List.map_append]; rfl
        have ih := rn_yes O P (k + 1) (ps ++ [(x, y)]) (by rw [m1, m2]; exact g2)
        rw [m1, m2] at ih
        obtain ⟨qs, e1, e2, e3⟩ := ih
        rw [if_neg hx, if_neg hy, if_neg hx, if_neg hy]
        refine ⟨qs, ?_, e2, e3⟩
        show (if some (ps.map Prod.fst).length = some (ps.map Prod.snd).length then rn (k + 1) (if some (ps.map Prod.fst).length = some ps.length then ps ++ [(x, y)] else ps) _ _ O P else _) = _
        rw [if_pos g1, if_pos (by rw [l1])]
        exact e1
theorem rn_same {O P : Ent} (h : num O = num P) : ∃ qs, rn 0 [] (num O) (num P) O P = .inr qs ∧ qs.map Prod.fst = finM [] O ∧ qs.map Prod.snd = finM [] P := rn_yes O P 0 [] h
theorem finM_nd {α : Type} [DecidableEq α] : ∀ (xs : List (Option α)) (met : List α), met.Nodup → (finM met xs).Nodup
  | [], _, h => h
  | none :: xs, met, h => finM_nd xs met h
  | some x :: xs, met, h => by
    unfold finM
    split
    · exact finM_nd xs met h
    · rename_i hx
      exact finM_nd xs _ (List.nodup_append.mpr ⟨h, by simp, fun a ha b hb z => by
        rw [List.mem_singleton.mp hb] at z
        exact hx (z ▸ ha)⟩)
theorem rn_led {O P : Ent} (h : num O = num P) {i x : Nat} (e : O[i]? = some (some x)) : ∃ y, P[i]? = some (some y) ∧ x ∈ finM [] O ∧ (finM [] P)[(finM [] O).idxOf x]? = some y := by
  have hx : x ∈ finM [] O := finM_mem O [] x (.inr (List.mem_of_getElem? e))
  have q := congrArg (fun l : Ent => l[i]?) h
  simp only [num_map, List.getElem?_map] at q
  rw [e] at q
  cases r : P[i]? with
  | none => rw [r] at q; cases q
  | some o =>
    rw [r] at q
    cases o with
    | none => cases q
    | some y =>
      have hy : y ∈ finM [] P := finM_mem P [] y (.inr (List.mem_of_getElem? r))
      have z : (finM [] O).idxOf x = (finM [] P).idxOf y := Option.some.inj (Option.some.inj q)
      refine ⟨y, rfl, hx, ?_⟩
      rw [z]
      have l := List.idxOf_lt_length_iff.mpr hy
      rw [List.getElem?_eq_getElem l, List.getElem_idxOf l]
end G

namespace G
open PySem L2 NK TL
section
variable {S : Sto}
theorem fAdd_l {a c : List U} (h : a.length + c.length ≤ 1000) : fAdd (.lst a) (.lst c) S = Out.ok (.loc S.length) (S ++ [Ob.lst (a ++ c)]) := by
  show (if a.length + c.length ≤ 16777216 then _ else _) = _
  rw [if_pos (by omega)]
end
section
variable {S : Sto}
end
section
variable {S : Sto} {g g' : Gd}
theorem isi_at {env : NK.Env} {i : Nat} {u : U} {t : Tr} {cs : List Tr} {b : Bool} (he : env[i]? = some (some u)) (ht : trOf u S = some t) (hi : isAny isl t cs = some b) : eIsi isl cs (eVar i) env S = Out.ok (.bl b) S := by
  unfold eIsi eVar
  rw [he]
  show (match trOf u S with | some t => (match isAny isl t cs with | some b => Out.ok (U.bl b) S | none => Out.bad) | none => Out.bad) = _
  rw [ht]
  dsimp only
  rw [hi]
end
section
variable {S : Sto} {g g' : Gd}
theorem and_no {a b : ME} {env : NK.Env} (h : a env S = Out.ok (.bl false) S) : eAnd a b env S = Out.ok (.bl false) S := by
  unfold eAnd
  rw [h]
  rfl
end
section
variable {S : Sto} {g g' : Gd}
theorem and_yes {a b : ME} {env : NK.Env} {r : Out U} (h : a env S = Out.ok (.bl true) S) (h2 : b env S = r) : eAnd a b env S = r := by
  unfold eAnd
  rw [h]
  exact h2
end
section
variable {S : Sto} {g g' : Gd}
theorem fld_at {env : NK.Env} {i k j : Nat} {u w : U} (he : env[i]? = some (some u)) (hg : getF k j u S = some w) : eFld k j (eVar i) env S = Out.ok w S := by
  unfold eFld eVar
  rw [he]
  show (match getF k j u S with | some w => Out.ok w S | none => Out.bad) = _
  rw [hg]
end
section
variable {S : Sto} {g g' : Gd}
theorem beq_dec {α : Type} [DecidableEq α] [BEq α] [LawfulBEq α] (a b : α) : (a == b) = decide (a = b) := by
  by_cases h : a = b
  · subst h; simp
  · rw [beq_eq_false_iff_ne.mpr h, decide_eq_false h]
end
section
variable {S : Sto} {g g' : Gd}
end
section
variable {S : Sto} {g g' : Gd}
theorem fEq_int {i j : Int} : fEq (.int i) (.int j) S = Out.ok (.bl (decide (i = j))) S := by rw [fEq_ii, beq_dec]
end
section
variable {S : Sto} {g g' : Gd}
end
section
variable {S : Sto} {g g' : Gd}
end
section
variable {S : Sto} {g g' : Gd}
end
section
variable {S : Sto} {k : Klz} {x : Str}
end
section
def seqOf : U → Option (List U)
  | .tup us => some us
  | .lst us => some us
  | _ => none
end
section
variable {S : Sto} {m : ME} {env : NK.Env}
theorem drop_n {S1 : Sto} {r : U} (h : m env S = Out.ok r S1) : sDrop m env S = SO.next env S1 := by
  unfold sDrop
  rw [h]
  rfl
end
section
variable {S : Sto} {m : ME} {env : NK.Env}
theorem fld_n {k j : Nat} {us : List U} {w : U} {E : NK.Env} (h : m E (S ++ [.ins k us]) = Out.ok w (S ++ [.ins k us])) (h0 : E[0]? = some (some (.loc S.length))) (hj : j = us.length) : NK.sFld k j (eVar 0) m E (S ++ [.ins k us]) = SO.next E (S ++ [.ins k (us ++ [w])]) := by
  have p := put_s (S := S) (k := k) (j := j) (us := us) (w := w) hj
  unfold NK.sFld eVar
  rw [h]
  show (match E[0]? with | some (some u) => Out.ok u (S ++ [Ob.ins k us]) | _ => Out.bad).st E _ = _
  rw [h0]
  show (match putFld k j (.loc S.length) w (S ++ [.ins k us]) with | some st3 => SO.next E st3 | none => SO.bad) = _
  rw [p]
end
section
variable {S : Sto} {e1 e2 e3 e4 e5 : U} {ps qs : List (U × Option Klz)} {hq mq wq : RQ}
theorem call2 {k : Nat} {mf : MF} {a b : ME} {env : NK.Env} {x y : U} {r : Out U} (hk : k = 2) (ha : a env S = Out.ok x S) (hb : b env S = Out.ok y S) (h : mf [x, y] S = r) : eCall k mf [] (aCons a (aCons b aNil)) env S = r := by
  subst hk
  simp only [eCall, aCons, aNil, ha, hb, ob, List.append_nil]
  exact (if_pos rfl).trans h
end
section
variable {S : Sto} {e1 e2 e3 e4 e5 : U} {ps qs : List (U × Option Klz)} {hq mq wq : RQ}
theorem call1 {k : Nat} {mf : MF} {a : ME} {env : NK.Env} {x : U} {r : Out U} (hk : k = 1) (ha : a env S = Out.ok x S) (h : mf [x] S = r) : eCall k mf [] (aCons a aNil) env S = r := by
  subst hk
  unfold eCall aCons
  rw [ha]
  exact h
end
section
variable {S : Sto} {e1 e2 e3 e4 e5 : U} {ps qs : List (U × Option Klz)} {hq mq wq : RQ}
theorem call3 {k : Nat} {mf : MF} {a b c : ME} {env : NK.Env} {x y z : U} {r : Out U} (hk : k = 3) (ha : a env S = Out.ok x S) (hb : b env S = Out.ok y S) (hc : c env S = Out.ok z S) (h : mf [x, y, z] S = r) : eCall k mf [] (aCons a (aCons b (aCons c aNil))) env S = r := by
  subst hk
  simp only [eCall, aCons, aNil, ha, hb, hc, ob, List.append_nil]
  exact (if_pos rfl).trans h
end
section
variable {S : Sto} {e1 e2 e3 e4 e5 : U} {ps qs : List (U × Option Klz)} {hq mq wq : RQ}
theorem v_at {env : NK.Env} {i : Nat} {u : U} (h : env[i]? = some (some u)) : eVar i env S = Out.ok u S := by
  unfold eVar
  rw [h]
end
section
variable {st S : Sto} {h : Ob} {w : Nat} {ss : List Str}
end
section
variable {st S : Sto} {h : Ob} {w : Nat} {ss : List Str}
theorem app_drop {j : Nat} {us : List U} {w : U} {env : NK.Env} {i : Nat} {m : ME} {S1 : Sto} (he : env[i]? = some (some (.loc j))) (hl : isLoc (.loc j) S = true) (hm : m env S = Out.ok w S1) (hj : S1[j]? = some (.lst us)) (hz : us.length < 1000) : sDrop (eBM fApp (eVar i) (aCons m aNil)) env S = SO.next env (S1.set j (.lst (us ++ [w]))) := by
  refine drop_n (r := .non) ?_
  unfold eBM
  rw [v_at he, ob, if_pos hl]
  unfold aCons
  rw [hm]
  exact fApp_s hj (by omega)
end
section
variable {st S : Sto} {h : Ob} {w : Nat} {ss : List Str}
theorem isl_at {j : Nat} {us : List U} (h : S[j]? = some (.lst us)) : isLoc (.loc j) S = true := by
  unfold isLoc
  dsimp only
  rw [h]
end
section
variable {st S : Sto} {h : Ob} {w : Nat} {ss : List Str}
theorem set_last {S1 : Sto} {o o' : Ob} : (S1 ++ [o]).set S1.length o' = S1 ++ [o'] := by simp
end
section
variable {st S : Sto} {h : Ob} {w : Nat} {ss : List Str}
theorem at_last {S1 : Sto} {o : Ob} : (S1 ++ [o])[S1.length]? = some o := by simp
end
section
variable {st S : Sto} {h : Ob} {w : Nat} {ss : List Str}
theorem lit_drw {S S' : Sto} {ma : MA} {env : NK.Env} {us : List U} (h : ma env S = Out.ok us S') (o : Old S S') (hl : us.length ≤ 1000) (hu : U.underL 0 us = true) : eScope (eLst ma) env S = Out.ok (.lst us) S' := by
  rw [esl, h]
  show scopeOut S (lstK us S') = _
  rw [lstK_ok hl, show U.loc S'.length = U.loc (S.length + 0) from by rw [o.1]; rfl]
  exact sc_loc (j := 0) [.lst us] o rfl hu
end
section
variable {st S : Sto} {h : Ob} {w : Nat} {ss : List Str}
theorem call2m {k : Nat} {mf : MF} {a b : ME} {env : NK.Env} {x y : U} {r : Out U} {S1 S2 : Sto} (hk : k = 2) (ha : a env S = Out.ok x S1) (hb : b env S1 = Out.ok y S2) (h : mf [x, y] S2 = r) : eCall k mf [] (aCons a (aCons b aNil)) env S = r := by
  subst hk
  simp only [eCall, aCons, aNil, ha, hb, ob, List.append_nil]
  exact (if_pos rfl).trans h
end
section
variable {S S1 S2 : Sto} {env : NK.Env} {m1 m2 : ME} {a b : U} {us ws : List U}
theorem op2 {f : U → U → Sto → Out U} {r : Out U} (h1 : m1 env S = Out.ok a S1) (h2 : m2 env S1 = Out.ok b S2) (h : f a b S2 = r) : eOp f m1 m2 env S = r := by
  simp only [eOp, h1, h2, ob]
  exact h
end
section
variable {S S1 S2 : Sto} {env : NK.Env} {m1 m2 : ME} {a b : U} {us ws : List U}
theorem add_loc (h1 : m1 env S = Out.ok a S1) (h2 : m2 env S1 = Out.ok (.lst ws) S1) (ha : asLst a S1 = some us) (hz : us.length + ws.length ≤ 1000) : eOp fAdd m1 m2 env S = Out.ok (.loc S1.length) (S1 ++ [.lst (us ++ ws)]) := by
  refine op2 h1 h2 ?_
  have hz' : us.length + ws.length ≤ 16777216 := by omega
  cases a with
  | lst us' =>
    have e : us' = us := Option.some.inj ha
    subst e
    exact if_pos hz'
  | loc j =>
    show (match asLst (U.loc j) S1, asLst (U.lst ws) S1 with | some us, some ws => if us.length + ws.length ≤ 16777216 then Out.ok (U.loc S1.length) (S1 ++ [Ob.lst (us ++ ws)]) else Out.bad | _, _ => Out.bad) = _
    rw [ha]
    exact if_pos hz'
  | _ => cases ha
end
section
variable {S S1 S2 : Sto} {env : NK.Env} {m1 m2 : ME} {a b : U} {us ws : List U}
theorem add_fr (h1 : m1 env S = Out.ok a S) (h2 : m2 env S = Out.ok (.lst ws) S) (ha : asLst a S = some us) (hz : us.length + ws.length ≤ 1000) (hu : U.underL 0 (us ++ ws) = true) : eScope (eOp fAdd m1 m2) env S = Out.ok (.lst (us ++ ws)) S := by
  unfold eScope
  rw [add_loc h1 h2 ha hz]
  exact sc_lit rfl hu
end
section
variable {S S1 S2 : Sto} {env : NK.Env} {m1 m2 : ME} {a b : U} {us ws : List U}
theorem ixa {u : U} {i : Nat} {j : Int} (hj : j = (i : Int)) (h : us[i]? = some u) : fIx (.tup us) (.int j) S = Out.ok u S := by
  subst hj
  exact fIx_tup (by rw [NK.atI_nat]; exact h)
end
section
variable {S S1 S2 : Sto} {env : NK.Env} {m1 m2 : ME} {a b : U} {us ws : List U}
theorem tup2 (h1 : m1 env S = Out.ok a S1) (h2 : m2 env S1 = Out.ok b S2) : eTup (aCons m1 (aCons m2 aNil)) env S = Out.ok (.tup [a, b]) S2 := by
  simp only [eTup, aCons, aNil, h1, h2, ob]
  rfl
end
section
variable {S S1 S2 : Sto} {env : NK.Env} {m1 m2 : ME} {a b : U} {us ws : List U}
theorem if_yes {m : ME} {p q : MS} {r : SO} (h : m env S = Out.ok (.bl true) S1) (hp : p env S1 = r) : sIf (NK.tB m) p q env S = r := by
  simp only [sIf, NK.tB, h, ob]
  exact hp
end
section
variable {S S1 S2 : Sto} {env : NK.Env} {m1 m2 : ME} {a b : U} {us ws : List U}
theorem if_no {m : ME} {p q : MS} {r : SO} (h : m env S = Out.ok (.bl false) S1) (hq : q env S1 = r) : sIf (NK.tB m) p q env S = r := by
  simp only [sIf, NK.tB, h, ob]
  exact hq
end
section
variable {S S1 S2 : Sto} {env : NK.Env} {m1 m2 : ME} {a b : U} {us ws : List U}
theorem fs_lst1 {n : Nat} {mb : MS} {env : NK.Env} {vs : List U} {ext : Sto} {j : Nat} (he : vs.map some ++ List.replicate (n - vs.length) none = env) (hb : mb env S = SO.ret (.loc (S.length + j)) (S2 ++ ext)) (o : Old S S2) (hx : ext[j]? = some (.lst ws)) (hu : U.underL 0 ws = true) : fScope (runF n mb) vs S = Out.ok (.lst ws) S2 := by
  show scopeOut S (runF n mb vs S) = _
  rw [run_ret he hb]
  exact sc_loc (j := j) ext o hx hu
end
section
variable {S S1 S2 : Sto} {env : NK.Env} {m1 m2 : ME} {a b : U} {us ws : List U}
theorem ixe {u x : U} {i : Nat} (e : seqOf u = some us) (h : us[i]? = some x) : fIx u (.int (i : Int)) S = Out.ok x S := by
  cases u with
  | tup us' => cases e; exact ixa rfl h
  | lst us' => cases e; exact fIx_lst (by rw [NK.atI_nat]; exact h)
  | _ => cases e
end
section
variable {S S1 S2 S3 : Sto} {env : NK.Env} {m m1 m2 m3 : ME} {a b u x : U} {c : Cu}
theorem cb1 {f : List U → Sto → Out U} {r : Out U} (h : m env S = Out.ok a S1) (hf : f [a] S1 = r) : eCB f (aCons m aNil) env S = r := by
  simp only [eCB, aCons, aNil, h, ob]
  exact hf
end
section
variable {S S1 S2 S3 : Sto} {env : NK.Env} {m m1 m2 m3 : ME} {a b u x : U} {c : Cu}
end
section
variable {S S1 S2 S3 : Sto} {env : NK.Env} {m m1 m2 m3 : ME} {a b u x : U} {c : Cu}
theorem tB_of {b : Bool} (h : m env S = Out.ok (.bl b) S1) : NK.tB m env S = Out.ok b S1 := by
  simp only [NK.tB, h, ob]
end
section
variable {S S1 S2 S3 : Sto} {env : NK.Env} {m m1 m2 m3 : ME} {a b u x : U} {c : Cu}
theorem or_ff {t1 t2 : MT} (h1 : t1 env S = Out.ok false S1) (h2 : t2 env S1 = Out.ok false S2) : NK.tOr t1 t2 env S = Out.ok false S2 := by
  simp only [NK.tOr, h1, ob]
  exact h2
end
section
variable {S S1 S2 S3 : Sto} {env : NK.Env} {m m1 m2 m3 : ME} {a b u x : U} {c : Cu}
theorem if_f {t : MT} {p q : MS} {r : SO} (h : t env S = Out.ok false S1) (hq : q env S1 = r) : sIf t p q env S = r := by
  simp only [sIf, h, ob]
  exact hq
end
section
variable {S S1 : Sto} {env : NK.Env} {m m1 m2 : ME} {a b u x : U} {c : Cu} {n : Nat}
theorem if_t {t : MT} {p q : MS} {r : SO} (h : t env S = Out.ok true S1) (hp : p env S1 = r) : sIf t p q env S = r := by
  simp only [sIf, h, ob]
  exact hp
end
section
variable {S S1 : Sto} {env : NK.Env} {m m1 m2 : ME} {a b u x : U} {c : Cu} {n : Nat}
theorem eif_at {t : MT} {p q : ME} {bb : Bool} (h : t env S = Out.ok bb S1) : eIf t p q env S = if bb = true then p env S1 else q env S1 := by
  simp only [eIf, h, ob]
end
section
variable {S S1 : Sto} {env : NK.Env} {m m1 m2 : ME} {a b u x : U} {c : Cu} {n : Nat}
end
section
variable {S S1 : Sto} {e1 e2 e3 e4 e5 u : U} {ps qs : List (U × Option Klz)} {hq mq wq : RQ} {c c' : Cu} {n : Nat} {env : NK.Env}
theorem or_at {t1 t2 : MT} {b1 b2 : Bool} (h1 : t1 env S = Out.ok b1 S) (h2 : t2 env S = Out.ok b2 S) : NK.tOr t1 t2 env S = Out.ok (b1 || b2) S := by
  simp only [NK.tOr, h1, ob]
  cases b1
  · exact h2
  · rfl
end
section
variable {S S1 : Sto} {e1 e2 e3 e4 e5 u : U} {ps qs : List (U × Option Klz)} {hq mq wq : RQ} {c c' : Cu} {n : Nat} {env : NK.Env}
theorem and_at {a b : ME} {b1 b2 : Bool} (h1 : a env S = Out.ok (.bl b1) S) (h2 : b env S = Out.ok (.bl b2) S) : eAnd a b env S = Out.ok (.bl (b1 && b2)) S := by
  cases b1
  · exact and_no h1
  · exact and_yes h1 h2
end
section
variable {S S1 : Sto} {e1 e2 e3 e4 e5 u : U} {ps qs : List (U × Option Klz)} {hq mq wq : RQ} {c c' : Cu} {n : Nat} {env : NK.Env}
end
section
variable {S S1 S2 : Sto} {env : NK.Env} {m m1 m2 m3 : ME} {u v w : U} {r : Out U}
theorem ac1 (h1 : m1 env S = Out.ok u S1) : aCons m1 aNil env S = Out.ok [u] S1 := by
  simp only [aCons, aNil, h1, ob]
end
section
variable {S S1 S2 : Sto} {env : NK.Env} {m m1 m2 m3 : ME} {u v w : U} {r : Out U}
theorem acN {ma : MA} {us : List U} (h1 : m1 env S = Out.ok u S1) (h2 : ma env S1 = Out.ok us S2) : aCons m1 ma env S = Out.ok (u :: us) S2 := by
  simp only [aCons, h1, h2, ob]
end
section
variable {S : Sto} {env : NK.Env} {m m1 m2 : ME} {u v : U} {c : Ce} {s : Str}
theorem ixA {i : Nat} {j : Int} {us : List U} {w : U} {S1 : Sto} (hm : m env S = Out.ok u S1) (hu : seqOf u = some us) (hj : j = (i : Int)) (h : us[i]? = some w) : eOp fIx m (eC (.int j)) env S = Out.ok w S1 := by
  subst hj
  exact op2 hm (S2 := S1) rfl (ixe hu h)
end
section
variable {S : Sto} {env : NK.Env} {m m1 m2 : ME} {u v : U} {c : Ce} {s : Str}
end
section
variable {S : Sto} {env : NK.Env} {m m1 m2 : ME} {u v : U} {c : Ce} {s : Str}
theorem notK {t : MT} {b : Bool} {S1 : Sto} (h : t env S = Out.ok b S1) : NK.tNot t env S = Out.ok (!b) S1 := by
  simp only [NK.tNot, h, ob]
end
section
variable {S : Sto} {env : NK.Env} {m m1 m2 : ME} {u v : U} {c : Ce} {s : Str}
theorem truK {m : ME} {b : Bool} {S1 : Sto} (h : m env S = Out.ok (.bl b) S1) : NK.tTru m env S = Out.ok b S1 := by
  simp only [NK.tTru, h, ob, truth_bl]
end
section
variable {S : Sto} {env : NK.Env} {m m1 m2 : ME} {u v : U} {c : Ce} {s : Str}
theorem par_ok {i j : Nat} {ma : MA} {a b : U} {S1 : Sto} (h : ma env S = Out.ok [a, b] S1) : sPar i j ma env S = SO.next ((env.set i (some a)).set j (some b)) S1 := by
  unfold sPar
  rw [h]
  rfl
end
section
variable {S S1 : Sto} {env : NK.Env} {m m1 m2 : ME} {k : Str} {n : Nat} {c : Cu}
theorem asgT2 {i j : Nat} {a b : U} (h : m env S = Out.ok (.tup [a, b]) S1) : sAsg m (gT [i, j]) env S = SO.next ((env.set i (some a)).set j (some b)) S1 := by
  unfold sAsg
  rw [h]
  rfl
end
section
variable {α : Type} {g : Sto → Prop} {gt : MGt} {mt : MT} {me : ME} {mi : MI} {env : NK.Env} {st : Sto} {vs : List Nat}
theorem compM_genF (f r : α → U) (p : α → Bool) (hg : ∀ acc, g (st ++ [.lst acc])) : ∀ (as : List α) (acc : List U), acc.length + as.length ≤ 10000 →
    (∀ a ∈ as, ∀ acc, ∃ env1, gt (f a) (wipeE env vs) (st ++ [.lst acc]) = some env1 ∧ mt env1 (st ++ [.lst acc]) = .ok (p a) (st ++ [.lst acc]) ∧ (p a = true → me env1 (st ++ [.lst acc]) = .ok (r a) (st ++ [.lst acc]))) →
    compM g gt mt me st.length (wipeE env vs) (as.map f) (st ++ [.lst acc]) = .ok (.loc st.length) (st ++ [.lst (acc ++ (as.filter p).map r)])
  | [], acc, _, _ => by
    show compM g gt mt me st.length (wipeE env vs) [] (st ++ [.lst acc]) = _
    unfold compM
    rw [if_pos (hg acc)]
    simp
  | a :: as, acc, hz, h => by
    obtain ⟨env1, h1, h2, h3⟩ := h a List.mem_cons_self acc
    have h' := fun w hw => h w (List.mem_cons_of_mem _ hw)
    rw [List.length_cons] at hz
    rw [List.map_cons]
    unfold compM
    rw [if_pos (hg acc), h1]
    show (match mt env1 (st ++ [.lst acc]) with | .ok true st1 => _ | .ok false st1 => _ | _ => Out.bad) = _
    rw [h2]
    cases hp : p a with
    | false =>
      dsimp only
      rw [compM_genF f r p hg as acc (by omega) h', List.filter_cons_of_neg (by simp [hp])]
    | true =>
      dsimp only
      rw [h3 hp]
      dsimp only
      have e : (st ++ [Ob.lst acc])[st.length]? = some (.lst acc) := by simp
      rw [e]
      dsimp only
      rw [if_pos (by omega)]
      have e2 : (st ++ [Ob.lst acc]).set st.length (.lst (acc ++ [r a])) = st ++ [.lst (acc ++ [r a])] := by simp
      rw [e2, compM_genF f r p hg as (acc ++ [r a]) (by rw [List.length_append, List.length_singleton]; omega) h', List.filter_cons_of_pos hp]
      simp [List.append_assoc]
end
section
variable {α : Type} {g : Sto → Prop} {gt : MGt} {mt : MT} {me : ME} {mi : MI} {env : NK.Env} {st : Sto} {vs : List Nat}
theorem comp_genF (f r : α → U) (p : α → Bool) {as : List α} (hm : mi env st = .ok ⟨as.map f, g⟩ st) (hg : ∀ acc, g (st ++ [.lst acc])) (hz : as.length ≤ 10000)
    (h : ∀ a ∈ as, ∀ acc, ∃ env1, gt (f a) (wipeE env vs) (st ++ [.lst acc]) = some env1 ∧ mt env1 (st ++ [.lst acc]) = .ok (p a) (st ++ [.lst acc]) ∧ (p a = true → me env1 (st ++ [.lst acc]) = .ok (r a) (st ++ [.lst acc])))
    (hu : ∀ a ∈ as, p a = true → (r a).under 0 = true) : eScope (eComp mi gt mt me vs) env st = .ok (.lst ((as.filter p).map r)) st := by
  have e : eComp mi gt mt me vs env st = .ok (.loc st.length) (st ++ [.lst ((as.filter p).map r)]) := by
    unfold eComp
    rw [hm, ob]
    have := compM_genF (env := env) (gt := gt) (mt := mt) (me := me) (vs := vs) f r p hg as [] (by simpa using hz) h
    rw [List.nil_append] at this
    exact this
  unfold eScope
  rw [e]
  refine sc_loc (j := 0) [.lst _] (Old.refl st) rfl (underL_all fun u hu' => ?_)
  obtain ⟨a, ha, rfl⟩ := List.mem_map.mp hu'
  obtain ⟨h1, h2⟩ := List.mem_filter.mp ha
  exact hu a h1 h2
end
section
variable {S S1 : Sto} {env : NK.Env} {m m1 m2 : ME} {k : Klz} {c : Cu}
end
section
variable {S S1 : Sto} {env : NK.Env} {m m1 m2 : ME} {R Q : Six} {xs ys : List Str} {u v w : U} {n : Nat}
theorem cbA {ma : MA} {f : List U → Sto → Out U} {us : List U} {r : Out U} (h : ma env S = Out.ok us S1) (hf : f us S1 = r) : eCB f ma env S = r := by
  unfold eCB
  rw [h, ob]
  exact hf
end
section
variable {S S1 : Sto} {env : NK.Env} {m m1 m2 : ME} {R Q : Six} {xs ys : List Str} {u v w : U} {n : Nat} {c : Cu} {cs : List Cu} {zs : List Str} {ps lp : List Pk}
end
section
variable {S S1 : Sto} {env : NK.Env} {m m1 m2 : ME} {R Q : Six} {xs ys : List Str} {u v w : U} {n : Nat} {c : Cu} {cs : List Cu} {zs : List Str} {ps lp : List Pk}
end
section
variable {S S1 S2 : Sto} {env : NK.Env} {m m1 m2 : ME} {R Q : Six} {xs ys zs : List Str} {u u0 u1 u2 v w : U} {cs cs' : List Cu} {ps lp ps' lp' : List Pk} {hs : Bool} {h h1 : Ob} {st : Sto}
theorem draw_at {j : Nat} {k : Int} (H : HOb h) (hj : env[j]? = some (some (.loc 0))) (hm : 0 < k) (hk : k < 100) : ∃ (d : Nat) (h' : Ob), HOb h' ∧ (d : Int) < k ∧ eCall 2 m_u_law_draw [] (aCons (eVar j) (aCons (eC (.int k)) aNil)) env (h :: st) = Out.ok (.int (d : Nat)) (h' :: st) := by
  obtain ⟨d, h', H', d0, d1, e⟩ := draw_ok (st := st) (m := k) H hm (Int.lt_trans hk (by decide))
  obtain ⟨i, rfl⟩ := Int.eq_ofNat_of_zero_le d0
  exact ⟨i, h', H', d1, call2 rfl (v_at hj) rfl e⟩
end
section
variable {S S1 S2 : Sto} {env : NK.Env} {m m1 m2 : ME} {R Q : Six} {xs ys zs : List Str} {u u0 u1 u2 v w : U} {cs cs' : List Cu} {ps lp ps' lp' : List Pk} {hs : Bool} {h h1 : Ob} {st : Sto}
theorem draw1_at {j : Nat} {k : Int} (H : HOb h) (hj : env[j]? = some (some (.loc 0))) (hm : 0 < k) (hk : k < 100) : ∃ (d : Nat) (h' : Ob), HOb h' ∧ (d : Int) ≤ k ∧ eOp fAdd (eC (.int 1)) (eCall 2 m_u_law_draw [] (aCons (eVar j) (aCons (eC (.int k)) aNil))) env (h :: st) = Out.ok (.int (d : Nat)) (h' :: st) := by
  obtain ⟨d, h', H', d1, e⟩ := draw_at (st := st) (env := env) H hj hm hk
  refine ⟨1 + d, h', H', by omega, op2 (S1 := h :: st) rfl e ?_⟩
  rw [fAdd_i]
  exact congrArg (fun i => Out.ok (U.int i) (h' :: st)) (by omega)
end
section
variable {S S1 S2 : Sto} {env : NK.Env} {m m1 m2 : ME} {R Q : Six} {xs ys zs : List Str} {u u0 u1 u2 v w : U} {cs cs' : List Cu} {ps lp ps' lp' : List Pk} {hs : Bool} {h h1 : Ob} {st : Sto}
theorem call4 {k : Nat} {mf : MF} {a b c d : ME} {x y z t : U} {r : Out U} (hk : k = 4) (ha : a env S = Out.ok x S) (hb : b env S = Out.ok y S) (hc : c env S = Out.ok z S) (hd : d env S = Out.ok t S) (h : mf [x, y, z, t] S = r) : eCall k mf [] (aCons a (aCons b (aCons c (aCons d aNil)))) env S = r := by
  subst hk
  unfold eCall
  rw [acN ha (acN hb (acN hc (ac1 hd))), ob]
  exact (if_pos rfl).trans h
end
section
variable {S S1 S2 : Sto} {env : NK.Env} {m m1 m2 : ME} {R Q : Six} {xs ys zs : List Str} {u u0 u1 u2 v w : U} {cs cs' : List Cu} {ps lp ps' lp' : List Pk} {hs : Bool} {h h1 : Ob} {st : Sto}
end
section
variable {S S1 S2 : Sto} {env : NK.Env} {m m1 m2 : ME} {R Q : Six} {xs ys zs : List Str} {u u0 u1 u2 v w : U} {cs cs' : List Cu} {ps lp ps' lp' : List Pk} {hs : Bool} {h h1 : Ob} {st : Sto}
theorem lit1 (h1 : m1 env S = Out.ok u S) (hu : u.under 0 = true) : eScope (eLst (aCons m1 aNil)) env S = Out.ok (.lst [u]) S := lit_drw (ac1 h1) (Old.refl S) (by show 1 ≤ 1000; decide) (by simp only [U.underL, hu, Bool.and_self])
end
section
variable {S S1 : Sto} {env : NK.Env} {m m1 m2 : ME} {xs ys zs : List Str} {h h1 : Ob} {st : Sto}
theorem tupA {ma : MA} {us : List U} (h : ma env S = Out.ok us S1) (hz : us.length ≤ 1000) : eTup ma env S = Out.ok (.tup us) S1 := by
  show (ma env S).bind _ = _
  rw [h, ob, if_pos (by omega)]
end
end G

namespace G
open PySem L2 NK
def eU : Option Nat → U
  | none => .non
  | some k => .int (k : Nat)
def esU (es : Ent) : List U := es.map eU
def patI (es : Ent) : U := .ins 5 [.tup (esU es)]
theorem eU_und (o : Option Nat) : (eU o).under 0 = true := by cases o <;> rfl
theorem esU_und (es : Ent) : U.underL 0 (esU es) = true := underL_all fun u hu => by
  obtain ⟨o, _, rfl⟩ := List.mem_map.mp hu
  exact eU_und o
section
variable {S S1 : Sto} {env : NK.Env} {m m1 m2 : ME} {es fs : Ent}
theorem cont_c {p q : MS} {env1 : NK.Env} (h : p env S = SO.cont env1 S1) : sSeq p q env S = SO.cont env1 S1 := by
  show SO.bind _ _ = _
  rw [h]
  rfl
theorem forM_ct {g : Sto → Prop} {gt : MGt} {b : MS} {u : U} {us : List U} {env env1 env2 : NK.Env} {r : SO} (hg : g S) (ht : gt u env S = some env1) (hb : b env1 S = SO.cont env2 S1) (h : NK.forM g gt b us env2 S1 = r) : NK.forM g gt b (u :: us) env S = r := by
  unfold NK.forM
  rw [if_pos hg, ht]
  dsimp only
  rw [hb]
  exact h
theorem ef_loop {e0 : Option U} : ∀ (es : Ent) (i m : Nat) (e2 e3 : Option U), canGo m es → ∃ e2' e3', NK.forM (fun _ => True) (gT [2, 3]) l_entries_fault_1 (enumFrom i (esU es)) [e0, some (.int (m : Nat)), e2, e3] S = SO.next [e0, some (.int (run m es : Nat)), e2', e3'] S
  | [], i, m, e2, e3, _ => ⟨e2, e3, forM_nil True.intro⟩
  | none :: es, i, m, e2, e3, c => by
    obtain ⟨e2', e3', ih⟩ := ef_loop (e0 := e0) es (i + 1) m (some (.int (i : Nat))) (some .non) c
    refine ⟨e2', e3', forM_ct (env1 := [e0, some (.int (m : Nat)), some (.int (i : Nat)), some .non]) (env2 := [e0, some (.int (m : Nat)), some (.int (i : Nat)), some .non]) (S1 := S) True.intro rfl ?_ ih⟩
    unfold l_entries_fault_1
    exact cont_c (if_yes (op2 (S1 := S) (S2 := S) (v_at (i := 3) rfl) rfl rfl) rfl)
  | some k :: es, i, m, e2, e3, c => by
    have le : k ≤ m := by rcases c with ⟨h, _⟩ | ⟨h, _⟩ <;> omega
    have hc : canGo (if k = m then m + 1 else m) es := by
      rcases c with ⟨h, c⟩ | ⟨h, c⟩
      · rw [if_neg (by omega)]; exact c
      · rw [if_pos h]; exact h ▸ c
    have hr : run m (some k :: es) = run (if k = m then m + 1 else m) es := by
      show (if k = m then run (m + 1) es else run m es) = _
      split <;> rfl
    obtain ⟨e2', e3', ih⟩ := ef_loop (e0 := e0) es (i + 1) (if k = m then m + 1 else m) (some (.int (i : Nat))) (some (.int (k : Nat))) hc
    rw [hr]
    refine ⟨e2', e3', (forM_n (env1 := [e0, some (.int (m : Nat)), some (.int (i : Nat)), some (.int (k : Nat))]) True.intro rfl ?_).trans ih⟩
    have n1 : NK.tB (eOp fIsN (eVar 3) (eC .non)) [e0, some (.int (m : Nat)), some (.int (i : Nat)), some (.int (k : Nat))] S = Out.ok false S := tB_of (op2 (S1 := S) (S2 := S) (v_at (i := 3) rfl) rfl rfl)
    have i1 := isi_at (S := S) (env := [e0, some (.int (m : Nat)), some (.int (i : Nat)), some (.int (k : Nat))]) (i := 3) (t := .b .int) (cs := [.b .int]) (b := true) rfl rfl rfl
    have i2 := isi_at (S := S) (env := [e0, some (.int (m : Nat)), some (.int (i : Nat)), some (.int (k : Nat))]) (i := 3) (t := .b .int) (cs := [.b .bool]) (b := false) rfl rfl rfl
    have l0 : eOp fLt (eVar 3) (eC (.int 0)) [e0, some (.int (m : Nat)), some (.int (i : Nat)), some (.int (k : Nat))] S = Out.ok (.bl false) S := op2 (S1 := S) (S2 := S) (v_at (i := 3) rfl) rfl (by
      show Out.ok (U.bl (decide (((k : Nat) : Int) < 0))) S = _
      rw [decide_eq_false (by omega)])
    have t2 := or_ff (notK (b := true) (truK i1)) (or_ff (truK i2) (tB_of l0))
    have g : eOp fGt (eVar 3) (eVar 1) [e0, some (.int (m : Nat)), some (.int (i : Nat)), some (.int (k : Nat))] S = Out.ok (.bl false) S := op2 (S1 := S) (S2 := S) (v_at (i := 3) rfl) (v_at (i := 1) rfl) (by
      show Out.ok (U.bl (decide (((m : Nat) : Int) < ((k : Nat) : Int)))) S = _
      rw [decide_eq_false (by omega)])
    have q : eOp fEq (eVar 3) (eVar 1) [e0, some (.int (m : Nat)), some (.int (i : Nat)), some (.int (k : Nat))] S = Out.ok (.bl (decide (((k : Nat) : Int) = ((m : Nat) : Int)))) S := op2 (S1 := S) (S2 := S) (v_at (i := 3) rfl) (v_at (i := 1) rfl) fEq_int
    unfold l_entries_fault_1
    refine seq_n (if_f n1 rfl) (seq_n (if_f t2 rfl) (seq_n (if_no g rfl) ?_))
    by_cases e : k = m
    · rw [if_pos e]
      refine if_yes (q.trans (by rw [decide_eq_true (by omega)])) (asg_ok (i := 1) (op2 (S1 := S) (S2 := S) (v_at (i := 1) rfl) rfl ?_))
      rw [fAdd_i]
      rfl
    · rw [if_neg e]
      exact if_no (q.trans (by rw [decide_eq_false (by omega)])) rfl
inductive SqE : U → Ent → Prop where
  | l (es : Ent) : SqE (.lst (esU es)) es
  | t (es : Ent) : SqE (.tup (esU es)) es
theorem fault_ok {u : U} (q : SqE u es) (c : Can es) (hl : es.length ≤ 40) : m_entries_fault [u] S = Out.ok .non S := by
  obtain ⟨e2, e3, f⟩ := ef_loop (S := S) (e0 := some u) es 0 0 none none c
  refine fs_same (n := 4) (mb := b_entries_fault) (env := [some u, none, none, none]) rfl ?_ rfl
  have le : (esU es).length = es.length := List.length_map ..
  have t1 : NK.tOr (NK.tNot (NK.tTru (eIsi isl [(.b .list), (.b .tuple)] (eVar 0)))) (NK.tB (eOp fGt (eCB fLen (aCons (eVar 0) aNil)) (eC (.int 40)))) [some u, none, none, none] S = Out.ok false S := by
    have ln : eCB fLen (aCons (eVar 0) aNil) [some u, none, none, none] S = Out.ok (.int (es.length : Nat)) S := cb1 (S1 := S) (v_at (i := 0) rfl) (by
      rw [← le]
      cases q <;> rfl)
    have g : eOp fGt (eCB fLen (aCons (eVar 0) aNil)) (eC (.int 40)) [some u, none, none, none] S = Out.ok (.bl false) S := op2 (S1 := S) (S2 := S) ln rfl (by
      show Out.ok (U.bl (decide ((40 : Int) < ((es.length : Nat) : Int)))) S = _
      rw [decide_eq_false (by omega)])
    cases q with
    | l => exact or_ff (notK (b := true) (truK (isi_at (S := S) (i := 0) (t := .b .list) rfl rfl rfl))) (tB_of g)
    | t => exact or_ff (notK (b := true) (truK (isi_at (S := S) (i := 0) (t := .b .tuple) rfl rfl rfl))) (tB_of g)
  unfold b_entries_fault
  refine seq_n (if_f t1 rfl) (seq_n (asg_ok (i := 1) (u := .int ((0 : Nat) : Int)) rfl) (seq_n (sFor_ok (us := enumFrom 0 (esU es)) (g := fun _ => True) (S1 := S) ?_ f) (ret_ok rfl)))
  cases q <;> rfl
theorem init_ok {u : U} (q : SqE u es) (c : Can es) (hl : es.length ≤ 40) : m_Pattern___init [.loc S.length, u] (S ++ [.ins 5 []]) = Out.ok .non (S ++ [.ins 5 [.tup (esU es)]]) := by
  refine run_next (n := 3) (mb := b_Pattern___init) (env := [some (.loc S.length), some u, none]) rfl (env' := [some (.loc S.length), some u, some .non]) ?_
  unfold b_Pattern___init
  refine seq_n (asg_ok (i := 2) (call1 rfl (v_at rfl) (fault_ok q c hl))) (seq_n (if_no (op2 (S1 := S ++ [.ins 5 []]) (S2 := S ++ [.ins 5 []]) (v_at (i := 2) rfl) rfl rfl) rfl) ?_)
  exact fld_n (us := []) (w := .tup (esU es)) (cb1 (S1 := S ++ [.ins 5 []]) (v_at (i := 1) rfl) (by cases q <;> rfl)) rfl rfl
theorem make_at {u : U} (q : SqE u es) (c : Can es) (hl : es.length ≤ 40) (h : m env S = Out.ok u S) : eScope (eMake 5 2 m_Pattern___init [] (aCons m aNil)) env S = Out.ok (patI es) S := mk_ok (ac1 h) rfl (init_ok q c hl) (by simp only [U.underL, U.under, esU_und, Bool.and_self])
theorem esU_at {i : Nat} {o : Option Nat} (h : es[i]? = some o) : (esU es)[i]? = some (eU o) := by
  unfold esU
  rw [List.getElem?_map, h]
  rfl
end
end G

namespace G
open PySem L2 NK
section
variable {S S1 : Sto} {env : NK.Env} {m m1 m2 : ME} {es fs : Ent} {o p : Option Nat}
theorem eU_ok (o : Option Nat) : okU 12 (eU o) = true := by cases o <;> rfl
theorem eU_eqv (o p : Option Nat) : eqvU (eU o) (eU p) = decide (o = p) := by
  cases o with
  | none => cases p with
    | none => exact eqvU_same rfl
    | some b =>
      rw [decide_eq_false (fun z => nomatch z)]
      simp [eU, eqvU, datU, PyData.eqv]
  | some a => cases p with
    | none =>
      rw [decide_eq_false (fun z => nomatch z)]
      simp [eU, eqvU, datU, PyData.eqv]
    | some b =>
      show eqvU (.int (a : Nat)) (.int (b : Nat)) = _
      rw [eqv_ii, beq_dec]
      exact decide_eq_decide.mpr ⟨fun h => by rw [Int.ofNat.inj h], fun h => by cases h; rfl⟩
theorem tand_at {t1 t2 : MT} {b1 b2 : Bool} (h1 : t1 env S = Out.ok b1 S) (h2 : t2 env S = Out.ok b2 S) : NK.tAnd t1 t2 env S = Out.ok (b1 && b2) S := by
  simp only [NK.tAnd, h1, ob]
  cases b1
  · rfl
  · exact h2
theorem ix_tupE {i : Nat} {u : U} {j : Int} {us : List U} (hm : m env S = Out.ok (.tup us) S) (h2 : m1 env S = Out.ok (.int (i : Nat)) S) (h : us[i]? = some u) : eOp fIx m m1 env S = Out.ok u S := op2 hm h2 (ixe (u := .tup us) rfl h)
theorem ix_lstE {i : Nat} {u : U} {us : List U} (hm : m env S = Out.ok (.lst us) S) (h2 : m1 env S = Out.ok (.int (i : Nat)) S) (h : us[i]? = some u) : eOp fIx m m1 env S = Out.ok u S := op2 hm h2 (ixe (u := .lst us) rfl h)
end
end G

namespace G
open PySem L2 NK
section
variable {S S1 : Sto} {env : NK.Env} {m m1 m2 : ME} {es fs : Ent}
end
section
variable {α κ : Type} [DecidableEq α] [DecidableEq κ]
def kvG (f : α → κ) : Nat → List α → List (κ × U)
  | _, [] => []
  | i, k :: ks => (f k, .int (i : Nat)) :: kvG f (i + 1) ks
theorem kvG_len {f : α → κ} : ∀ (ks : List α) (i : Nat), (kvG f i ks).length = ks.length
  | [], _ => rfl
  | _ :: ks, i => by unfold kvG; rw [List.length_cons, kvG_len ks, List.length_cons]
theorem kvG_val {f : α → κ} (hf : ∀ a b, f a = f b → a = b) : ∀ (ks : List α) (i : Nat) (x : α), valU (kvG f i ks) (f x) = if x ∈ ks then some (.int ((i + ks.idxOf x : Nat) : Int)) else none
  | [], i, x => by rw [if_neg (by simp)]; rfl
  | k :: ks, i, x => by
    unfold kvG valU
    rw [List.find?_cons]
    by_cases e : k = x
    · subst e
      rw [decide_eq_true rfl]
      dsimp only
      rw [Option.map_some, if_pos List.mem_cons_self, List.idxOf_cons_self]
      rfl
    · rw [decide_eq_false fun z => e (hf _ _ z)]
      dsimp only
      have ih := kvG_val hf ks (i + 1) x
      unfold valU at ih
      rw [ih]
      by_cases m : x ∈ ks
      · rw [if_pos m, if_pos (List.mem_cons_of_mem _ m), List.idxOf_cons, show (k == x) = false from beq_eq_false_iff_ne.mpr e, cond_false]
        congr 3
        omega
      · rw [if_neg m, if_neg fun z => (List.mem_cons.mp z).elim (fun w => e w.symm) m]
theorem kvG_any {f : α → κ} (hf : ∀ a b, f a = f b → a = b) : ∀ (ks : List α) (i : Nat) (x : α), x ∉ ks → ((kvG f i ks).any fun kv => decide (kv.1 = f x)) = false
  | [], _, _, _ => rfl
  | k :: ks, i, x, h => by
    unfold kvG
    rw [List.any_cons, kvG_any hf ks (i + 1) x fun z => h (List.mem_cons_of_mem _ z), Bool.or_false]
    exact decide_eq_false fun z => h (by rw [hf _ _ z]; exact List.mem_cons_self)
theorem kvG_app {f : α → κ} : ∀ (ks : List α) (i : Nat) (x : α), kvG f i (ks ++ [x]) = kvG f i ks ++ [(f x, .int ((i + ks.length : Nat) : Int))]
  | [], i, x => rfl
  | k :: ks, i, x => by
    show (f k, U.int (i : Nat)) :: kvG f (i + 1) (ks ++ [x]) = _
    rw [kvG_app ks (i + 1) x, List.length_cons, show i + 1 + ks.length = i + (ks.length + 1) by omega]
    rfl
theorem kvG_put {f : α → κ} (hf : ∀ a b, f a = f b → a = b) {ks : List α} {x : α} (h : x ∉ ks) : putU (kvG f 0 ks) (f x) (.int (ks.length : Nat)) = kvG f 0 (ks ++ [x]) := by
  unfold putU
  rw [kvG_any hf ks 0 x h, if_neg Bool.false_ne_true, kvG_app, Nat.zero_add]
end
end G

namespace G
open PySem L2 NK
def kI (k : Nat) : Key := .inl (k : Int)
theorem kI_inj (a b : Nat) (h : kI a = kI b) : a = b := Int.ofNat.inj (Sum.inl.inj h)
def CS (S : Sto) (kv : List (Key × U)) (found : List U) : Sto := S ++ [.dK kv, .lst found]
section
variable {S S1 : Sto} {env : NK.Env} {m m1 m2 : ME} {M : Ent} {kv : List (Key × U)} {found : List U}
theorem cs_a : (CS S kv found)[S.length]? = some (.dK kv) := by unfold CS; simp
theorem cs_b : (CS S kv found)[S.length + 1]? = some (.lst found) := by unfold CS; simp
theorem cs_sa {kv' : List (Key × U)} : (CS S kv found).set S.length (.dK kv') = CS S kv' found := by unfold CS; simp
theorem cs_sb {f' : List U} : (CS S kv found).set (S.length + 1) (.lst f') = CS S kv f' := by unfold CS; simp
theorem tand_f {t1 t2 : MT} (h1 : t1 env S = Out.ok false S) : NK.tAnd t1 t2 env S = Out.ok false S := by
  simp only [NK.tAnd, h1, ob]
  rfl
theorem rd_a : dictRd (.loc S.length) (CS S kv found) = some kv := by
  unfold dictRd
  dsimp only
  rw [cs_a]
theorem at_a : dictAt (.loc S.length) (CS S kv found) = some (S.length, kv) := by
  unfold dictAt
  dsimp only
  rw [cs_a]
theorem app_f {e0 e1 e3 : Option U} {w : U} (hm : m [e0, e1, some (.loc (S.length + 1)), e3] (CS S kv found) = Out.ok w (CS S kv found)) (hz : found.length < 1000) : sDrop (eBM fApp (eVar 2) (aCons m aNil)) [e0, e1, some (.loc (S.length + 1)), e3] (CS S kv found) = SO.next [e0, e1, some (.loc (S.length + 1)), e3] (CS S kv (found ++ [w])) := by
  have d := app_drop (S := CS S kv found) (S1 := CS S kv found) (i := 2) (j := S.length + 1) (us := found) (w := w) (env := [e0, e1, some (.loc (S.length + 1)), e3]) (m := m) rfl (isl_at cs_b) hm cs_b hz
  rw [cs_sb] at d
  exact d
def stepM (met : List Nat) : Option Nat → List Nat
  | none => met
  | some k => if k ∈ met then met else met ++ [k]
theorem cn_step {e0 : Option U} {met : List Nat} {o : Option Nat} {found : Ent} (hz : found.length < 1000) (hm : met.length < 1000) : l_class_numbers_1 [e0, some (.loc S.length), some (.loc (S.length + 1)), some (eU o)] (CS S (kvG kI 0 met) (esU found)) = SO.next [e0, some (.loc S.length), some (.loc (S.length + 1)), some (eU o)] (CS S (kvG kI 0 (stepM met o)) (esU (found ++ [o.map (stepM met o).idxOf]))) := by
  have hz' : (esU found).length < 1000 := by unfold esU; rw [List.length_map]; exact hz
  have fin : ∀ w : Option Nat, esU (found ++ [w]) = esU found ++ [eU w] := fun w => by unfold esU; rw [List.map_append]; rfl
  unfold l_class_numbers_1
  rw [fin]
  cases o with
  | none =>
    have t : NK.tB (eOp fNotN (eVar 3) (eC .non)) [e0, some (.loc S.length), some (.loc (S.length + 1)), some (eU none)] (CS S (kvG kI 0 met) (esU found)) = Out.ok false (CS S (kvG kI 0 met) (esU found)) := tB_of (op2 (a := .non) (b := .non) (S2 := CS S (kvG kI 0 met) (esU found)) (v_at (i := 3) rfl) rfl rfl)
    refine seq_n (if_f (tand_f t) rfl) (app_f ?_ hz')
    exact eif_at (tB_of (op2 (a := .non) (b := .non) (S2 := CS S (kvG kI 0 met) (esU found)) (v_at (i := 3) rfl) rfl (r := Out.ok (.bl true) (CS S (kvG kI 0 met) (esU found))) rfl)) |>.trans rfl
  | some k =>
    have t1 : NK.tB (eOp fNotN (eVar 3) (eC .non)) [e0, some (.loc S.length), some (.loc (S.length + 1)), some (eU (some k))] (CS S (kvG kI 0 met) (esU found)) = Out.ok true (CS S (kvG kI 0 met) (esU found)) := tB_of (op2 (a := .int (k : Nat)) (b := .non) (S2 := CS S (kvG kI 0 met) (esU found)) (v_at (i := 3) rfl) rfl rfl)
    have t2 : eOp (fDIn true) (eVar 3) (eVar 1) [e0, some (.loc S.length), some (.loc (S.length + 1)), some (eU (some k))] (CS S (kvG kI 0 met) (esU found)) = Out.ok (.bl (!decide (k ∈ met))) (CS S (kvG kI 0 met) (esU found)) := op2 (a := .int (k : Nat)) (b := .loc S.length) (S2 := CS S (kvG kI 0 met) (esU found)) (v_at (i := 3) rfl) (v_at (i := 1) rfl) (by
      unfold fDIn
      rw [rd_a]
      show Out.ok (U.bl ((valU (kvG kI 0 met) (kI k)).isSome != true)) _ = _
      rw [kvG_val kI_inj]
      by_cases z : k ∈ met
      · rw [if_pos z, decide_eq_true z]; rfl
      · rw [if_neg z, decide_eq_false z]; rfl)
    have get : ∀ {met : List Nat}, k ∈ met → eIf (NK.tB (eOp fIsN (eVar 3) (eC .non))) (eC .non) (eOp fDGet (eVar 1) (eVar 3)) [e0, some (.loc S.length), some (.loc (S.length + 1)), some (eU (some k))] (CS S (kvG kI 0 met) (esU found)) = Out.ok (eU (some (met.idxOf k))) (CS S (kvG kI 0 met) (esU found)) := fun {met} z => by
      have n : eOp fIsN (eVar 3) (eC .non) [e0, some (.loc S.length), some (.loc (S.length + 1)), some (eU (some k))] (CS S (kvG kI 0 met) (esU found)) = Out.ok (.bl false) (CS S (kvG kI 0 met) (esU found)) := op2 (a := .int (k : Nat)) (b := .non) (S2 := CS S (kvG kI 0 met) (esU found)) (v_at (i := 3) rfl) rfl rfl
      refine (eif_at (tB_of n)).trans ?_
      rw [if_neg Bool.false_ne_true]
      refine op2 (a := .loc S.length) (b := .int (k : Nat)) (S2 := CS S (kvG kI 0 met) (esU found)) (v_at (i := 1) rfl) (v_at (i := 3) rfl) ?_
      unfold fDGet
      rw [rd_a]
      show (match valU (kvG kI 0 met) (kI k) with | some w => Out.ok w _ | none => Out.bad) = _
      rw [kvG_val kI_inj, if_pos z]
      show Out.ok (U.int ((0 + met.idxOf k : Nat) : Int)) _ = _
      rw [Nat.zero_add]
      rfl
    have t := tand_at t1 (tB_of t2)
    rw [Bool.true_and] at t
    show _ = SO.next _ (CS S (kvG kI 0 (stepM met (some k))) (esU found ++ [eU (some ((stepM met (some k)).idxOf k))]))
    have sM : stepM met (some k) = if k ∈ met then met else met ++ [k] := rfl
    rw [sM]
    by_cases z : k ∈ met
    · rw [if_pos z]
      rw [decide_eq_true z] at t
      exact seq_n (if_f t rfl) (app_f (get z) hz')
    · rw [if_neg z]
      rw [decide_eq_false z] at t
      refine seq_n (if_t t ?_) (app_f (get (List.mem_append_right _ (List.mem_singleton.mpr rfl))) hz')
      have ln : eCB fLenO (aCons (eVar 1) aNil) [e0, some (.loc S.length), some (.loc (S.length + 1)), some (eU (some k))] (CS S (kvG kI 0 met) (esU found)) = Out.ok (.int (met.length : Nat)) (CS S (kvG kI 0 met) (esU found)) := cb1 (S1 := CS S (kvG kI 0 met) (esU found)) (v_at (i := 1) rfl) (by
        unfold fLenO
        dsimp only
        rw [cs_a]
        dsimp only
        rw [kvG_len])
      have pt : dput (.loc S.length) (.int (k : Nat)) (.int (met.length : Nat)) (CS S (kvG kI 0 met) (esU found)) = some (CS S (kvG kI 0 (met ++ [k])) (esU found)) := by
        unfold dput
        rw [at_a]
        show (if (kvG kI 0 met).length < 16777216 then some ((CS S (kvG kI 0 met) (esU found)).set S.length (.dK (putU (kvG kI 0 met) (kI k) (.int (met.length : Nat))))) else none) = _
        rw [if_pos (by rw [kvG_len]; omega), kvG_put kI_inj z, cs_sa]
      unfold NK.sDPut
      rw [ln]
      show (match dput (.loc S.length) (.int (k : Nat)) (.int (met.length : Nat)) (CS S (kvG kI 0 met) (esU found)) with | some st4 => SO.next [e0, some (.loc S.length), some (.loc (S.length + 1)), some (eU (some k))] st4 | none => SO.bad) = _
      rw [pt]
theorem cn_loop {e0 : Option U} : ∀ (M : Ent) (met : List Nat) (found : Ent) (e3 : Option U), found.length + M.length ≤ 900 → met.length + M.length ≤ 900 →
    ∃ e3', NK.forM (fun _ => True) (gN 3) l_class_numbers_1 (esU M) [e0, some (.loc S.length), some (.loc (S.length + 1)), e3] (CS S (kvG kI 0 met) (esU found)) = SO.next [e0, some (.loc S.length), some (.loc (S.length + 1)), e3'] (CS S (kvG kI 0 (finM met M)) (esU (found ++ numGo met M)))
  | [], met, found, e3, _, _ => ⟨e3, by
    show NK.forM _ _ _ [] _ _ = _
    rw [show numGo met ([] : Ent) = [] from rfl, List.append_nil]
    exact forM_nil True.intro⟩
  | o :: M, met, found, e3, h1, h2 => by
    rw [List.length_cons] at h1 h2
    have l1 : (stepM met o).length ≤ met.length + 1 := by
      cases o with
      | none => exact Nat.le_succ _
      | some k =>
        show (if k ∈ met then met else met ++ [k]).length ≤ _
        split
        · exact Nat.le_succ _
        · rw [List.length_append]; exact Nat.le_refl _
    obtain ⟨e3', ih⟩ := cn_loop (e0 := e0) M (stepM met o) (found ++ [o.map (stepM met o).idxOf]) (some (eU o)) (by rw [List.length_append, List.length_singleton]; omega) (by omega)
    refine ⟨e3', (forM_n (env1 := [e0, some (.loc S.length), some (.loc (S.length + 1)), some (eU o)]) True.intro rfl (cn_step (by omega) (by omega))).trans (ih.trans ?_)⟩
    have f1 : finM met (o :: M) = finM (stepM met o) M := by
      cases o with
      | none => rfl
      | some k =>
        show (if k ∈ met then finM met M else finM (met ++ [k]) M) = finM (if k ∈ met then met else met ++ [k]) M
        split <;> rfl
    have f2 : numGo met (o :: M) = o.map (stepM met o).idxOf :: numGo (stepM met o) M := by
      cases o with
      | none => rfl
      | some k =>
        show (if k ∈ met then some (met.idxOf k) :: numGo met M else some met.length :: numGo (met ++ [k]) M) = some ((if k ∈ met then met else met ++ [k]).idxOf k) :: numGo (if k ∈ met then met else met ++ [k]) M
        by_cases z : k ∈ met
        · rw [if_pos z, if_pos z]
        · rw [if_neg z, if_neg z]
          congr 2
          rw [List.idxOf_append, if_neg z]
          simp
    rw [f1, f2, List.append_assoc]
    rfl
theorem cn_ok {u : U} (q : SqE u M) (hl : M.length ≤ 900) : m_class_numbers [u] S = Out.ok (.tup (esU (num M))) S := by
  obtain ⟨e3, f⟩ := cn_loop (S := S) (e0 := some u) M [] [] none (by simpa using hl) (by simpa using hl)
  refine fs_val (n := 4) (mb := b_class_numbers) (env := [some u, none, none, none]) (st2 := S) (ext := [.dK (kvG kI 0 (finM [] M)), .lst (esU (num M))]) rfl ?_ (Old.refl S) (by unfold U.under; exact esU_und _)
  have a2 : eLst aNil [some u, some (.loc S.length), none, none] (S ++ [.dK []]) = Out.ok (.loc (S.length + 1)) (CS S (kvG kI 0 []) (esU [])) := by
    show Out.ok (U.loc (S ++ [Ob.dK []]).length) (S ++ [Ob.dK []] ++ [Ob.lst []]) = _
    rw [List.length_append, List.append_assoc]
    rfl
  unfold b_class_numbers
  refine seq_n (asg_ok (i := 1) (show eDict _ S = Out.ok (.loc S.length) (S ++ [.dK []]) from rfl)) (seq_n (asg_ok (i := 2) a2) (seq_n (sFor_ok (us := esU M) (g := fun _ => True) (S1 := CS S (kvG kI 0 []) (esU [])) (by cases q <;> rfl) f) (ret_ok ?_)))
  refine cb1 (S1 := CS S (kvG kI 0 (finM [] M)) (esU (num M))) (v_at (i := 2) rfl) ?_
  have it : items (.loc (S.length + 1)) (CS S (kvG kI 0 (finM [] M)) (esU (num M))) = some (esU (num M)) := by
    unfold items
    dsimp only
    rw [cs_b]
  unfold fTuple
  dsimp only
  rw [it]
  rfl
end
end G

namespace G
open PySem L2 NK
section
variable {S S1 S2 : Sto} {env : NK.Env} {m m1 m2 m3 : ME} {u v w : U} {r : Out U}
theorem flat_ints (is : List Int) : (is.map U.int).all flatU = true := by
  rw [List.all_eq_true]
  intro u hu
  obtain ⟨x, _, rfl⟩ := List.mem_map.mp hu
  rfl
end
section
variable {S S1 S2 : Sto} {env : NK.Env} {m m1 m2 m3 : ME} {u v w : U} {r : Out U}
theorem inU_ints (x : Int) : ∀ xs : List Int, inU (.int x) (xs.map U.int) = decide (x ∈ xs)
  | [] => by simp [inU]
  | y :: ys => by
    have ih := inU_ints x ys
    unfold inU at ih ⊢
    rw [List.map_cons, List.any_cons, ih]
    show ((y == x) || _) = _
    by_cases h : x = y
    · subst h
      simp
    · rw [beq_eq_false_iff_ne.mpr (Ne.symm h), Bool.false_or]
      simp [h]
end
section
variable {S S1 S2 : Sto} {env : NK.Env} {m m1 m2 m3 : ME} {u v w : U} {r : Out U}
theorem in_ints {neg : Bool} {x : Int} {xs : List Int} (hi : items u S = some (xs.map U.int)) : fIn neg (.int x) u S = Out.ok (.bl (decide (x ∈ xs) != neg)) S := by
  unfold fIn
  rw [hi]
  dsimp only
  rw [if_pos ⟨rfl, flat_ints xs⟩, inU_ints]
  cases neg <;> simp
end
section
variable {st S S' : Sto} {h : Ob} {gs l l' : List Gd} {s s' : Str} {xs ys : List Str} {g g' : Gd}
theorem cut_tk {us : List U} {d : Nat} : cutU us none (some (d : Int)) = us.take d := by
  unfold cutU
  rw [HT.sIx_none, HT.sIx_nat, List.drop_zero, List.take_eq_take_iff]
  omega
end
section
variable {st S S' : Sto} {h : Ob} {gs l l' : List Gd} {s s' : Str} {xs ys : List Str} {g g' : Gd}
theorem cut_sc {m mh : ME} {env : NK.Env} {us : List U} {d : Nat} (hm : m env S = Out.ok (.lst us) S) (hh : mh env S = Out.ok (.int (d : Int)) S') (o : Old S S') (hu : U.underL 0 (us.take d) = true) : eScope (eSl m none (some mh)) env S = Out.ok (.lst (us.take d)) S' := by
  have e : eSl m none (some mh) env S = Out.ok (.loc (S.length + 0)) (S' ++ [.lst (us.take d)]) := by
    unfold eSl
    rw [hm, ob]
    show ((mh env S).bind fun i s => _).bind _ = _
    rw [hh]
    show Out.ok (U.loc S'.length) (S' ++ [.lst (cutU us none (some (d : Int)))]) = _
    rw [cut_tk, o.1]
    rfl
  unfold eScope
  rw [e]
  exact sc_loc (j := 0) [.lst _] o rfl hu
end
section
variable {S S1 : Sto} {env : NK.Env} {m m1 m2 : ME} {es fs : Ent} {led : List (Nat × Nat)}
theorem tand_t {t1 t2 : MT} {b : Bool} (h1 : t1 env S = Out.ok true S) (h2 : t2 env S = Out.ok b S1) : NK.tAnd t1 t2 env S = Out.ok b S1 := by
  simp only [NK.tAnd, h1, ob]
  exact h2
end
section
variable {S S1 : Sto} {env : NK.Env} {es fs : Ent} {m m1 m2 : ME}
theorem rng_at {n : Nat} (h : m env S = Out.ok (.int (n : Nat)) S) (hn : n ≤ 10000) : NK.iRng1 (aCons m aNil) env S = Out.ok ⟨(List.range n).map fun (i : Nat) => U.int (i : Nat), fun _ => True⟩ S := by
  unfold NK.iRng1
  rw [ac1 h, ob]
  dsimp only
  rw [if_pos (by omega), Int.toNat_natCast]
  congr 3
  funext i
  rw [Int.zero_add]
end
section
variable {S S1 : Sto} {env : NK.Env} {es fs : Ent} {m m1 m2 : ME}
theorem len_lst {i : Nat} {gs : List U} (h : env[i]? = some (some (.lst gs))) : eCB fLen (aCons (eVar i) aNil) env S = Out.ok (.int (gs.length : Nat)) S := cb1 (S1 := S) (v_at h) rfl
end
section
variable {S S1 : Sto} {env : NK.Env} {es fs : Ent} {m m1 m2 : ME}
theorem esU_len (gs : Ent) : (esU gs).length = gs.length := by unfold esU; rw [List.length_map]
end
section
variable {S S1 : Sto} {env : NK.Env} {es fs : Ent} {m m1 m2 : ME}
theorem ne_int {a b : Nat} {m1 m2 : ME} (h1 : m1 env S = Out.ok (.int (a : Nat)) S) (h2 : m2 env S = Out.ok (.int (b : Nat)) S) : eOp fNe m1 m2 env S = Out.ok (.bl (!decide (a = b))) S := op2 (S1 := S) (S2 := S) h1 h2 (by
    refine (fNe_ok rfl rfl).trans ?_
    rw [show eqvU (.int (a : Nat)) (.int (b : Nat)) = decide (a = b) from (eU_eqv (some a) (some b)).trans (decide_eq_decide.mpr ⟨fun z => Option.some.inj z, fun z => by rw [z]⟩)])
end
section
variable {S S1 : Sto} {env : NK.Env} {es fs : Ent}
theorem eq_eU {o p : Option Nat} {m1 m2 : ME} (h1 : m1 env S = Out.ok (eU o) S) (h2 : m2 env S = Out.ok (eU p) S) : eOp fEq m1 m2 env S = Out.ok (.bl (decide (o = p))) S := op2 (S1 := S) (S2 := S) h1 h2 (by rw [fEq_ok (by cases o <;> rfl) (by cases p <;> rfl), eU_eqv])
end
section
variable {S S1 : Sto} {env : NK.Env} {es fs : Ent}
theorem ne_eU {o p : Option Nat} {m1 m2 : ME} (h1 : m1 env S = Out.ok (eU o) S) (h2 : m2 env S = Out.ok (eU p) S) : eOp fNe m1 m2 env S = Out.ok (.bl (!decide (o = p))) S := op2 (S1 := S) (S2 := S) h1 h2 (by rw [fNe_ok (by cases o <;> rfl) (by cases p <;> rfl), eU_eqv])
end
section
variable {S S1 : Sto} {env : NK.Env} {m m1 m2 : ME} {es fs : Ent}
end
section
variable {S S1 : Sto} {env : NK.Env} {m m1 m2 : ME} {es fs : Ent}
end
section
variable {st : Sto} {env : NK.Env} {h : Ob} {me : ME} {i : Nat}
end
section
variable {st : Sto} {env : NK.Env} {h : Ob} {me : ME} {i : Nat}
end
section
theorem es_ok (es : Ent) : okU 12 (.lst (esU es)) = true := by
  show (esU es).all (okU 11) = true
  rw [List.all_eq_true]
  intro u hu
  obtain ⟨o, _, rfl⟩ := List.mem_map.mp hu
  cases o <;> rfl
end
section
variable {S : Sto} {env : NK.Env} {m1 m2 : ME} {es fs hs : Ent}
theorem par3_ok {i j k : Nat} {ma : MA} {a b c : U} {S1 : Sto} (h : ma env S = Out.ok [a, b, c] S1) : sPar3 i j k ma env S = SO.next (((env.set i (some a)).set j (some b)).set k (some c)) S1 := by
  unfold sPar3
  rw [h]
  rfl
end
section
variable {S : Sto} {env : NK.Env} {m1 m2 : ME} {es fs hs : Ent}
theorem bne {a b : Bool} (h1 : m1 env S = Out.ok (.bl a) S) (h2 : m2 env S = Out.ok (.bl b) S) (e : a = b) : eOp fNe m1 m2 env S = Out.ok (.bl false) S := by
  subst e
  exact op2 (S1 := S) (S2 := S) h1 h2 (ne_same rfl)
end
section
variable {S : Sto} {env : NK.Env} {m1 m2 : ME} {es fs hs : Ent}
end
section
variable {S : Sto} {env : NK.Env} {m1 m2 : ME} {es fs hs : Ent}
theorem leq (h1 : m1 env S = Out.ok (.lst (esU es)) S) (h2 : m2 env S = Out.ok (.lst (esU es)) S) : eOp fEq m1 m2 env S = Out.ok (.bl true) S := op2 (S1 := S) (S2 := S) h1 h2 (eq_same (es_ok es))
end
section
variable {S : Sto} {env : NK.Env} {m1 m2 : ME} {es fs hs : Ent}
end
section
end
end G

namespace G
open PySem L2 NK
section
def look (a : Nat) : List (Nat × Nat) → Option Nat
  | [] => none
  | (x, y) :: l => if x = a then some y else look a l
end
section
def ledK (led : List (Nat × Nat)) : List (Key × U) := led.map fun q => (kI q.1, .int (q.2 : Nat))
end
section
theorem ledK_val : ∀ (led : List (Nat × Nat)) (a : Nat), valU (ledK led) (kI a) = (look a led).map fun b => U.int (b : Nat)
  | [], a => rfl
  | (x, y) :: l, a => by
    unfold ledK valU look
    rw [List.map_cons, List.find?_cons]
    by_cases e : x = a
    · subst e
      rw [decide_eq_true rfl, if_pos rfl]
      rfl
    · rw [decide_eq_false fun z => e (kI_inj _ _ z), if_neg e]
      exact ledK_val l a
end
section
theorem ledK_put {led : List (Nat × Nat)} {a b : Nat} (h : look a led = none) : putU (ledK led) (kI a) (.int (b : Nat)) = ledK (led ++ [(a, b)]) := by
  have n : ∀ l : List (Nat × Nat), look a l = none → ((ledK l).any fun kv => decide (kv.1 = kI a)) = false := fun l => by
    induction l with
    | nil => intro _; rfl
    | cons q l ih =>
      obtain ⟨x, y⟩ := q
      intro h
      unfold look at h
      split at h
      · cases h
      · rename_i ne
        show (decide (kI x = kI a) || (ledK l).any _) = false
        rw [decide_eq_false fun z => ne (kI_inj _ _ z), Bool.false_or]
        exact ih h
  unfold putU
  rw [n led h, if_neg Bool.false_ne_true]
  unfold ledK
  rw [List.map_append]
  rfl
end
end G

namespace G
open PySem L2 NK
theorem toD_loc {X : Sto} {j : Nat} {us : List U} (hX : X[j]? = some (.lst us)) (hu : okU 12 (.lst us) = true) : toD X 12 (.loc j) = some (.list (datL us)) := by
  have h := (okU_D (st := X) 12 (.lst us) hu).1
  show (match X[j]? with
    | some (.lst us) => (allD (toD X 11) us).map PyData.list
    | _ => none) = _
  rw [hX]
  exact h
structure Enc (α : Type) [DecidableEq α] where
  e : α → U
  ok : ∀ a, okU 11 (e a) = true
  eq : ∀ a b, eqvU (e a) (e b) = decide (a = b)
  nn : ∀ a X, fIsN (e a) .non X = Out.ok (.bl false) X
  yn : ∀ a X, fNotN (e a) .non X = Out.ok (.bl true) X
section
variable {α : Type} [DecidableEq α] (C : Enc α)
def Enc.o : Option α → U
  | none => .non
  | some a => C.e a
theorem Enc.all (met : List α) : okU 12 (.lst (met.map C.e)) = true := by
  show (met.map C.e).all (okU 11) = true
  rw [List.all_eq_true]
  intro u hu
  obtain ⟨a, _, rfl⟩ := List.mem_map.mp hu
  exact C.ok a
theorem Enc.ok12 (a : α) : okU 12 (C.e a) = true := okU_up 11 _ (C.ok a)
theorem Enc.any (a : α) : ∀ met : List α, ((datL (met.map C.e)).any fun z => PyData.eqv z (datU (C.e a))) = decide (a ∈ met)
  | [] => rfl
  | b :: met => by
    show (eqvU (C.e b) (C.e a) || (datL (met.map C.e)).any fun z => PyData.eqv z (datU (C.e a))) = _
    rw [C.eq, Enc.any a met]
    by_cases h : b = a
    · subst h; simp
    · rw [decide_eq_false h, Bool.false_or]
      refine decide_eq_decide.mpr ⟨fun q => List.mem_cons_of_mem _ q, fun q => ?_⟩
      rcases List.mem_cons.mp q with q | q
      · exact absurd q.symm h
      · exact q
theorem Enc.first (a : α) : ∀ (met : List α) (k : Nat), a ∈ met → firstD (datU (C.e a)) (datL (met.map C.e)) k = some (k + met.idxOf a)
  | [], _, h => nomatch h
  | b :: met, k, h => by
    show (if eqvU (C.e b) (C.e a) = true then some k else firstD (datU (C.e a)) (datL (met.map C.e)) (k + 1)) = _
    rw [C.eq, List.idxOf_cons]
    by_cases q : b = a
    · subst q; simp
    · rw [decide_eq_false q, if_neg Bool.false_ne_true, beq_false_of_ne q, Enc.first a met (k + 1) (by
        rcases List.mem_cons.mp h with z | z
        · exact absurd z.symm q
        · exact z)]
      show some (k + 1 + List.idxOf a met) = some (k + (List.idxOf a met + 1))
      congr 1
      omega
def stepP (met : List α) : Option α → List α
  | none => met
  | some k => if k ∈ met then met else met ++ [k]
variable {S : Sto}
def LN (S : Sto) (met : List α) (found : Ent) : Sto := S ++ [.lst (met.map C.e), .lst (esU found)]
variable {met : List α} {found : Ent} {a : α}
theorem ln_a : (LN C S met found)[S.length]? = some (.lst (met.map C.e)) := by unfold LN; simp
theorem ln_b : (LN C S met found)[S.length + 1]? = some (.lst (esU found)) := by unfold LN; simp
theorem ln_sa : (LN C S met found).set S.length (.lst (met.map C.e ++ [C.e a])) = LN C S (met ++ [a]) found := by unfold LN; simp
theorem ln_sb {o : Option Nat} : (LN C S met found).set (S.length + 1) (.lst (esU found ++ [eU o])) = LN C S met (found ++ [o]) := by
  unfold LN esU
  simp
theorem ln_in : fInD true (C.e a) (.loc S.length) (LN C S met found) = Out.ok (.bl (!decide (a ∈ met))) (LN C S met found) := by
  unfold fInD
  rw [(okU_D 12 _ (C.ok12 a)).1, toD_loc (ln_a C) (C.all met)]
  show (if SeqAt.shaped (datU (C.e a)) = true ∧ SeqAt.shaped (.list (datL (met.map C.e))) = true then Out.ok (U.bl (((datL (met.map C.e)).any fun z => PyData.eqv z (datU (C.e a))) != true)) (LN C S met found) else Out.bad) = _
  rw [if_pos ⟨okU_shaped (C.ok12 a), okU_shaped (u := .lst (met.map C.e)) (C.all met)⟩, C.any]
  cases decide (a ∈ met) <;> rfl
theorem ln_ix (h : a ∈ met) : fIndex (.loc S.length) [C.e a] (LN C S met found) = Out.ok (.int (met.idxOf a : Nat)) (LN C S met found) := by
  unfold fIndex
  dsimp only
  rw [(okU_D 12 _ (C.ok12 a)).1, toD_loc (ln_a C) (C.all met)]
  dsimp only
  rw [if_pos ⟨okU_shaped (C.ok12 a), okU_shaped (u := .lst (met.map C.e)) (C.all met)⟩, C.first a met 0 h, Nat.zero_add]
theorem ln_step {e0 : Option U} {o : Option α} (hm : met.length < 1000) (hf : found.length < 1000) : l_u_law_numbers_1 [e0, some (.loc S.length), some (.loc (S.length + 1)), some (C.o o)] (LN C S met found) = SO.next [e0, some (.loc S.length), some (.loc (S.length + 1)), some (C.o o)] (LN C S (stepP met o) (found ++ [o.map (stepP met o).idxOf])) := by
  have fl : (esU found).length < 1000 := by rw [esU_len]; exact hf
  unfold l_u_law_numbers_1
  cases o with
  | none =>
    have t : NK.tB (eOp fNotN (eVar 3) (eC .non)) [e0, some (.loc S.length), some (.loc (S.length + 1)), some .non] (LN C S met found) = Out.ok false (LN C S met found) := tB_of (op2 (a := .non) (b := .non) (S2 := LN C S met found) (v_at (i := 3) rfl) rfl rfl)
    refine seq_n (if_f (tand_f t) rfl) ?_
    have d := app_drop (S := LN C S met found) (S1 := LN C S met found) (i := 2) (j := S.length + 1) (us := esU found) (w := .non) (env := [e0, some (.loc S.length), some (.loc (S.length + 1)), some .non]) (m := eIf (NK.tB (eOp fIsN (eVar 3) (eC .non))) (eC .non) (eBM fIndex (eVar 1) (aCons (eVar 3) aNil))) rfl (isl_at (ln_b C)) ?_ (ln_b C) fl
    · rw [show U.non = eU none from rfl, ln_sb C] at d
      exact d
    · exact (eif_at (tB_of (op2 (a := .non) (b := .non) (S2 := LN C S met found) (v_at (i := 3) rfl) rfl (r := Out.ok (.bl true) (LN C S met found)) rfl))).trans rfl
  | some a =>
    have t1 : ∀ {met : List α}, NK.tB (eOp fNotN (eVar 3) (eC .non)) [e0, some (.loc S.length), some (.loc (S.length + 1)), some (C.e a)] (LN C S met found) = Out.ok true (LN C S met found) := fun {met} => tB_of (op2 (a := C.e a) (b := .non) (S2 := LN C S met found) (v_at (i := 3) rfl) rfl (C.yn a _))
    have t2 : NK.tB (eOp (fInD true) (eVar 3) (eVar 1)) [e0, some (.loc S.length), some (.loc (S.length + 1)), some (C.e a)] (LN C S met found) = Out.ok (!decide (a ∈ met)) (LN C S met found) := tB_of (op2 (a := C.e a) (b := .loc S.length) (S2 := LN C S met found) (v_at (i := 3) rfl) (v_at (i := 1) rfl) (ln_in C))
    have t := tand_t t1 t2
    have put : ∀ {met : List α}, a ∈ met → sDrop (eBM fApp (eVar 2) (aCons (eIf (NK.tB (eOp fIsN (eVar 3) (eC .non))) (eC .non) (eBM fIndex (eVar 1) (aCons (eVar 3) aNil))) aNil)) [e0, some (.loc S.length), some (.loc (S.length + 1)), some (C.e a)] (LN C S met found) = SO.next [e0, some (.loc S.length), some (.loc (S.length + 1)), some (C.e a)] (LN C S met (found ++ [some (met.idxOf a)])) := fun {met} z => by
      have n : eOp fIsN (eVar 3) (eC .non) [e0, some (.loc S.length), some (.loc (S.length + 1)), some (C.e a)] (LN C S met found) = Out.ok (.bl false) (LN C S met found) := op2 (a := C.e a) (b := .non) (S2 := LN C S met found) (v_at (i := 3) rfl) rfl (C.nn a _)
      have v1 : eVar 1 [e0, some (.loc S.length), some (.loc (S.length + 1)), some (C.e a)] (LN C S met found) = Out.ok (.loc S.length) (LN C S met found) := v_at (i := 1) rfl
      have v3 : aCons (eVar 3) aNil [e0, some (.loc S.length), some (.loc (S.length + 1)), some (C.e a)] (LN C S met found) = Out.ok [C.e a] (LN C S met found) := ac1 (v_at (i := 3) rfl)
      have d := app_drop (S := LN C S met found) (S1 := LN C S met found) (i := 2) (j := S.length + 1) (us := esU found) (w := .int (met.idxOf a : Nat)) (env := [e0, some (.loc S.length), some (.loc (S.length + 1)), some (C.e a)]) (m := eIf (NK.tB (eOp fIsN (eVar 3) (eC .non))) (eC .non) (eBM fIndex (eVar 1) (aCons (eVar 3) aNil))) rfl (isl_at (ln_b C)) ?_ (ln_b C) fl
      · rw [show U.int (met.idxOf a : Nat) = eU (some (met.idxOf a)) from rfl, ln_sb C] at d
        exact d
      · refine (eif_at (tB_of n)).trans ?_
        rw [if_neg Bool.false_ne_true]
        unfold eBM
        rw [v1, ob, if_pos (isl_at (ln_a C)), v3, ob]
        exact ln_ix C z
    by_cases z : a ∈ met
    · rw [decide_eq_true z] at t
      rw [show stepP met (some a) = met from if_pos z]
      exact seq_n (if_f t rfl) (put z)
    · rw [decide_eq_false z] at t
      rw [show stepP met (some a) = met ++ [a] from if_neg z]
      have d := app_drop (S := LN C S met found) (S1 := LN C S met found) (i := 1) (j := S.length) (us := met.map C.e) (w := C.e a) (env := [e0, some (.loc S.length), some (.loc (S.length + 1)), some (C.e a)]) (m := eVar 3) rfl (isl_at (ln_a C)) (v_at (i := 3) rfl) (ln_a C) (by rw [List.length_map]; exact hm)
      rw [ln_sa C] at d
      exact seq_n (if_t t d) (put (List.mem_append_right _ (List.mem_singleton.mpr rfl)))
theorem ln_loop {e0 : Option U} : ∀ (M : List (Option α)) (met : List α) (found : Ent) (e3 : Option U), found.length + M.length ≤ 900 → met.length + M.length ≤ 900 →
    ∃ e3', NK.forM (fun _ => True) (gN 3) l_u_law_numbers_1 (M.map C.o) [e0, some (.loc S.length), some (.loc (S.length + 1)), e3] (LN C S met found) = SO.next [e0, some (.loc S.length), some (.loc (S.length + 1)), e3'] (LN C S (finM met M) (found ++ numGo met M))
  | [], met, found, e3, _, _ => ⟨e3, by
    rw [show numGo met ([] : List (Option α)) = [] from rfl, List.append_nil]
    exact forM_nil True.intro⟩
  | o :: M, met, found, e3, h1, h2 => by
    rw [List.length_cons] at h1 h2
    have l1 : (stepP met o).length ≤ met.length + 1 := by
      cases o with
      | none => exact Nat.le_succ _
      | some k =>
        show (if k ∈ met then met else met ++ [k]).length ≤ _
        split
        · exact Nat.le_succ _
        · rw [List.length_append]; exact Nat.le_refl _
    obtain ⟨e3', ih⟩ := ln_loop (e0 := e0) M (stepP met o) (found ++ [o.map (stepP met o).idxOf]) (some (C.o o)) (by rw [List.length_append, List.length_singleton]; omega) (by omega)
    refine ⟨e3', (forM_n (env1 := [e0, some (.loc S.length), some (.loc (S.length + 1)), some (C.o o)]) True.intro rfl (ln_step C (by omega) (by omega))).trans (ih.trans ?_)⟩
    have f1 : finM met (o :: M) = finM (stepP met o) M := by
      cases o with
      | none => rfl
      | some k =>
        show (if k ∈ met then finM met M else finM (met ++ [k]) M) = finM (if k ∈ met then met else met ++ [k]) M
        split <;> rfl
    have f2 : numGo met (o :: M) = o.map (stepP met o).idxOf :: numGo (stepP met o) M := by
      cases o with
      | none => rfl
      | some k =>
        show (if k ∈ met then some (met.idxOf k) :: numGo met M else some met.length :: numGo (met ++ [k]) M) = some ((if k ∈ met then met else met ++ [k]).idxOf k) :: numGo (if k ∈ met then met else met ++ [k]) M
        by_cases z : k ∈ met
        · rw [if_pos z, if_pos z]
        · rw [if_neg z, if_neg z]
          congr 2
          rw [List.idxOf_append, if_neg z]
          simp
    rw [f1, f2, List.append_assoc]
    rfl
theorem lnum_ok (M : List (Option α)) (hl : M.length ≤ 900) : m_u_law_numbers [.lst (M.map C.o)] S = Out.ok (.lst (esU (num M))) S := by
  obtain ⟨e3, f⟩ := ln_loop C (S := S) (e0 := some (.lst (M.map C.o))) M [] [] none (by simpa using hl) (by simpa using hl)
  refine fs_lst1 (n := 4) (mb := b_u_law_numbers) (env := [some (.lst (M.map C.o)), none, none, none]) (j := 1) (S2 := S) (ext := [.lst ((finM [] M).map C.e), .lst (esU (num M))]) rfl ?_ (Old.refl S) rfl (esU_und _)
  unfold b_u_law_numbers
  have p : aCons (eLst aNil) (aCons (eLst aNil) aNil) [some (.lst (M.map C.o)), none, none, none] S = Out.ok [.loc S.length, .loc (S.length + 1)] (LN C S [] []) := by
    have l2 : eLst aNil [some (.lst (M.map C.o)), none, none, none] (S ++ [.lst []]) = Out.ok (.loc (S.length + 1)) (LN C S [] []) := by
      show Out.ok (U.loc (S ++ [Ob.lst []]).length) (S ++ [Ob.lst []] ++ [Ob.lst []]) = _
      rw [List.length_append, List.append_assoc]
      rfl
    exact acN (S1 := S ++ [.lst []]) (u := .loc S.length) rfl (ac1 l2)
  refine seq_n (par_ok p) (seq_n (sFor_ok (us := M.map C.o) (g := fun _ => True) (S1 := LN C S [] []) rfl f) (ret_ok (v_at (i := 2) rfl)))
end
def encN : Enc Nat where
  e k := .int (k : Nat)
  ok _ := rfl
  eq a b := (eU_eqv (some a) (some b)).trans (decide_eq_decide.mpr ⟨fun z => Option.some.inj z, fun z => by rw [z]⟩)
  nn _ _ := rfl
  yn _ _ := rfl
theorem encN_o : (encN.o : Option Nat → U) = eU := by
  funext o
  cases o <;> rfl
theorem lnumN (M : Ent) (S : Sto) (hl : M.length ≤ 900) : m_u_law_numbers [.lst (esU M)] S = Out.ok (.lst (esU (num M))) S := by
  have h := lnum_ok encN (S := S) M hl
  rw [encN_o] at h
  exact h
end G

namespace G
open PySem L2 NK
def BIG : Nat := 1000000000000000000000000000000
section
variable {S S1 : Sto} {env : NK.Env} {m m1 m2 : ME} {u w : U}
theorem eop_int {f : U → U → Sto → Out U} {i j : Int} {r : Out U} (h1 : m1 env S = Out.ok (.int i) S) (h2 : m2 env S = Out.ok (.int j) S) (h : f (.int i) (.int j) S = r) : eOp f m1 m2 env S = r := op2 (S1 := S) (S2 := S) h1 h2 h
theorem enot_at {b : Bool} (h : m env S = Out.ok (.bl b) S) : eNot m env S = Out.ok (.bl (!b)) S := by
  unfold eNot
  rw [h, ob]
theorem sl_from {ml : ME} {us : List U} {k : Nat} (hm : m env S = Out.ok (.lst us) S) (hl : ml env S = Out.ok (.int (k : Int)) S) (hu : U.underL 0 us = true) : eScope (eSl m (some ml) none) env S = Out.ok (.lst (us.drop k)) S := by
  have e : eSl m (some ml) none env S = Out.ok (.loc S.length) (S ++ [.lst (us.drop k)]) := by
    rw [← cut_drop]
    simp only [eSl, hm, hl, ob, eSl.lsts]
  unfold eScope
  rw [e]
  exact sc_loc (j := 0) [.lst _] (Old.refl S) rfl (underL_all fun u hu' => underL_mem hu (List.mem_of_mem_drop hu'))
theorem raise2 {k : Nat} {ma : MA} {a b : U} (h : ma env S = Out.ok [a, b] S) : sRaise k 2 ma env S = SO.exc ⟨k, [a, b]⟩ env S := by
  unfold sRaise
  rw [h]
  rfl
theorem raise1 {k : Nat} {ma : MA} {a : U} (h : ma env S = Out.ok [a] S) : sRaise k 1 ma env S = SO.exc ⟨k, [a]⟩ env S := by
  unfold sRaise
  rw [h]
  rfl
theorem seq_x {a b : MS} {env env1 : NK.Env} {S S1 : Sto} {x : Ex} (h1 : a env S = SO.exc x env1 S1) : sSeq a b env S = SO.exc x env1 S1 := by
  show SO.bind _ _ = _
  rw [h1]
  rfl
theorem sFor_x {mi : MI} {gt : MGt} {b : MS} {us : List U} {g : Sto → Prop} {x : Ex} {env' : NK.Env} {S2 : Sto} (h : mi env S = Out.ok ⟨us, g⟩ S1) (f : NK.forM g gt b us env S1 = SO.exc x env' S2) : sFor mi gt b env S = SO.exc x env' S2 := by
  unfold NK.sFor
  rw [h]
  exact f
theorem drop_x {x : Ex} (h : m env S = Out.exc x S1) : sDrop m env S = SO.exc x env S1 := by
  unfold sDrop
  rw [h]
  rfl
theorem whole_int (n : Int) : m_is_whole [.int n, .int 0, .int 1000000000000000000000000000000] S = Out.ok (.bl (decide (0 ≤ n) && decide (n ≤ 1000000000000000000000000000000))) S := by
  refine fs_same (n := 3) (mb := b_is_whole) (env := [some (.int n), some (.int 0), some (.int 1000000000000000000000000000000)]) rfl ?_ rfl
  have i1 := isi_at (S := S) (env := [some (.int n), some (.int 0), some (.int 1000000000000000000000000000000)]) (i := 0) (t := .b .int) (cs := [.b .int]) (b := true) rfl rfl rfl
  have i2 := isi_at (S := S) (env := [some (.int n), some (.int 0), some (.int 1000000000000000000000000000000)]) (i := 0) (t := .b .int) (cs := [.b .bool]) (b := false) rfl rfl rfl
  have c : eChain fLe fLe (eVar 1) (eVar 0) (eVar 2) [some (.int n), some (.int 0), some (.int 1000000000000000000000000000000)] S = Out.ok (.bl (decide (0 ≤ n) && decide (n ≤ 1000000000000000000000000000000))) S := by
    unfold eChain
    rw [v_at (i := 1) (u := .int 0) rfl, ob, v_at (i := 0) (u := .int n) rfl, ob]
    show (Out.ok (U.bl (decide ((0 : Int) ≤ n))) S).bind _ = _
    rw [ob]
    by_cases h : (0 : Int) ≤ n
    · rw [decide_eq_true h, Bool.true_and]
      dsimp only
      rw [v_at (i := 2) (u := .int 1000000000000000000000000000000) rfl, ob]
      rfl
    · rw [decide_eq_false h, Bool.false_and]
  unfold b_is_whole
  exact ret_ok (and_yes i1 (and_yes (enot_at i2) c))
theorem name_of {b : Bool} (h : m_is_whole [u, .int 0, .int 1000000000000000000000000000000] S = Out.ok (.bl b) S) : m_is_name [u] S = Out.ok (.bl b) S := by
  refine fs_same (n := 1) (mb := b_is_name) (env := [some u]) rfl ?_ rfl
  unfold b_is_name
  exact ret_ok (call3 rfl (v_at (i := 0) rfl) rfl rfl h)
structure Nm (u : U) (b : Bool) : Prop where
  nn : ∀ X, fNotN u .non X = Out.ok (.bl true) X
  nm : ∀ X, m_is_name [u] X = Out.ok (.bl b) X
theorem nm_int (n : Int) : Nm (.int n) (decide (0 ≤ n) && decide (n ≤ 1000000000000000000000000000000)) := ⟨fun _ => rfl, fun _ => name_of (whole_int n)⟩
theorem nm_nat {k : Nat} (h : k ≤ BIG) : Nm (.int (k : Nat)) true := by
  have e := nm_int (k : Nat)
  rw [decide_eq_true (by omega), decide_eq_true (by unfold BIG at h; omega)] at e
  exact e
theorem nm_no (hn : ∀ X, fNotN u .non X = Out.ok (.bl true) X) {t : Tr} (ht : ∀ X, trOf u X = some t) (hi : isAny isl t [.b .int] = some false) : Nm u false := ⟨hn, fun X => name_of (by
  refine fs_same (n := 3) (mb := b_is_whole) (env := [some u, some (.int 0), some (.int 1000000000000000000000000000000)]) rfl ?_ rfl
  unfold b_is_whole
  exact ret_ok (and_no (isi_at (i := 0) rfl (ht X) hi)))⟩
theorem nm_bl (b : Bool) : Nm (.bl b) false := ⟨fun _ => rfl, fun X => name_of (by
  refine fs_same (n := 3) (mb := b_is_whole) (env := [some (.bl b), some (.int 0), some (.int 1000000000000000000000000000000)]) rfl ?_ rfl
  unfold b_is_whole
  exact ret_ok (and_yes (isi_at (i := 0) (t := .b .bool) (b := true) rfl rfl rfl) (and_no (enot_at (isi_at (i := 0) (t := .b .bool) (b := true) rfl rfl rfl)))))⟩
theorem nm_str (z : Str) : Nm (.str z) false := nm_no (fun _ => rfl) (t := .b .str) (fun _ => rfl) rfl
theorem nm_tup (us : List U) : Nm (.tup us) false := nm_no (fun _ => rfl) (t := .b .tuple) (fun _ => rfl) rfl
theorem nm_non (X : Sto) : m_is_name [.non] X = Out.ok (.bl false) X := name_of (by
  refine fs_same (n := 3) (mb := b_is_whole) (env := [some .non, some (.int 0), some (.int 1000000000000000000000000000000)]) rfl ?_ rfl
  unfold b_is_whole
  exact ret_ok (and_no (isi_at (i := 0) (t := .b .none) rfl rfl rfl)))
def Gd (u : U) : Prop := u = .non ∨ Nm u true
inductive SqU : U → List U → Prop where
  | l (us : List U) : SqU (.lst us) us
  | t (us : List U) : SqU (.tup us) us
theorem sq_isi {e1 e2 : Option U} {us : List U} (q : SqU u us) : eIsi isl [(.b .list), (.b .tuple)] (eVar 0) [some u, e1, e2] S = Out.ok (.bl true) S := by
  cases q with
  | l => exact isi_at (i := 0) (t := .b .list) rfl rfl rfl
  | t => exact isi_at (i := 0) (t := .b .tuple) rfl rfl rfl
theorem sq_len {i : Nat} {us : List U} (q : SqU u us) (h : env[i]? = some (some u)) : eCB fLen (aCons (eVar i) aNil) env S = Out.ok (.int (us.length : Nat)) S := cb1 (S1 := S) (v_at h) (by cases q <;> rfl)
theorem sq_enum {i : Nat} {us : List U} (q : SqU u us) (h : env[i]? = some (some u)) : iEnumA (aCons (eVar i) aNil) env S = Out.ok ⟨enumFrom 0 us, fun _ => True⟩ S := by
  unfold iEnumA
  rw [ac1 (v_at h), ob]
  cases q <;> rfl
theorem sq_ok {e1 e2 : Option U} {us : List U} (q : SqU u us) (hl : us.length ≤ 40) : NK.tOr (NK.tNot (NK.tTru (eIsi isl [(.b .list), (.b .tuple)] (eVar 0)))) (NK.tB (eOp fGt (eCB fLen (aCons (eVar 0) aNil)) (eC (.int 40)))) [some u, e1, e2] S = Out.ok false S := by
  refine or_ff (notK (b := true) (truK (sq_isi q))) (tB_of (eop_int (sq_len (i := 0) q rfl) rfl ?_))
  show Out.ok (U.bl (decide ((40 : Int) < ((us.length : Nat) : Int)))) S = _
  rw [decide_eq_false (by omega)]
theorem sq_long {e1 e2 : Option U} {us : List U} (q : SqU u us) (hl : 40 < us.length) : NK.tOr (NK.tNot (NK.tTru (eIsi isl [(.b .list), (.b .tuple)] (eVar 0)))) (NK.tB (eOp fGt (eCB fLen (aCons (eVar 0) aNil)) (eC (.int 40)))) [some u, e1, e2] S = Out.ok true S := by
  refine or_at (b1 := false) (b2 := true) (notK (b := true) (truK (sq_isi q))) (tB_of (eop_int (sq_len (i := 0) q rfl) rfl ?_))
  show Out.ok (U.bl (decide ((40 : Int) < ((us.length : Nat) : Int)))) S = _
  rw [decide_eq_true (by omega)]
theorem sq_str {e1 e2 : Option U} {z : Str} : NK.tOr (NK.tNot (NK.tTru (eIsi isl [(.b .list), (.b .tuple)] (eVar 0)))) (NK.tB (eOp fGt (eCB fLen (aCons (eVar 0) aNil)) (eC (.int 40)))) [some (.str z), e1, e2] S = Out.ok true S := by
  have h := notK (b := false) (truK (isi_at (S := S) (env := [some (.str z), e1, e2]) (i := 0) (t := .b .str) (cs := [(.b .list), (.b .tuple)]) (b := false) rfl rfl rfl))
  simp only [NK.tOr, h, ob, Bool.not_false]
  rw [if_pos True.intro]
theorem nf_good {e0 e1 : Option U} (h : Gd u) : l_names_fault_1 [e0, e1, some u] S = SO.next [e0, e1, some u] S := by
  unfold l_names_fault_1
  rcases h with rfl | h
  · exact if_f (S1 := S) (tand_f (tB_of (op2 (S1 := S) (S2 := S) (a := .non) (b := .non) (v_at (i := 2) rfl) rfl rfl))) rfl
  · exact if_f (S1 := S) (tand_t (tB_of (op2 (S1 := S) (S2 := S) (b := .non) (v_at (i := 2) rfl) rfl (h.nn S))) (notK (b := true) (truK (call1 rfl (v_at (i := 2) rfl) (h.nm S))))) rfl
theorem nf_loop {e0 : Option U} : ∀ (us : List U) (k : Nat) (e1 e2 : Option U), (∀ u ∈ us, Gd u) → ∃ e1' e2', NK.forM (fun _ => True) (gT [1, 2]) l_names_fault_1 (enumFrom k us) [e0, e1, e2] S = SO.next [e0, e1', e2'] S
  | [], k, e1, e2, _ => ⟨e1, e2, forM_nil True.intro⟩
  | u :: us, k, e1, e2, h => by
    obtain ⟨e1', e2', ih⟩ := nf_loop (e0 := e0) us (k + 1) (some (.int (k : Nat))) (some u) fun w hw => h w (List.mem_cons_of_mem _ hw)
    exact ⟨e1', e2', (forM_n (env1 := [e0, some (.int (k : Nat)), some u]) True.intro rfl (nf_good (h u List.mem_cons_self))).trans ih⟩
theorem nf_badl {e0 : Option U} {b : U} {r : List U} (hb : Nm b false) : ∀ (g : List U) (k : Nat) (e1 e2 : Option U), (∀ u ∈ g, Gd u) → NK.forM (fun _ => True) (gT [1, 2]) l_names_fault_1 (enumFrom k (g ++ b :: r)) [e0, e1, e2] S = SO.ret (.tup [.int ((k + g.length : Nat) : Int), .str "name"]) S
  | [], k, e1, e2, _ => by
    refine forM_r (env1 := [e0, some (.int (k : Nat)), some b]) True.intro rfl ?_
    unfold l_names_fault_1
    exact if_t (S1 := S) (tand_t (tB_of (op2 (S1 := S) (S2 := S) (b := .non) (v_at (i := 2) rfl) rfl (hb.nn S))) (notK (b := false) (truK (call1 rfl (v_at (i := 2) rfl) (hb.nm S))))) (ret_ok (tup2 (S1 := S) (v_at (i := 1) rfl) rfl))
  | u :: g, k, e1, e2, h => by
    refine (forM_n (env1 := [e0, some (.int (k : Nat)), some u]) True.intro rfl (nf_good (h u List.mem_cons_self))).trans ((nf_badl hb g (k + 1) _ _ fun w hw => h w (List.mem_cons_of_mem _ hw)).trans ?_)
    rw [List.length_cons, show k + 1 + g.length = k + (g.length + 1) by omega]
theorem nf_ok {us : List U} (q : SqU u us) (hl : us.length ≤ 40) (h : ∀ u ∈ us, Gd u) : m_names_fault [u] S = Out.ok .non S := by
  obtain ⟨e1, e2, f⟩ := nf_loop (S := S) (e0 := some u) us 0 none none h
  refine fs_same (n := 3) (mb := b_names_fault) (env := [some u, none, none]) rfl ?_ rfl
  unfold b_names_fault
  exact seq_n (if_f (sq_ok q hl) rfl) (seq_n (sFor_ok (sq_enum (i := 0) q rfl) f) (ret_ok rfl))
theorem nf_bad {g r : List U} {b : U} (q : SqU u (g ++ b :: r)) (hl : (g ++ b :: r).length ≤ 40) (h : ∀ u ∈ g, Gd u) (hb : Nm b false) : m_names_fault [u] S = Out.ok (.tup [.int (g.length : Nat), .str "name"]) S := by
  have f := nf_badl (S := S) (e0 := some u) (r := r) hb g 0 none none h
  rw [Nat.zero_add] at f
  refine fs_same (n := 3) (mb := b_names_fault) (env := [some u, none, none]) rfl ?_ rfl
  unfold b_names_fault
  exact seq_n (if_f (sq_ok q hl) rfl) (seq_r (sFor_ok (sq_enum (i := 0) q rfl) f))
theorem nf_long {us : List U} (q : SqU u us) (hl : 40 < us.length) : m_names_fault [u] S = Out.ok (.tup [.int 0, .str "names"]) S := by
  refine fs_same (n := 3) (mb := b_names_fault) (env := [some u, none, none]) rfl ?_ rfl
  unfold b_names_fault
  exact seq_r (if_t (S1 := S) (sq_long q hl) (ret_ok (tup2 (S1 := S) rfl rfl)))
theorem nf_str (z : Str) : m_names_fault [.str z] S = Out.ok (.tup [.int 0, .str "names"]) S := by
  refine fs_same (n := 3) (mb := b_names_fault) (env := [some (.str z), none, none]) rfl ?_ rfl
  unfold b_names_fault
  exact seq_r (if_t (S1 := S) sq_str (ret_ok (tup2 (S1 := S) rfl rfl)))
def bnX (i : Int) (z : Str) : Ex := ⟨2, [.int i, .str z]⟩
theorem ck_ok (h : m_names_fault [u] S = Out.ok .non S) : m_check_names [u] S = Out.ok .non S := by
  refine fs_non0 (n := 2) (mb := b_check_names) (env := [some u, none]) (env' := [some u, some .non]) rfl ?_
  unfold b_check_names
  exact seq_n (asg_ok (i := 1) (call1 rfl (v_at (i := 0) rfl) h)) (if_no (S1 := S) (op2 (S1 := S) (S2 := S) (a := .non) (b := .non) (v_at (i := 1) rfl) rfl rfl) rfl)
theorem ck_bad {i : Int} {z : Str} (h : m_names_fault [u] S = Out.ok (.tup [.int i, .str z]) S) : m_check_names [u] S = Out.exc (bnX i z) S := by
  refine fs_exc (n := 2) (mb := b_check_names) (env := [some u, none]) (env' := [some u, some (.tup [.int i, .str z])]) rfl ?_
  unfold b_check_names
  refine seq_n (asg_ok (i := 1) (call1 rfl (v_at (i := 0) rfl) h)) (if_yes (S1 := S) (op2 (S1 := S) (S2 := S) (a := .tup [.int i, .str z]) (b := .non) (v_at (i := 1) rfl) rfl rfl) (raise2 (a := .int i) (b := .str z) ?_))
  exact acN (S1 := S) (ixA (v_at (i := 1) rfl) (i := 0) rfl rfl rfl) (ac1 (ixA (v_at (i := 1) rfl) (i := 1) rfl rfl rfl))
def Nms (r : Ent) : Prop := ∀ x, some x ∈ r → x ≤ BIG
theorem gd_row {r : Ent} (h : Nms r) : ∀ u ∈ esU r, Gd u := fun u hu => by
  obtain ⟨o, ho, rfl⟩ := List.mem_map.mp hu
  cases o with
  | none => exact .inl rfl
  | some x => exact .inr (nm_nat (h x ho))
theorem sq_e {r : Ent} (q : SqE u r) : SqU u (esU r) := by cases q <;> constructor
theorem ck_row {r : Ent} (q : SqE u r) (hl : r.length ≤ 40) (h : Nms r) : m_check_names [u] S = Out.ok .non S := ck_ok (nf_ok (sq_e q) (by rw [esU_len]; exact hl) (gd_row h))
theorem cu_step {e0 : Option U} {us : List U} {k : Nat} {x : Nat} {ns : List Nat} (he : us.take k = ns.map fun (n : Nat) => U.int (n : Nat)) (hx : x ≤ BIG) : l_check_unlike_names_1 [some (.lst us), some (.int (k : Nat)), some (.int (x : Nat))] S = if x ∈ ns then SO.exc (bnX k "double") [some (.lst us), some (.int (k : Nat)), some (.int (x : Nat))] S else SO.next [some (.lst us), some (.int (k : Nat)), some (.int (x : Nat))] S := by
  have t1 := notK (b := true) (truK (call1 (k := 1) (a := eVar 2) (env := [some (.lst us), some (.int (k : Nat)), some (.int (x : Nat))]) (S := S) rfl (v_at (i := 2) rfl) ((nm_nat hx).nm S)))
  have sl : eScope (eSl (eVar 0) none (some (eVar 1))) [some (.lst us), some (.int (k : Nat)), some (.int (x : Nat))] S = Out.ok (.lst (us.take k)) S := cut_sc (v_at (i := 0) rfl) (v_at (i := 1) rfl) (Old.refl S) (by
    rw [he]
    exact underL_all fun u hu => by
      obtain ⟨n, _, rfl⟩ := List.mem_map.mp hu
      rfl)
  have inn : eOp (fIn false) (eVar 2) (eScope (eSl (eVar 0) none (some (eVar 1)))) [some (.lst us), some (.int (k : Nat)), some (.int (x : Nat))] S = Out.ok (.bl (decide (x ∈ ns))) S := by
    refine op2 (S1 := S) (S2 := S) (v_at (i := 2) rfl) sl ((in_ints (xs := ns.map fun (n : Nat) => (n : Int)) (by
      rw [List.map_map]
      exact congrArg some he)).trans ?_)
    congr 2
    rw [Bool.bne_false]
    refine decide_eq_decide.mpr ⟨fun h => ?_, fun h => List.mem_map.mpr ⟨x, h, rfl⟩⟩
    obtain ⟨n, hn, e⟩ := List.mem_map.mp h
    rwa [← Int.ofNat.inj e]
  unfold l_check_unlike_names_1
  refine seq_n (if_f t1 rfl) ?_
  by_cases h : x ∈ ns
  · rw [if_pos h]
    rw [decide_eq_true h] at inn
    exact if_yes inn (raise2 (acN (S1 := S) (v_at (i := 1) rfl) (ac1 rfl)))
  · rw [if_neg h]
    rw [decide_eq_false h] at inn
    exact if_no inn rfl
theorem cu_bad {us : List U} {k : Nat} {b : U} (hb : m_is_name [b] S = Out.ok (.bl false) S) : l_check_unlike_names_1 [some (.lst us), some (.int (k : Nat)), some b] S = SO.exc (bnX k "name") [some (.lst us), some (.int (k : Nat)), some b] S := by
  unfold l_check_unlike_names_1
  exact seq_x (if_t (S1 := S) (notK (b := false) (truK (call1 rfl (v_at (i := 2) rfl) hb))) (raise2 (acN (S1 := S) (v_at (i := 1) rfl) (ac1 rfl))))
def nU (ns : List Nat) : List U := ns.map fun (n : Nat) => U.int (n : Nat)
theorem cu_loop {r : List U} : ∀ (ns ms : List Nat) (e1 e2 : Option U), (ms ++ ns).Nodup → (∀ n ∈ ns, n ≤ BIG) →
    ∃ e1' e2', NK.forM (fun _ => True) (gT [1, 2]) l_check_unlike_names_1 (enumFrom ms.length (nU ns ++ r)) [some (.lst (nU ms ++ (nU ns ++ r))), e1, e2] S = NK.forM (fun _ => True) (gT [1, 2]) l_check_unlike_names_1 (enumFrom (ms.length + ns.length) r) [some (.lst (nU ms ++ (nU ns ++ r))), e1', e2'] S
  | [], ms, e1, e2, _, _ => ⟨e1, e2, by rfl⟩
  | x :: ns, ms, e1, e2, nd, hb => by
    have e : nU ms ++ (nU (x :: ns) ++ r) = nU (ms ++ [x]) ++ (nU ns ++ r) := by
      unfold nU
      rw [List.map_append, List.append_assoc]
      rfl
    have nd2 : ((ms ++ [x]) ++ ns).Nodup := by rw [List.append_assoc]; exact nd
    obtain ⟨e1', e2', ih⟩ := cu_loop (r := r) ns (ms ++ [x]) (some (.int (ms.length : Nat))) (some (.int (x : Nat))) nd2 fun n hn => hb n (List.mem_cons_of_mem _ hn)
    rw [List.length_append, List.length_singleton, ← e] at ih
    have st := cu_step (S := S) (e0 := none) (us := nU ms ++ (nU (x :: ns) ++ r)) (k := ms.length) (x := x) (ns := ms) (by
      have : (nU ms).length = ms.length := List.length_map ..
      rw [← this, List.take_left']
      · rfl
      · rfl) (hb x List.mem_cons_self)
    rw [if_neg fun h => (List.nodup_append.mp nd).2.2 x h x List.mem_cons_self rfl] at st
    refine ⟨e1', e2', (forM_n (env1 := [some (.lst (nU ms ++ (nU (x :: ns) ++ r))), some (.int (ms.length : Nat)), some (.int (x : Nat))]) True.intro rfl st).trans (ih.trans ?_)⟩
    rw [List.length_cons, show ms.length + 1 + ns.length = ms.length + (ns.length + 1) by omega]
theorem un_ok {ns : List Nat} (nd : ns.Nodup) (hb : ∀ n ∈ ns, n ≤ BIG) (hl : ns.length ≤ 40) : m_check_unlike_names [.lst (nU ns)] S = Out.ok .non S := by
  obtain ⟨e1, e2, f⟩ := cu_loop (S := S) (r := []) ns [] none none nd hb
  refine fs_non0 (n := 3) (mb := b_check_unlike_names) (env := [some (.lst (nU ns)), none, none]) (env' := [some (.lst (nU ns)), e1, e2]) rfl ?_
  unfold b_check_unlike_names
  refine seq_n (if_f (sq_ok (.l _) (by unfold nU; rw [List.length_map]; exact hl)) rfl) (sFor_ok (sq_enum (i := 0) (.l _) rfl) ?_)
  rw [List.append_nil] at f
  exact f.trans (forM_nil True.intro)
theorem un_name {ns : List Nat} {b : U} {r : List U} (nd : ns.Nodup) (hb : ∀ n ∈ ns, n ≤ BIG) (hl : (nU ns ++ b :: r).length ≤ 40) (h : m_is_name [b] S = Out.ok (.bl false) S) : m_check_unlike_names [.lst (nU ns ++ b :: r)] S = Out.exc (bnX ns.length "name") S := by
  obtain ⟨e1, e2, f⟩ := cu_loop (S := S) (r := b :: r) ns [] none none nd hb
  refine fs_exc (n := 3) (mb := b_check_unlike_names) (env := [some (.lst (nU ns ++ b :: r)), none, none]) (env' := [some (.lst (nU ns ++ b :: r)), some (.int (ns.length : Nat)), some b]) rfl ?_
  unfold b_check_unlike_names
  refine seq_n (if_f (sq_ok (.l _) hl) rfl) (sFor_x (sq_enum (i := 0) (.l _) rfl) ?_)
  refine f.trans ?_
  rw [List.length_nil, Nat.zero_add]
  exact forM_x (env1 := [some (.lst (nU ns ++ b :: r)), some (.int (ns.length : Nat)), some b]) True.intro rfl (cu_bad h)
theorem un_double {ns : List Nat} {x : Nat} (nd : ns.Nodup) (hb : ∀ n ∈ ns, n ≤ BIG) (hl : ns.length < 40) (h : x ∈ ns) : m_check_unlike_names [.lst (nU ns ++ [.int (x : Nat)])] S = Out.exc (bnX ns.length "double") S := by
  obtain ⟨e1, e2, f⟩ := cu_loop (S := S) (r := [.int (x : Nat)]) ns [] none none nd hb
  have ln : (nU ns).length = ns.length := List.length_map ..
  refine fs_exc (n := 3) (mb := b_check_unlike_names) (env := [some (.lst (nU ns ++ [.int (x : Nat)])), none, none]) (env' := [some (.lst (nU ns ++ [.int (x : Nat)])), some (.int (ns.length : Nat)), some (.int (x : Nat))]) rfl ?_
  unfold b_check_unlike_names
  refine seq_n (if_f (sq_ok (.l _) (by rw [List.length_append, ln, List.length_singleton]; omega)) rfl) (sFor_x (sq_enum (i := 0) (.l _) rfl) ?_)
  refine f.trans ?_
  rw [List.length_nil, Nat.zero_add]
  have st := cu_step (S := S) (e0 := none) (us := nU ns ++ [.int (x : Nat)]) (k := ns.length) (x := x) (ns := ns) (by
    rw [← ln, List.take_left']
    · rfl
    · rfl) (hb x h)
  rw [if_pos h] at st
  exact forM_x (env1 := [some (.lst (nU ns ++ [.int (x : Nat)])), some (.int (ns.length : Nat)), some (.int (x : Nat))]) True.intro rfl st
end
end G

namespace G
open PySem L2 NK
section
variable {S S1 : Sto} {env : NK.Env} {m m1 m2 : ME} {u w : U} {es r : Ent}
theorem drop_cons {k : Nat} (h : k < es.length) : es.drop k = es[k] :: es.drop (k + 1) := List.drop_eq_getElem_cons h
theorem fdl_loop {e1 : Option U} : ∀ (A : Ent) (k : Nat) (e2 e3 : Option U), k + A.length = es.length → ∃ e2' e3', NK.forM (fun _ => True) (gT [2, 3]) l_first_difference_1 (enumFrom k (esU A)) [some (patI es), e1, e2, e3] S = match fd k A (es.drop k) with
    | none => SO.next [some (patI es), e1, e2', e3'] S
    | some i => SO.ret (.int (i : Nat)) S
  | [], k, e2, e3, _ => ⟨e2, e3, by
    have z : fd k [] (es.drop k) = none := by cases es.drop k <;> rfl
    rw [z]
    exact forM_nil True.intro⟩
  | a :: A, k, e2, e3, h => by
    rw [List.length_cons] at h
    have hk : k < es.length := by omega
    have ix : eOp fIx (eFld 5 0 (eVar 0)) (eVar 2) [some (patI es), e1, some (.int (k : Nat)), some (eU a)] S = Out.ok (eU es[k]) S := ix_tupE (j := 0) (fld_at rfl rfl) (v_at (i := 2) rfl) (esU_at (List.getElem?_eq_getElem hk))
    have ne := ne_eU (o := a) (m1 := eVar 3) (v_at (i := 3) rfl) ix
    have fe : fd k (a :: A) (es.drop k) = if a = es[k] then fd (k + 1) A (es.drop (k + 1)) else some k := by
      rw [drop_cons hk]
      rfl
    by_cases z : a = es[k]
    · rw [decide_eq_true z] at ne
      rw [if_pos z] at fe
      obtain ⟨e2', e3', ih⟩ := fdl_loop (e1 := e1) A (k + 1) (some (.int (k : Nat))) (some (eU a)) (by omega)
      refine ⟨e2', e3', ?_⟩
      rw [fe]
      exact (forM_n (env1 := [some (patI es), e1, some (.int (k : Nat)), some (eU a)]) True.intro rfl (by
        unfold l_first_difference_1
        exact if_no (S1 := S) ne rfl)).trans ih
    · rw [decide_eq_false z] at ne
      rw [if_neg z] at fe
      refine ⟨none, none, ?_⟩
      rw [fe]
      exact forM_r (env1 := [some (patI es), e1, some (.int (k : Nat)), some (eU a)]) True.intro rfl (by
        unfold l_first_difference_1
        exact if_yes (S1 := S) ne (ret_ok (v_at (i := 2) rfl)))
theorem pat_len {i : Nat} (h : env[i]? = some (some (patI es))) : eCB fLen (aCons (eFld 5 0 (eVar i)) aNil) env S = Out.ok (.int (es.length : Nat)) S := cb1 (S1 := S) (fld_at h rfl) (by
  show Out.ok (U.int ((esU es).length : Nat)) S = _
  rw [esU_len])
theorem e_len {i : Nat} (q : SqE u r) (h : env[i]? = some (some u)) : eCB fLen (aCons (eVar i) aNil) env S = Out.ok (.int (r.length : Nat)) S := by
  rw [sq_len (sq_e q) h, esU_len]
theorem fdiff_ok (q : SqE u r) (hl : r.length ≤ 40) (h : Nms r) (l : r.length = es.length) : m_first_difference [patI es, u] S = Out.ok (eU (fd 0 (num r) es)) S := by
  obtain ⟨e2, e3, f⟩ := fdl_loop (S := S) (es := es) (e1 := some u) (num r) 0 none none (by rw [num_len, Nat.zero_add]; exact l)
  rw [List.drop_zero] at f
  have ne := ne_int (S := S) (env := [some (patI es), some u, none, none]) (e_len (i := 1) q rfl) (pat_len (i := 0) (es := es) rfl)
  rw [decide_eq_true l] at ne
  have it : iEnumA (aCons (eCall 1 m_class_numbers [] (aCons (eVar 1) aNil)) aNil) [some (patI es), some u, none, none] S = Out.ok ⟨enumFrom 0 (esU (num r)), fun _ => True⟩ S := by
    unfold iEnumA
    rw [ac1 (call1 rfl (v_at (i := 1) rfl) (cn_ok q (by omega))), ob]
  refine fs_same (n := 4) (mb := b_first_difference) (env := [some (patI es), some u, none, none]) rfl ?_ (eU_und _)
  unfold b_first_difference
  refine seq_n (drop_n (call1 rfl (v_at (i := 1) rfl) (ck_row q hl h))) (seq_n (if_no (S1 := S) ne rfl) ?_)
  cases z : fd 0 (num r) es with
  | none =>
    rw [z] at f
    exact seq_n (sFor_ok it f) (ret_ok rfl)
  | some i =>
    rw [z] at f
    exact seq_r (sFor_ok it f)
theorem fdiff_len (q : SqE u r) (hl : r.length ≤ 40) (h : Nms r) (l : r.length ≠ es.length) : m_first_difference [patI es, u] S = Out.exc (bnX r.length "length") S := by
  have ne := ne_int (S := S) (env := [some (patI es), some u, none, none]) (e_len (i := 1) q rfl) (pat_len (i := 0) (es := es) rfl)
  rw [decide_eq_false l] at ne
  refine fs_exc (n := 4) (mb := b_first_difference) (env := [some (patI es), some u, none, none]) (env' := [some (patI es), some u, none, none]) rfl ?_
  unfold b_first_difference
  exact seq_n (drop_n (call1 rfl (v_at (i := 1) rfl) (ck_row q hl h))) (seq_x (if_yes (S1 := S) ne (raise2 (acN (S1 := S) (e_len (i := 1) q rfl) (ac1 rfl)))))
theorem fdiff_bad {x : Ex} (h : m_check_names [u] S = Out.exc x S) : m_first_difference [patI es, u] S = Out.exc x S := by
  refine fs_exc (n := 4) (mb := b_first_difference) (env := [some (patI es), some u, none, none]) (env' := [some (patI es), some u, none, none]) rfl ?_
  unfold b_first_difference
  exact seq_x (drop_x (call1 rfl (v_at (i := 1) rfl) h))
theorem df_loop {A B : Ent} {e0 e1 : Option U} (l : A.length = B.length) : ∀ (n k : Nat) (e4 : Option U), k + n = A.length → ∃ e4', NK.forM (fun _ => True) (gN 4) l_u_law_differs_1 ((List.range' k n).map fun (i : Nat) => U.int (i : Nat)) [e0, e1, some (.lst (esU A)), some (.lst (esU B)), e4] S = match fd k (A.drop k) (B.drop k) with
    | none => SO.next [e0, e1, some (.lst (esU A)), some (.lst (esU B)), e4'] S
    | some i => SO.ret (.int (i : Nat)) S
  | 0, k, e4, h => ⟨e4, by
    rw [List.drop_eq_nil_iff.mpr (by omega)]
    exact forM_nil True.intro⟩
  | n + 1, k, e4, h => by
    have ha : k < A.length := by omega
    have hb : k < B.length := by omega
    have ne := ne_eU (S := S) (env := [e0, e1, some (.lst (esU A)), some (.lst (esU B)), some (.int (k : Nat))]) (m1 := eOp fIx (eVar 2) (eVar 4)) (m2 := eOp fIx (eVar 3) (eVar 4)) (ix_lstE (v_at (i := 2) rfl) (v_at (i := 4) rfl) (esU_at (List.getElem?_eq_getElem ha))) (ix_lstE (v_at (i := 3) rfl) (v_at (i := 4) rfl) (esU_at (List.getElem?_eq_getElem hb)))
    have fe : fd k (A.drop k) (B.drop k) = if A[k] = B[k] then fd (k + 1) (A.drop (k + 1)) (B.drop (k + 1)) else some k := by
      rw [drop_cons ha, drop_cons hb]
      rfl
    rw [List.range'_succ, List.map_cons, fe]
    by_cases z : A[k] = B[k]
    · rw [decide_eq_true z] at ne
      rw [if_pos z]
      obtain ⟨e4', ih⟩ := df_loop (e0 := e0) (e1 := e1) l n (k + 1) (some (.int (k : Nat))) (by omega)
      exact ⟨e4', (forM_n (env1 := [e0, e1, some (.lst (esU A)), some (.lst (esU B)), some (.int (k : Nat))]) True.intro rfl (by
        unfold l_u_law_differs_1
        exact if_no (S1 := S) ne rfl)).trans ih⟩
    · rw [decide_eq_false z] at ne
      rw [if_neg z]
      exact ⟨none, forM_r (env1 := [e0, e1, some (.lst (esU A)), some (.lst (esU B)), some (.int (k : Nat))]) True.intro rfl (by
        unfold l_u_law_differs_1
        exact if_yes (S1 := S) ne (ret_ok (v_at (i := 4) rfl)))⟩
theorem differs_ok {A B : Ent} (l : A.length = B.length) (hl : A.length ≤ 900) : m_u_law_differs [.lst (esU A), .lst (esU B)] S = Out.ok (eU (fd 0 (num A) (num B))) S := by
  obtain ⟨e4, f⟩ := df_loop (S := S) (A := num A) (B := num B) (e0 := some (.lst (esU A))) (e1 := some (.lst (esU B))) (by rw [num_len, num_len]; exact l) A.length 0 none (by rw [num_len, Nat.zero_add])
  rw [List.drop_zero, List.drop_zero] at f
  refine fs_same (n := 5) (mb := b_u_law_differs) (env := [some (.lst (esU A)), some (.lst (esU B)), none, none, none]) rfl ?_ (eU_und _)
  have p := acN (S := S) (env := [some (.lst (esU A)), some (.lst (esU B)), none, none, none]) (call1 (k := 1) rfl (v_at (i := 0) rfl) (lnumN A S hl)) (ac1 (call1 (k := 1) rfl (v_at (i := 1) rfl) (lnumN B S (by omega))))
  have ln := len_lst (S := S) (env := [some (.lst (esU A)), some (.lst (esU B)), some (.lst (esU (num A))), some (.lst (esU (num B))), none]) (i := 2) (gs := esU (num A)) rfl
  rw [esU_len, num_len] at ln
  have it := rng_at ln (by omega)
  rw [List.range_eq_range'] at it
  unfold b_u_law_differs
  refine seq_n (par_ok p) ?_
  cases z : fd 0 (num A) (num B) with
  | none =>
    rw [z] at f
    exact seq_n (sFor_ok it f) (ret_ok rfl)
  | some i =>
    rw [z] at f
    exact seq_r (sFor_ok it f)
theorem dd_can : ∀ (es : Ent) (m : Nat), canGo m es → dedup ((List.range m).map fun (k : Nat) => (k : Int)) (((esU es).filter fun u => !u.isNon).map fun u => match u with
    | .int i => i
    | _ => 0) = (List.range (run m es)).map fun (k : Nat) => (k : Int)
  | [], m, _ => rfl
  | none :: es, m, c => dd_can es m c
  | some j :: es, m, c => by
    have mem : ((j : Nat) : Int) ∈ ((List.range m).map fun (k : Nat) => (k : Int)) ↔ j < m := by
      rw [List.mem_map]
      constructor
      · rintro ⟨k, hk, e⟩
        rw [← Int.ofNat.inj e]
        exact List.mem_range.mp hk
      · exact fun h => ⟨j, List.mem_range.mpr h, rfl⟩
    show dedup (if ((j : Nat) : Int) ∈ ((List.range m).map fun (k : Nat) => (k : Int)) then _ else ((List.range m).map fun (k : Nat) => (k : Int)) ++ [((j : Nat) : Int)]) _ = _
    unfold run
    rcases c with ⟨h, c⟩ | ⟨rfl, c⟩
    · rw [if_pos (mem.mpr h), if_neg (by omega)]
      exact dd_can es m c
    · rw [if_neg (fun z => Nat.lt_irrefl _ (mem.mp z)), if_pos rfl]
      have e : ((List.range j).map fun (k : Nat) => (k : Int)) ++ [((j : Nat) : Int)] = (List.range (j + 1)).map fun (k : Nat) => (k : Int) := by
        rw [List.range_succ, List.map_append]
        rfl
      rw [e]
      exact dd_can es (j + 1) c
theorem count_ok (c : Can es) (hl : es.length ≤ 900) : m_Pattern_class_count [patI es] S = Out.ok (.int (run 0 es : Nat)) S := by
  refine fs_same (n := 2) (mb := b_Pattern_class_count) (env := [some (patI es), none]) rfl ?_ rfl
  unfold b_Pattern_class_count
  have q := sc_pure (st := S) (env := [some (patI es), none]) (mi := iSeq (eFld 5 0 (eVar 0))) (g := fun _ => True) (i := 1) (mt := NK.tB (eOp fNotN (eVar 1) (eC .non))) (me := eVar 1) (us := esU es) (fun u => match u with
    | .int i => i
    | _ => 0) (fun u => !u.isNon) (by
      unfold iSeq
      rw [fld_at (i := 0) (u := patI es) (w := .tup (esU es)) rfl rfl, ob]
      rfl) (fun _ => True.intro) (by rw [esU_len]; omega) (fun u hu acc => by
      obtain ⟨o, _, rfl⟩ := List.mem_map.mp hu
      refine ⟨tB_of (op2 (S1 := S ++ [.iset acc]) (S2 := S ++ [.iset acc]) (a := eU o) (b := .non) (v_at (i := 1) rfl) rfl (by cases o <;> rfl)), fun z => ?_⟩
      cases o with
      | none => exact absurd z (by decide)
      | some k => exact v_at (i := 1) rfl)
  refine ret_ok (q.trans ?_)
  have d := dd_can es 0 c
  rw [List.range_zero, List.map_nil] at d
  rw [d, List.length_map, List.length_range]
theorem prop_at {i : Nat} (c : Can es) (hl : es.length ≤ 900) (h : env[i]? = some (some (patI es))) : eProp 5 m_Pattern_class_count (eVar i) env S = Out.ok (.int (run 0 es : Nat)) S := by
  unfold eProp
  rw [v_at h, ob]
  show (if (_ : Nat) = _ then (match m_Pattern_class_count [patI es] S with
    | .ok v st2 => Out.ok v st2
    | _ => Out.bad) else Out.bad) = _
  rw [if_pos rfl, count_ok c hl]
theorem nU_at {ns : List Nat} {k : Nat} (h : k < ns.length) : (nU ns)[k]? = some (.int (ns.getD k 0 : Nat)) := by
  unfold nU
  rw [List.getElem?_map, List.getD_eq_getElem?_getD, List.getElem?_eq_getElem h]
  rfl
theorem nU_len (ns : List Nat) : (nU ns).length = ns.length := List.length_map ..
theorem row_elt {i j : Nat} {ns : List Nat} {o : Option Nat} (h1 : env[i]? = some (some (.lst (nU ns)))) (h2 : env[j]? = some (some (eU o))) (ho : ∀ k, o = some k → k < ns.length) : eIf (NK.tB (eOp fIsN (eVar j) (eC .non))) (eC .non) (eOp fIx (eVar i) (eVar j)) env S = Out.ok (eU (o.map fun k => ns.getD k 0)) S := by
  have n : eOp fIsN (eVar j) (eC .non) env S = Out.ok (.bl (!o.isSome)) S := op2 (S1 := S) (S2 := S) (b := .non) (v_at h2) rfl (by cases o <;> rfl)
  refine (eif_at (tB_of n)).trans ?_
  cases o with
  | none => rfl
  | some k => exact ix_lstE (v_at h1) (v_at h2) (nU_at (ho k rfl))
theorem rowc_ok {mi : MI} {ns : List Nat} {e0 : Option U} (hi : mi [e0, some (.lst (nU ns)), none] S = Out.ok ⟨esU es, fun _ => True⟩ S) (hl : es.length ≤ 900) (ho : ∀ k, some k ∈ es → k < ns.length) : eScope (eComp mi (gN 2) NK.tYes (eIf (NK.tB (eOp fIsN (eVar 2) (eC .non))) (eC .non) (eOp fIx (eVar 1) (eVar 2))) [2]) [e0, some (.lst (nU ns)), none] S = Out.ok (.lst (esU (rowE es ns))) S := by
  refine (comp_all (st := S) (i := 2) (g := fun _ => True) (as := es) eU (fun o => eU (o.map fun k => ns.getD k 0)) hi (fun _ => True.intro) (by omega) (fun o h acc => row_elt (i := 1) (j := 2) rfl rfl fun k e => ho k (e ▸ h)) (fun _ _ => eU_und _)).trans ?_
  unfold esU rowE
  rw [List.map_map]
  rfl
theorem can_in {ns : List Nat} (c : Can es) (h : run 0 es ≤ ns.length) : ∀ k, some k ∈ es → k < ns.length := fun k hk => Nat.lt_of_lt_of_le (run_lt es 0 k c hk) h
theorem row_ok {ns : List Nat} (c : Can es) (hl : es.length ≤ 900) (h : run 0 es ≤ ns.length) : m_u_law_row [.lst (esU es), .lst (nU ns)] S = Out.ok (.lst (esU (rowE es ns))) S := by
  refine fs_same (n := 3) (mb := b_u_law_row) (env := [some (.lst (esU es)), some (.lst (nU ns)), none]) rfl ?_ (by unfold U.under; exact esU_und _)
  unfold b_u_law_row
  exact ret_ok (rowc_ok rfl hl (can_in c h))
theorem for_ok {ns : List Nat} (c : Can es) (hl : es.length ≤ 900) (nd : ns.Nodup) (hb : ∀ n ∈ ns, n ≤ BIG) (h40 : ns.length ≤ 40) (h : run 0 es ≤ ns.length) : m_names_for [patI es, .lst (nU ns)] S = Out.ok (.tup (esU (rowE es ns))) S := by
  refine fs_same (n := 3) (mb := b_names_for) (env := [some (patI es), some (.lst (nU ns)), none]) rfl ?_ (by unfold U.under; exact esU_und _)
  have ln := len_lst (S := S) (env := [some (patI es), some (.lst (nU ns)), none]) (i := 1) (gs := nU ns) rfl
  rw [nU_len] at ln
  have lt : eOp fLt (eCB fLen (aCons (eVar 1) aNil)) (eProp 5 m_Pattern_class_count (eVar 0)) [some (patI es), some (.lst (nU ns)), none] S = Out.ok (.bl false) S := eop_int ln (prop_at c hl rfl) (by
    show Out.ok (U.bl (decide (((ns.length : Nat) : Int) < ((run 0 es : Nat) : Int)))) S = _
    rw [decide_eq_false (by omega)])
  unfold b_names_for
  refine seq_n (drop_n (call1 rfl (v_at (i := 1) rfl) (un_ok nd hb h40))) (seq_n (if_no (S1 := S) lt rfl) (ret_ok ?_))
  refine cb1 (rowc_ok (es := es) (e0 := some (patI es)) ?_ hl (can_in c h)) rfl
  unfold iSeq
  rw [fld_at (i := 0) (u := patI es) (w := .tup (esU es)) rfl rfl, ob]
  rfl
theorem for_few {ns : List Nat} (c : Can es) (hl : es.length ≤ 900) (nd : ns.Nodup) (hb : ∀ n ∈ ns, n ≤ BIG) (h40 : ns.length ≤ 40) (h : ns.length < run 0 es) : m_names_for [patI es, .lst (nU ns)] S = Out.exc (bnX ns.length "few") S := by
  refine fs_exc (n := 3) (mb := b_names_for) (env := [some (patI es), some (.lst (nU ns)), none]) (env' := [some (patI es), some (.lst (nU ns)), none]) rfl ?_
  have ln := len_lst (S := S) (env := [some (patI es), some (.lst (nU ns)), none]) (i := 1) (gs := nU ns) rfl
  rw [nU_len] at ln
  have lt : eOp fLt (eCB fLen (aCons (eVar 1) aNil)) (eProp 5 m_Pattern_class_count (eVar 0)) [some (patI es), some (.lst (nU ns)), none] S = Out.ok (.bl true) S := eop_int ln (prop_at c hl rfl) (by
    show Out.ok (U.bl (decide (((ns.length : Nat) : Int) < ((run 0 es : Nat) : Int)))) S = _
    rw [decide_eq_true (by omega)])
  unfold b_names_for
  exact seq_n (drop_n (call1 rfl (v_at (i := 1) rfl) (un_ok nd hb h40))) (seq_x (if_yes (S1 := S) lt (raise2 (acN (S1 := S) ln (ac1 rfl)))))
theorem for_bad {x : Ex} (h : m_check_unlike_names [u] S = Out.exc x S) : m_names_for [patI es, u] S = Out.exc x S := by
  refine fs_exc (n := 3) (mb := b_names_for) (env := [some (patI es), some u, none]) (env' := [some (patI es), some u, none]) rfl ?_
  unfold b_names_for
  exact seq_x (drop_x (call1 rfl (v_at (i := 1) rfl) h))
def somes (es : Ent) : List Nat := es.filterMap id
theorem somes_map (es : Ent) : ((es.filter fun o => o.isSome).map eU) = nU (somes es) := by
  induction es with
  | nil => rfl
  | cons o es ih =>
    cases o with
    | none => exact ih
    | some k =>
      show eU (some k) :: ((es.filter fun o => o.isSome).map eU) = U.int (k : Nat) :: nU (somes es)
      rw [ih]
      rfl
theorem somes_mem {k : Nat} : k ∈ somes es ↔ some k ∈ es := by
  unfold somes
  rw [List.mem_filterMap]
  exact ⟨fun ⟨a, h, e⟩ => (show a = some k from e) ▸ h, fun h => ⟨some k, h, rfl⟩⟩
theorem lcount_ok (c : Can es) (hl : es.length ≤ 900) : m_u_law_count [.lst (esU es)] S = Out.ok (.int (run 0 es : Nat)) S := by
  refine fs_same (n := 2) (mb := b_u_law_count) (env := [some (.lst (esU es)), none]) rfl ?_ rfl
  have l1 : eScope (eLst (aCons (eUn fNeg (eC (.int 1))) aNil)) [some (.lst (esU es)), none] S = Out.ok (.lst [.int (-1)]) S := lit1 rfl rfl
  have l2 : eScope (eComp (iSeq (eVar 0)) (gN 1) (NK.tB (eOp fNotN (eVar 1) (eC .non))) (eVar 1) [1]) [some (.lst (esU es)), none] S = Out.ok (.lst (nU (somes es))) S := by
    refine (comp_genF (st := S) (g := fun _ => True) eU eU (fun o => o.isSome) (as := es) (mi := iSeq (eVar 0)) rfl (fun _ => True.intro) (by omega) (fun o _ acc => ⟨[some (.lst (esU es)), some (eU o)], rfl, ?_, fun _ => v_at (i := 1) rfl⟩) (fun _ _ _ => eU_und _)).trans (by rw [somes_map])
    exact tB_of (op2 (S1 := S ++ [.lst acc]) (S2 := S ++ [.lst acc]) (a := eU o) (b := .non) (v_at (i := 1) rfl) rfl (by cases o <;> rfl))
  have ls : (somes es).length ≤ es.length := List.length_filterMap_le _ _
  have ad : eScope (eOp fAdd (eScope (eLst (aCons (eUn fNeg (eC (.int 1))) aNil))) (eScope (eComp (iSeq (eVar 0)) (gN 1) (NK.tB (eOp fNotN (eVar 1) (eC .non))) (eVar 1) [1]))) [some (.lst (esU es)), none] S = Out.ok (.lst ([.int (-1)] ++ nU (somes es))) S := add_fr l1 l2 rfl (by rw [nU_len]; show 1 + _ ≤ 1000; omega) (underL_all fun u hu => by
    rcases List.mem_append.mp hu with h | h
    · cases List.mem_singleton.mp h
      rfl
    · obtain ⟨n, _, rfl⟩ := List.mem_map.mp h
      rfl)
  have al : allInts ([.int (-1)] ++ nU (somes es)) = some (-1 :: (somes es).map fun (k : Nat) => (k : Int)) := by
    have g : ∀ l : List Nat, allInts (nU l) = some (l.map fun (k : Nat) => (k : Int)) := fun l => by
      induction l with
      | nil => rfl
      | cons a l ih =>
        show allInts (U.int (a : Nat) :: nU l) = _
        unfold allInts
        rw [ih]
        rfl
    show allInts (U.int (-1) :: nU (somes es)) = _
    unfold allInts
    rw [g]
    rfl
  have mx : maxL (-1 :: (somes es).map fun (k : Nat) => (k : Int)) = (run 0 es : Int) - 1 := by
    refine (maxL_of ?_ fun y hy => ?_).symm
    · by_cases z : run 0 es = 0
      · rw [z]
        exact List.mem_cons_self
      · have := run_met es 0 (run 0 es - 1) c (Nat.zero_le _) (by omega)
        exact List.mem_cons_of_mem _ (List.mem_map.mpr ⟨run 0 es - 1, somes_mem.mpr this, by omega⟩)
    · rcases List.mem_cons.mp hy with rfl | hy
      · omega
      · obtain ⟨k, hk, rfl⟩ := List.mem_map.mp hy
        have := run_lt es 0 k c (somes_mem.mp hk)
        omega
  unfold b_u_law_count
  refine ret_ok (eop_int (i := 1) (j := (run 0 es : Int) - 1) rfl (cb1 ad ?_) ?_)
  · unfold fMaxL
    show (match allInts ([.int (-1)] ++ nU (somes es)) with
      | some ns => if 0 < ns.length then Out.ok (U.int (maxL ns)) S else Out.bad
      | none => Out.bad) = _
    rw [al]
    dsimp only
    rw [if_pos (show 0 < (-1 :: (somes es).map fun (k : Nat) => (k : Int)).length from Nat.succ_pos _), mx]
  · rw [fAdd_i]
    congr 2
    omega
end
end G

namespace G
open PySem L2 NK
def pU (q : Nat × Nat) : U := .tup [.int (q.1 : Nat), .int (q.2 : Nat)]
def psU (ps : List (Nat × Nat)) : List U := ps.map pU
theorem psU_len (ps : List (Nat × Nat)) : (psU ps).length = ps.length := List.length_map ..
theorem psU_und (ps : List (Nat × Nat)) : U.underL 0 (psU ps) = true := underL_all fun u hu => by
  obtain ⟨q, _, rfl⟩ := List.mem_map.mp hu
  rfl
def nrX (i : Nat) : Ex := ⟨4, [.int (i : Nat)]⟩
section
variable {S S1 : Sto} {env : NK.Env} {m m1 m2 : ME} {u w : U} {O P : Ent}
def PS' (S : Sto) (ps : List (Nat × Nat)) : Sto := S ++ [.lst (psU ps)]
theorem ps_at {ps : List (Nat × Nat)} : (PS' S ps)[S.length]? = some (.lst (psU ps)) := at_last
theorem ps_set {ps : List (Nat × Nat)} {q : Nat × Nat} : (PS' S ps).set S.length (.lst (psU ps ++ [pU q])) = PS' S (ps ++ [q]) := by
  unfold PS'
  rw [set_last]
  unfold psU
  rw [List.map_append]
  rfl
theorem ps_len {i : Nat} {ps : List (Nat × Nat)} (h : env[i]? = some (some (.loc S.length))) : eCB fLen (aCons (eVar i) aNil) env (PS' S ps) = Out.ok (.int (ps.length : Nat)) (PS' S ps) := by
  refine cb1 (v_at h) ?_
  have it : items (.loc S.length) (PS' S ps) = some (psU ps) := by
    unfold items
    dsimp only
    rw [ps_at]
  unfold fLen
  dsimp only
  rw [it]
  show Out.ok (U.int ((psU ps).length : Nat)) _ = _
  rw [psU_len]
theorem ps_app {i : Nat} {ps : List (Nat × Nat)} {q : Nat × Nat} (hm : m env (PS' S ps) = Out.ok (pU q) (PS' S ps)) (h : env[i]? = some (some (.loc S.length))) (hz : ps.length < 1000) : sDrop (eBM fApp (eVar i) (aCons m aNil)) env (PS' S ps) = SO.next env (PS' S (ps ++ [q])) := by
  have d := app_drop (S := PS' S ps) (S1 := PS' S ps) (i := i) (j := S.length) (us := psU ps) (w := pU q) (env := env) (m := m) h (isl_at ps_at) hm ps_at (by rw [psU_len]; exact hz)
  rw [ps_set] at d
  exact d
theorem eq_len {o : Option Nat} {n : Nat} {X : Sto} (h1 : m1 env X = Out.ok (eU o) X) (h2 : m2 env X = Out.ok (.int (n : Nat)) X) : eOp fEq m1 m2 env X = Out.ok (.bl (decide (o = some n))) X := eq_eU (p := some n) h1 h2
theorem sqe_ix {i : Nat} {k : Nat} {u : U} {X : Sto} (q : SqE u O) (h1 : env[i]? = some (some u)) (h2 : m env X = Out.ok (.int (k : Nat)) X) (hk : k < O.length) : eOp fIx (eVar i) m env X = Out.ok (eU O[k]) X := by
  cases q with
  | l => exact ix_lstE (v_at h1) h2 (esU_at (List.getElem?_eq_getElem hk))
  | t => exact ix_tupE (j := 0) (v_at h1) h2 (esU_at (List.getElem?_eq_getElem hk))
theorem num_some {A : Ent} {k n : Nat} (hk : k < A.length) (hk2 : k < (num A).length) (h : (num A)[k] = some n) : ∃ x, A[k] = some x := by
  have e : (num A)[k]? = some (some n) := by rw [List.getElem?_eq_getElem hk2, h]
  obtain ⟨x, hx⟩ := mk_at (num_mk A) e
  rw [List.getElem?_eq_getElem hk] at hx
  exact ⟨x, Option.some.inj hx⟩
theorem pair_at {i j k : Nat} {u w : U} {X : Sto} (qu : SqE u O) (qw : SqE w P) (h1 : env[i]? = some (some u)) (h2 : env[j]? = some (some w)) (hk : m env X = Out.ok (.int (k : Nat)) X) {x y : Nat} (ho : k < O.length) (hp : k < P.length) (ex : O[k] = some x) (ey : P[k] = some y) :
    eTup (aCons (eOp fIx (eVar i) m) (aCons (eOp fIx (eVar j) m) aNil)) env X = Out.ok (pU (x, y)) X := by
  have a := sqe_ix (X := X) qu h1 hk ho
  have b := sqe_ix (X := X) qw h2 hk hp
  rw [ex] at a
  rw [ey] at b
  exact tup2 (S1 := X) a b
theorem or_t {t1 t2 : MT} (h1 : t1 env S = Out.ok true S) : NK.tOr t1 t2 env S = Out.ok true S := by
  simp only [NK.tOr, h1, ob]
  rw [if_pos True.intro]
theorem rn_stop {u w : U} {k : Nat} {e2 e3 : Option U} {b : Option Nat} {t : MT} (h : NK.tOr (NK.tB (eOp fGe (eVar 4) (eCB fLen (aCons (eVar 0) aNil)))) (NK.tB (eOp fNe (eOp fIx (eVar 3) (eVar 4)) (eVar 5))) [some u, some w, e2, e3, some (.int (k : Nat)), some (eU b)] S = Out.ok true S) :
    l_renaming_of_1 [some u, some w, e2, e3, some (.int (k : Nat)), some (eU b)] S = SO.exc (nrX k) [some u, some w, e2, e3, some (.int (k : Nat)), some (eU b)] S := by
  unfold l_renaming_of_1
  exact seq_x (if_t (S1 := S) h (raise1 (ac1 (v_at (i := 4) rfl))))
theorem ge_at {u w : U} {k : Nat} {e2 e3 e5 : Option U} (qu : SqE u O) : NK.tB (eOp fGe (eVar 4) (eCB fLen (aCons (eVar 0) aNil))) [some u, some w, e2, e3, some (.int (k : Nat)), e5] S = Out.ok (decide (O.length ≤ k)) S := tB_of (eop_int (v_at (i := 4) rfl) (e_len (i := 0) qu rfl) (by
  show Out.ok (U.bl (decide (((O.length : Nat) : Int) ≤ ((k : Nat) : Int)))) S = _
  congr 2
  exact decide_eq_decide.mpr ⟨fun h => by omega, fun h => by omega⟩))
theorem rn_loop {u w : U} (qu : SqE u O) (qw : SqE w P) (hz : O.length ≤ 900) : ∀ (B : Ent) (k : Nat) (ps : List (Nat × Nat)) (e4 e5 : Option U), (num P).drop k = B → k ≤ P.length → k ≤ O.length → ps.length ≤ k →
    (∃ qs e4' e5', rn k ps ((num O).drop k) B (O.drop k) (P.drop k) = .inr qs ∧ O.length = P.length ∧ NK.forM (fun _ => True) (gT [4, 5]) l_renaming_of_1 (enumFrom k (esU B)) [some u, some w, some (.loc S.length), some (.tup (esU (num O))), e4, e5] (PS' S ps) = SO.next [some u, some w, some (.loc S.length), some (.tup (esU (num O))), e4', e5'] (PS' S qs)) ∨
    (∃ j qs e4' e5', rn k ps ((num O).drop k) B (O.drop k) (P.drop k) = .inl j ∧ (NK.forM (fun _ => True) (gT [4, 5]) l_renaming_of_1 (enumFrom k (esU B)) [some u, some w, some (.loc S.length), some (.tup (esU (num O))), e4, e5] (PS' S ps) = SO.exc (nrX j) [some u, some w, some (.loc S.length), some (.tup (esU (num O))), e4', e5'] (PS' S qs) ∨
      (j = P.length ∧ P.length < O.length ∧ NK.forM (fun _ => True) (gT [4, 5]) l_renaming_of_1 (enumFrom k (esU B)) [some u, some w, some (.loc S.length), some (.tup (esU (num O))), e4, e5] (PS' S ps) = SO.next [some u, some w, some (.loc S.length), some (.tup (esU (num O))), e4', e5'] (PS' S qs))))
  | [], k, ps, e4, e5, hB, hp, ho, _ => by
    have lp : P.length = k := by
      have := List.drop_eq_nil_iff.mp hB
      rw [num_len] at this
      omega
    by_cases z : k < O.length
    · refine .inr ⟨k, ps, e4, e5, ?_, .inr ⟨lp.symm, by omega, forM_nil True.intro⟩⟩
      rw [List.drop_eq_getElem_cons (show k < (num O).length by rw [num_len]; exact z)]
      rfl
    · refine .inl ⟨ps, e4, e5, ?_, by omega, forM_nil True.intro⟩
      rw [List.drop_eq_nil_iff.mpr (show (num O).length ≤ k by rw [num_len]; omega)]
      rfl
  | b :: B, k, ps, e4, e5, hB, hp, ho, hk => by
    have lp : k < P.length := by
      refine Nat.lt_of_not_le fun z => ?_
      rw [List.drop_eq_nil_iff.mpr (by rw [num_len]; exact z)] at hB
      cases hB
    have lp2 : k < (num P).length := by rw [num_len]; exact lp
    rw [List.drop_eq_getElem_cons lp2] at hB
    obtain ⟨hb, hB2⟩ := List.cons.inj hB
    have go := forM_x (g := fun _ => True) (gt := gT [4, 5]) (b := l_renaming_of_1) (us := enumFrom (k + 1) (esU B)) (u := .tup [.int (k : Nat), eU b]) (env := [some u, some w, some (.loc S.length), some (.tup (esU (num O))), e4, e5]) (env1 := [some u, some w, some (.loc S.length), some (.tup (esU (num O))), some (.int (k : Nat)), some (eU b)]) (st := PS' S ps) (x := nrX k) (env2 := [some u, some w, some (.loc S.length), some (.tup (esU (num O))), some (.int (k : Nat)), some (eU b)]) (st2 := PS' S ps) True.intro rfl
    by_cases z : k < O.length
    · have lo2 : k < (num O).length := by rw [num_len]; exact z
      have ge := ge_at (S := PS' S ps) (w := w) (k := k) (e2 := some (.loc S.length)) (e3 := some (.tup (esU (num O)))) (e5 := some (eU b)) qu
      rw [decide_eq_false (by omega)] at ge
      have ix : eOp fIx (eVar 3) (eVar 4) [some u, some w, some (.loc S.length), some (.tup (esU (num O))), some (.int (k : Nat)), some (eU b)] (PS' S ps) = Out.ok (eU (num O)[k]) (PS' S ps) := ix_tupE (j := 0) (v_at (i := 3) rfl) (v_at (i := 4) rfl) (esU_at (List.getElem?_eq_getElem lo2))
      have ne := ne_eU (p := b) (m2 := eVar 5) ix (v_at (i := 5) rfl)
      have t := or_at ge (tB_of ne)
      rw [Bool.false_or] at t
      have er : rn k ps ((num O).drop k) (b :: B) (O.drop k) (P.drop k) = if (num O)[k] = b then rn (k + 1) (if (num O)[k] = some ps.length then ps ++ [(O[k].getD 0, P[k].getD 0)] else ps) ((num O).drop (k + 1)) B (O.drop (k + 1)) (P.drop (k + 1)) else .inl k := by
        rw [List.drop_eq_getElem_cons lo2, List.drop_eq_getElem_cons z, List.drop_eq_getElem_cons lp]
        rfl
      by_cases e : (num O)[k] = b
      · rw [decide_eq_true e] at t
        rw [if_pos e] at er
        have eq := eq_len (X := PS' S ps) (o := b) (env := [some u, some w, some (.loc S.length), some (.tup (esU (num O))), some (.int (k : Nat)), some (eU b)]) (m1 := eVar 5) (v_at (i := 5) rfl) (ps_len (i := 2) rfl)
        have st : l_renaming_of_1 [some u, some w, some (.loc S.length), some (.tup (esU (num O))), some (.int (k : Nat)), some (eU b)] (PS' S ps) = SO.next [some u, some w, some (.loc S.length), some (.tup (esU (num O))), some (.int (k : Nat)), some (eU b)] (PS' S (if (num O)[k] = some ps.length then ps ++ [(O[k].getD 0, P[k].getD 0)] else ps)) := by
          unfold l_renaming_of_1
          refine seq_n (if_f t rfl) ?_
          by_cases f : b = some ps.length
          · rw [decide_eq_true f] at eq
            rw [if_pos (e.trans f)]
            obtain ⟨x, hx⟩ := num_some z lo2 (e.trans f)
            obtain ⟨y, hy⟩ := num_some lp lp2 (hb.trans f)
            rw [hx, hy]
            exact if_yes eq (ps_app (pair_at qu qw (i := 0) (j := 1) rfl rfl (v_at (i := 4) rfl) z lp hx hy) rfl (by omega))
          · rw [decide_eq_false f] at eq
            rw [if_neg fun g => f (e.symm.trans g)]
            exact if_no eq rfl
        rw [er]
        have ih := rn_loop qu qw hz B (k + 1) (if (num O)[k] = some ps.length then ps ++ [(O[k].getD 0, P[k].getD 0)] else ps) (some (.int (k : Nat))) (some (eU b)) hB2 (by omega) (by omega) (by
          split
          · rw [List.length_append, List.length_singleton]; omega
          · omega)
        have nx := forM_n (g := fun _ => True) (gt := gT [4, 5]) (us := enumFrom (k + 1) (esU B)) (u := .tup [.int (k : Nat), eU b]) (env := [some u, some w, some (.loc S.length), some (.tup (esU (num O))), e4, e5]) (env1 := [some u, some w, some (.loc S.length), some (.tup (esU (num O))), some (.int (k : Nat)), some (eU b)]) True.intro rfl st
        rcases ih with ⟨qs, a4, a5, g1, g2, g3⟩ | ⟨j, qs, a4, a5, g1, g2⟩
        · exact .inl ⟨qs, a4, a5, g1, g2, nx.trans g3⟩
        · refine .inr ⟨j, qs, a4, a5, g1, ?_⟩
          rcases g2 with g | ⟨g2, g3, g⟩
          · exact .inl (nx.trans g)
          · exact .inr ⟨g2, g3, nx.trans g⟩
      · rw [decide_eq_false e] at t
        rw [if_neg e] at er
        exact .inr ⟨k, ps, _, _, er, .inl (go (rn_stop (t := fun _ _ => .bad) t))⟩
    · have er : rn k ps ((num O).drop k) (b :: B) (O.drop k) (P.drop k) = .inl k := by
        rw [List.drop_eq_nil_iff.mpr (show (num O).length ≤ k by rw [num_len]; omega)]
        rfl
      have ge := ge_at (S := PS' S ps) (w := w) (k := k) (e2 := some (.loc S.length)) (e3 := some (.tup (esU (num O)))) (e5 := some (eU b)) qu
      rw [decide_eq_true (by omega)] at ge
      exact .inr ⟨k, ps, _, _, er, .inl (go (rn_stop (t := fun _ _ => .bad) (or_t ge)))⟩
theorem ren_ok {u w : U} (qu : SqE u O) (qw : SqE w P) (lo : O.length ≤ 40) (lp : P.length ≤ 40) (ho : Nms O) (hp : Nms P) : (∃ qs, rn 0 [] (num O) (num P) O P = .inr qs ∧ m_renaming_of [u, w] S = Out.ok (.tup (psU qs)) S) ∨ ∃ j ext, rn 0 [] (num O) (num P) O P = .inl j ∧ m_renaming_of [u, w] S = Out.exc (nrX j) (S ++ ext) := by
  have L := rn_loop (S := S) qu qw (by omega) (num P) 0 [] none none rfl (Nat.zero_le _) (Nat.zero_le _) (Nat.le_refl _)
  rw [List.drop_zero, List.drop_zero, List.drop_zero] at L
  have it : iEnumA (aCons (eCall 1 m_class_numbers [] (aCons (eVar 1) aNil)) aNil) [some u, some w, some (.loc S.length), some (.tup (esU (num O))), none, none] (PS' S []) = Out.ok ⟨enumFrom 0 (esU (num P)), fun _ => True⟩ (PS' S []) := by
    unfold iEnumA
    rw [ac1 (call1 rfl (v_at (i := 1) rfl) (cn_ok qw (by omega))), ob]
  have l1 : eLst aNil [some u, some w, none, none, none, none] S = Out.ok (.loc S.length) (PS' S []) := rfl
  have gt : ∀ {a4 a5 : Option U} {qs : List (Nat × Nat)}, eOp fGt (eCB fLen (aCons (eVar 0) aNil)) (eCB fLen (aCons (eVar 1) aNil)) [some u, some w, some (.loc S.length), some (.tup (esU (num O))), a4, a5] (PS' S qs) = Out.ok (.bl (decide (P.length < O.length))) (PS' S qs) := fun {a4 a5 qs} => eop_int (e_len (i := 0) qu rfl) (e_len (i := 1) qw rfl) (by
    show Out.ok (U.bl (decide (((P.length : Nat) : Int) < ((O.length : Nat) : Int)))) (PS' S qs) = _
    congr 2
    exact decide_eq_decide.mpr ⟨fun h => by omega, fun h => by omega⟩)
  have pre : ∀ {r : SO} {b : MS}, b [some u, some w, some (.loc S.length), some (.tup (esU (num O))), none, none] (PS' S []) = r → sSeq (sDrop (eCall 1 m_check_names [] (aCons (eVar 0) aNil))) (sSeq (sDrop (eCall 1 m_check_names [] (aCons (eVar 1) aNil))) (sSeq (sAsg (eLst aNil) (gN 2)) (sSeq (sAsg (eCall 1 m_class_numbers [] (aCons (eVar 0) aNil)) (gN 3)) b))) [some u, some w, none, none, none, none] S = r := fun h =>
    seq_n (drop_n (call1 rfl (v_at (i := 0) rfl) (ck_row qu lo ho))) (seq_n (drop_n (call1 rfl (v_at (i := 1) rfl) (ck_row qw lp hp))) (seq_n (asg_ok (i := 2) l1) (seq_n (asg_ok (i := 3) (call1 rfl (v_at (i := 0) rfl) (cn_ok qu (by omega)))) h)))
  rcases L with ⟨qs, a4, a5, g1, g2, g3⟩ | ⟨j, qs, a4, a5, g1, g2⟩
  · refine .inl ⟨qs, g1, ?_⟩
    refine fs_val (n := 6) (mb := b_renaming_of) (env := [some u, some w, none, none, none, none]) (st2 := S) (ext := [.lst (psU qs)]) rfl ?_ (Old.refl S) (by unfold U.under; exact psU_und _)
    unfold b_renaming_of
    have g := gt (a4 := a4) (a5 := a5) (qs := qs)
    rw [decide_eq_false (by omega)] at g
    refine pre (seq_n (sFor_ok it g3) (seq_n (if_no g rfl) (ret_ok (cb1 (v_at (i := 2) rfl) ?_))))
    have itm : items (.loc S.length) (PS' S qs) = some (psU qs) := by
      unfold items
      dsimp only
      rw [ps_at]
    unfold fTuple
    dsimp only
    rw [itm]
    rfl
  · refine .inr ⟨j, [.lst (psU qs)], g1, ?_⟩
    refine fs_exc (n := 6) (mb := b_renaming_of) (env := [some u, some w, none, none, none, none]) (env' := [some u, some w, some (.loc S.length), some (.tup (esU (num O))), a4, a5]) (st2 := PS' S qs) rfl ?_
    unfold b_renaming_of
    rcases g2 with g | ⟨g2, g3, g⟩
    · exact pre (seq_x (sFor_x it g))
    · have q := gt (a4 := a4) (a5 := a5) (qs := qs)
      rw [decide_eq_true g3] at q
      rw [g2]
      exact pre (seq_n (sFor_ok it g) (seq_x (if_yes q (raise1 (ac1 (e_len (i := 1) qw rfl))))))
theorem ren_bad1 {u w : U} {x : Ex} (h : m_check_names [u] S = Out.exc x S) : m_renaming_of [u, w] S = Out.exc x S := by
  refine fs_exc (n := 6) (mb := b_renaming_of) (env := [some u, some w, none, none, none, none]) (env' := [some u, some w, none, none, none, none]) rfl ?_
  unfold b_renaming_of
  exact seq_x (drop_x (call1 rfl (v_at (i := 0) rfl) h))
theorem ren_bad2 {u w : U} {x : Ex} (h1 : m_check_names [u] S = Out.ok .non S) (h : m_check_names [w] S = Out.exc x S) : m_renaming_of [u, w] S = Out.exc x S := by
  refine fs_exc (n := 6) (mb := b_renaming_of) (env := [some u, some w, none, none, none, none]) (env' := [some u, some w, none, none, none, none]) rfl ?_
  unfold b_renaming_of
  exact seq_n (drop_n (call1 rfl (v_at (i := 0) rfl) h1)) (seq_x (drop_x (call1 rfl (v_at (i := 1) rfl) h)))
end
end G

namespace G
open PySem L2 NK
def dueU : Nat ⊕ List (Nat × Nat) → U
  | .inl j => .tup [.non, .tup [.str "place", .int (j : Nat)]]
  | .inr qs => .tup [.tup (psU qs), .non]
theorem due_ok (r : Nat ⊕ List (Nat × Nat)) : okU 12 (dueU r) = true := by
  cases r with
  | inl j =>
    show ([U.non, U.tup [.str "place", .int (j : Nat)]] : List U).all (okU 11) = true
    rw [List.all_cons, List.all_cons, show okU 11 (.tup [.str "place", .int (j : Nat)]) = true from by
      show ([U.str "place", U.int (j : Nat)] : List U).all (okU 10) = true
      rw [List.all_cons, okU_str (strOk_of _) 9]
      rfl]
    rfl
  | inr qs =>
    show ([U.tup (psU qs), U.non] : List U).all (okU 11) = true
    rw [List.all_cons, show okU 11 (.tup (psU qs)) = true from by
      show (psU qs).all (okU 10) = true
      rw [List.all_eq_true]
      intro u hu
      obtain ⟨q, _, rfl⟩ := List.mem_map.mp hu
      rfl]
    rfl
theorem due_und (r : Nat ⊕ List (Nat × Nat)) : (dueU r).under 0 = true := by
  cases r with
  | inl j => rfl
  | inr qs =>
    unfold dueU
    simp only [U.under, U.underL, psU_und, Bool.and_self]
section
variable {S S1 : Sto} {env : NK.Env} {m m1 m2 : ME} {u w : U} {O P : Ent}
theorem dp_loop (hz : O.length ≤ 900) : ∀ (n k : Nat) (ps : List (Nat × Nat)) (e5 : Option U), k + n = min O.length P.length → ps.length ≤ k →
    (∃ qs e5', rn k ps ((num O).drop k) ((num P).drop k) (O.drop k) (P.drop k) = rn (k + n) qs ((num O).drop (k + n)) ((num P).drop (k + n)) (O.drop (k + n)) (P.drop (k + n)) ∧ NK.forM (fun _ => True) (gN 5) l_u_law_due_pairs_1 ((List.range' k n).map fun (i : Nat) => U.int (i : Nat)) [some (.lst (esU O)), some (.lst (esU P)), some (.lst (esU (num O))), some (.lst (esU (num P))), some (.loc S.length), e5] (PS' S ps) = SO.next [some (.lst (esU O)), some (.lst (esU P)), some (.lst (esU (num O))), some (.lst (esU (num P))), some (.loc S.length), e5'] (PS' S qs)) ∨
    (∃ j qs, rn k ps ((num O).drop k) ((num P).drop k) (O.drop k) (P.drop k) = .inl j ∧ NK.forM (fun _ => True) (gN 5) l_u_law_due_pairs_1 ((List.range' k n).map fun (i : Nat) => U.int (i : Nat)) [some (.lst (esU O)), some (.lst (esU P)), some (.lst (esU (num O))), some (.lst (esU (num P))), some (.loc S.length), e5] (PS' S ps) = SO.ret (dueU (.inl j)) (PS' S qs))
  | 0, k, ps, e5, _, _ => .inl ⟨ps, e5, rfl, forM_nil True.intro⟩
  | n + 1, k, ps, e5, h, hk => by
    have z : k < O.length := by omega
    have lp : k < P.length := by omega
    have lo2 : k < (num O).length := by rw [num_len]; exact z
    have lp2 : k < (num P).length := by rw [num_len]; exact lp
    have er : rn k ps ((num O).drop k) ((num P).drop k) (O.drop k) (P.drop k) = if (num O)[k] = (num P)[k] then rn (k + 1) (if (num O)[k] = some ps.length then ps ++ [(O[k].getD 0, P[k].getD 0)] else ps) ((num O).drop (k + 1)) ((num P).drop (k + 1)) (O.drop (k + 1)) (P.drop (k + 1)) else .inl k := by
      rw [List.drop_eq_getElem_cons lo2, List.drop_eq_getElem_cons lp2, List.drop_eq_getElem_cons z, List.drop_eq_getElem_cons lp]
      rfl
    have x2 : eOp fIx (eVar 2) (eVar 5) [some (.lst (esU O)), some (.lst (esU P)), some (.lst (esU (num O))), some (.lst (esU (num P))), some (.loc S.length), some (.int (k : Nat))] (PS' S ps) = Out.ok (eU (num O)[k]) (PS' S ps) := ix_lstE (v_at (i := 2) rfl) (v_at (i := 5) rfl) (esU_at (List.getElem?_eq_getElem lo2))
    have x3 : eOp fIx (eVar 3) (eVar 5) [some (.lst (esU O)), some (.lst (esU P)), some (.lst (esU (num O))), some (.lst (esU (num P))), some (.loc S.length), some (.int (k : Nat))] (PS' S ps) = Out.ok (eU (num P)[k]) (PS' S ps) := ix_lstE (v_at (i := 3) rfl) (v_at (i := 5) rfl) (esU_at (List.getElem?_eq_getElem lp2))
    have ne := ne_eU x2 x3
    rw [List.range'_succ, List.map_cons]
    by_cases e : (num O)[k] = (num P)[k]
    · rw [decide_eq_true e] at ne
      rw [if_pos e] at er
      have eq := eq_len (X := PS' S ps) x2 (ps_len (i := 4) rfl)
      have st : l_u_law_due_pairs_1 [some (.lst (esU O)), some (.lst (esU P)), some (.lst (esU (num O))), some (.lst (esU (num P))), some (.loc S.length), some (.int (k : Nat))] (PS' S ps) = SO.next [some (.lst (esU O)), some (.lst (esU P)), some (.lst (esU (num O))), some (.lst (esU (num P))), some (.loc S.length), some (.int (k : Nat))] (PS' S (if (num O)[k] = some ps.length then ps ++ [(O[k].getD 0, P[k].getD 0)] else ps)) := by
        unfold l_u_law_due_pairs_1
        refine seq_n (if_no ne rfl) ?_
        by_cases f : (num O)[k] = some ps.length
        · rw [decide_eq_true f] at eq
          rw [if_pos f]
          obtain ⟨x, hx⟩ := num_some z lo2 f
          obtain ⟨y, hy⟩ := num_some lp lp2 (e ▸ f)
          rw [hx, hy]
          exact if_yes eq (ps_app (pair_at (.l O) (.l P) (i := 0) (j := 1) rfl rfl (v_at (i := 5) rfl) z lp hx hy) rfl (by omega))
        · rw [decide_eq_false f] at eq
          rw [if_neg f]
          exact if_no eq rfl
      have nx := forM_n (g := fun _ => True) (gt := gN 5) (us := (List.range' (k + 1) n).map fun (i : Nat) => U.int (i : Nat)) (u := .int (k : Nat)) (env := [some (.lst (esU O)), some (.lst (esU P)), some (.lst (esU (num O))), some (.lst (esU (num P))), some (.loc S.length), e5]) (env1 := [some (.lst (esU O)), some (.lst (esU P)), some (.lst (esU (num O))), some (.lst (esU (num P))), some (.loc S.length), some (.int (k : Nat))]) True.intro rfl st
      rw [er]
      rcases dp_loop hz n (k + 1) (if (num O)[k] = some ps.length then ps ++ [(O[k].getD 0, P[k].getD 0)] else ps) (some (.int (k : Nat))) (by omega) (by
        split
        · rw [List.length_append, List.length_singleton]; omega
        · omega) with ⟨qs, a5, g1, g2⟩ | ⟨j, qs, g1, g2⟩
      · rw [show k + 1 + n = k + (n + 1) by omega] at g1
        exact .inl ⟨qs, a5, g1, nx.trans g2⟩
      · exact .inr ⟨j, qs, g1, nx.trans g2⟩
    · rw [decide_eq_false e] at ne
      rw [if_neg e] at er
      refine .inr ⟨k, ps, er, forM_r (env1 := [some (.lst (esU O)), some (.lst (esU P)), some (.lst (esU (num O))), some (.lst (esU (num P))), some (.loc S.length), some (.int (k : Nat))]) True.intro rfl ?_⟩
      unfold l_u_law_due_pairs_1
      exact seq_r (if_yes ne (ret_ok (tup2 (S1 := PS' S ps) rfl (tup2 (S1 := PS' S ps) rfl (v_at (i := 5) rfl)))))
theorem min_at {m1 m2 : ME} {a b : Nat} (h1 : m1 env S = Out.ok (.int (a : Nat)) S) (h2 : m2 env S = Out.ok (.int (b : Nat)) S) : eCB fMin2 (aCons m1 (aCons m2 aNil)) env S = Out.ok (.int (min a b : Nat)) S := by
  refine cbA (acN (S1 := S) h1 (ac1 h2)) ?_
  show Out.ok (U.int (if ((b : Nat) : Int) < ((a : Nat) : Int) then ((b : Nat) : Int) else ((a : Nat) : Int))) S = _
  congr 2
  by_cases h : b < a
  · rw [if_pos (by omega), Nat.min_eq_right (by omega)]
  · rw [if_neg (by omega), Nat.min_eq_left (by omega)]
theorem duep_ok (lo : O.length ≤ 900) (lp : P.length ≤ 900) : m_u_law_due_pairs [.lst (esU O), .lst (esU P)] S = Out.ok (dueU (rn 0 [] (num O) (num P) O P)) S := by
  have L := dp_loop (S := S) (O := O) (P := P) lo (min O.length P.length) 0 [] none (Nat.zero_add _) (Nat.le_refl _)
  rw [List.drop_zero, List.drop_zero, List.drop_zero, List.drop_zero, Nat.zero_add] at L
  have p := acN (S := S) (env := [some (.lst (esU O)), some (.lst (esU P)), none, none, none, none]) (call1 (k := 1) rfl (v_at (i := 0) rfl) (lnumN O S lo)) (ac1 (call1 (k := 1) rfl (v_at (i := 1) rfl) (lnumN P S lp)))
  have l1 : eLst aNil [some (.lst (esU O)), some (.lst (esU P)), some (.lst (esU (num O))), some (.lst (esU (num P))), none, none] S = Out.ok (.loc S.length) (PS' S []) := rfl
  have ln0 : ∀ {e4 e5 : Option U} {X : Sto}, eCB fLen (aCons (eVar 0) aNil) [some (.lst (esU O)), some (.lst (esU P)), some (.lst (esU (num O))), some (.lst (esU (num P))), e4, e5] X = Out.ok (.int (O.length : Nat)) X := fun {_ _ _} => e_len (i := 0) (.l O) rfl
  have ln1 : ∀ {e4 e5 : Option U} {X : Sto}, eCB fLen (aCons (eVar 1) aNil) [some (.lst (esU O)), some (.lst (esU P)), some (.lst (esU (num O))), some (.lst (esU (num P))), e4, e5] X = Out.ok (.int (P.length : Nat)) X := fun {_ _ _} => e_len (i := 1) (.l P) rfl
  have it := rng_at (S := PS' S []) (env := [some (.lst (esU O)), some (.lst (esU P)), some (.lst (esU (num O))), some (.lst (esU (num P))), some (.loc S.length), none]) (min_at ln0 ln1) (by omega)
  rw [List.range_eq_range'] at it
  have pre : ∀ {r : SO} {b : MS}, b [some (.lst (esU O)), some (.lst (esU P)), some (.lst (esU (num O))), some (.lst (esU (num P))), some (.loc S.length), none] (PS' S []) = r → sSeq (sPar 2 3 (aCons (eCall 1 m_u_law_numbers [] (aCons (eVar 0) aNil)) (aCons (eCall 1 m_u_law_numbers [] (aCons (eVar 1) aNil)) aNil))) (sSeq (sAsg (eLst aNil) (gN 4)) b) [some (.lst (esU O)), some (.lst (esU P)), none, none, none, none] S = r := fun h => seq_n (par_ok p) (seq_n (asg_ok (i := 4) l1) h)
  rcases L with ⟨qs, a5, g1, g2⟩ | ⟨j, qs, g1, g2⟩
  · have ne := fun (X : Sto) => ne_int (S := X) (env := [some (.lst (esU O)), some (.lst (esU P)), some (.lst (esU (num O))), some (.lst (esU (num P))), some (.loc S.length), a5]) ln0 ln1
    by_cases e : O.length = P.length
    · have er : rn 0 [] (num O) (num P) O P = .inr qs := by
        rw [g1, List.drop_eq_nil_iff.mpr (show (num O).length ≤ _ by rw [num_len]; omega), List.drop_eq_nil_iff.mpr (show (num P).length ≤ _ by rw [num_len]; omega)]
        unfold rn
        rfl
      rw [er]
      refine fs_val (n := 6) (mb := b_u_law_due_pairs) (env := [some (.lst (esU O)), some (.lst (esU P)), none, none, none, none]) (st2 := S) (ext := [.lst (psU qs)]) rfl ?_ (Old.refl S) (due_und _)
      have n := ne (PS' S qs)
      rw [decide_eq_true e] at n
      have itm : items (.loc S.length) (PS' S qs) = some (psU qs) := by
        unfold items
        dsimp only
        rw [ps_at]
      unfold b_u_law_due_pairs
      refine pre (seq_n (sFor_ok it g2) (seq_n (if_no n rfl) (ret_ok (tup2 (S1 := PS' S qs) (cb1 (v_at (i := 4) rfl) ?_) rfl))))
      unfold fTuple
      dsimp only
      rw [itm]
    · have er : rn 0 [] (num O) (num P) O P = .inl (min O.length P.length) := by
        rw [g1]
        rcases Nat.lt_or_gt_of_ne e with h | h
        · rw [List.drop_eq_nil_iff.mpr (show (num O).length ≤ _ by rw [num_len]; omega), List.drop_eq_getElem_cons (show min O.length P.length < (num P).length by rw [num_len]; omega)]
          unfold rn
          rfl
        · rw [List.drop_eq_nil_iff.mpr (show (num P).length ≤ _ by rw [num_len]; omega), List.drop_eq_getElem_cons (show min O.length P.length < (num O).length by rw [num_len]; omega)]
          unfold rn
          rfl
      rw [er]
      refine fs_val (n := 6) (mb := b_u_law_due_pairs) (env := [some (.lst (esU O)), some (.lst (esU P)), none, none, none, none]) (st2 := S) (ext := [.lst (psU qs)]) rfl ?_ (Old.refl S) rfl
      have n := ne (PS' S qs)
      rw [decide_eq_false e] at n
      unfold b_u_law_due_pairs
      exact pre (seq_n (sFor_ok it g2) (seq_r (if_yes n (ret_ok (tup2 (S1 := PS' S qs) rfl (tup2 (S1 := PS' S qs) rfl (min_at ln0 ln1)))))))
  · rw [g1]
    refine fs_val (n := 6) (mb := b_u_law_due_pairs) (env := [some (.lst (esU O)), some (.lst (esU P)), none, none, none, none]) (st2 := S) (ext := [.lst (psU qs)]) rfl ?_ (Old.refl S) rfl
    unfold b_u_law_due_pairs
    exact pre (seq_r (sFor_ok it g2))
theorem big_list {xs : List PyData} {k : Nat} (hk : 0x110000 ≤ k) (h : ∀ x ∈ xs, k ∉ x.shown.cps.toList) : k ∉ (PyData.list xs).shown.cps.toList := by
  rw [PyData.shown_list, PyProof.Rows.mem_cps_append, PyProof.Rows.mem_cps_append, PyProof.Rows.signs_lbrack, PyProof.Rows.signs_rbrack, PyProof.Rows.mem_join]
  rintro ((hm | (⟨t, ht, hc⟩ | ⟨_, hc⟩)) | hm)
  · have := List.mem_singleton.mp hm; omega
  · exact PyProof.Rows.shownAll_free h t ht hc
  · rw [PyProof.Rows.signs_sep] at hc
    simp at hc
    omega
  · have := List.mem_singleton.mp hm; omega
theorem big_tup {xs : List PyData} {k : Nat} (hk : 0x110000 ≤ k) (h : ∀ x ∈ xs, k ∉ x.shown.cps.toList) : k ∉ (PyData.tuple xs).shown.cps.toList := by
  rw [PyData.shown_tuple, PyProof.Rows.mem_cps_append, PyProof.Rows.mem_cps_append, PyProof.Rows.signs_lparen, PyProof.Rows.mem_join]
  rintro ((hm | (⟨t, ht, hc⟩ | ⟨_, hc⟩)) | hm)
  · have := List.mem_singleton.mp hm; omega
  · exact PyProof.Rows.shownAll_free h t ht hc
  · rw [PyProof.Rows.signs_sep] at hc
    simp at hc
    omega
  · split at hm
    · simp [PyProof.Rows.signs_ofString] at hm
      omega
    · simp [PyProof.Rows.signs_ofString] at hm
      omega
def dR (r : Ent) : PyData := .list (datL (esU r))
theorem datL_mem {r : Ent} {x : PyData} (h : x ∈ datL (esU r)) : ∃ o, o ∈ r ∧ x = datU (eU o) := by
  induction r with
  | nil => cases h
  | cons o r ih =>
    rcases List.mem_cons.mp (show x ∈ datU (eU o) :: datL (esU r) from h) with rfl | h
    · exact ⟨o, List.mem_cons_self, rfl⟩
    · obtain ⟨p, hp, e⟩ := ih h
      exact ⟨p, List.mem_cons_of_mem _ hp, e⟩
theorem big_row {r : Ent} {k : Nat} (hk : 0x110000 ≤ k) : k ∉ (dR r).shown.cps.toList := by
  refine big_list hk fun x hx => ?_
  obtain ⟨o, _, rfl⟩ := datL_mem hx
  cases o with
  | none =>
    show k ∉ (PyData.none).shown.cps.toList
    rw [PyProof.Rows.mem_shown_none]
    simp
    omega
  | some n => exact PyProof.Rows.shown_int_free' ⟨by omega, by omega⟩ _
theorem row_shows {r : Ent} (h : Nms r) : PyData.showableAll (datL (esU r)) = true ∧ PyData.hasDictAll (datL (esU r)) = false ∧ PyData.depthAll (datL (esU r)) = 0 ∧ PyData.leavesShortAll 40 (datL (esU r)) = true ∧ PyData.bulkAll (datL (esU r)) = r.length := by
  induction r with
  | nil => exact ⟨rfl, rfl, rfl, rfl, rfl⟩
  | cons o r ih =>
    obtain ⟨h1, h2, h3, h4, h5⟩ := ih fun x hx => h x (List.mem_cons_of_mem _ hx)
    show PyData.showableAll (datU (eU o) :: datL (esU r)) = true ∧ PyData.hasDictAll (datU (eU o) :: datL (esU r)) = false ∧ PyData.depthAll (datU (eU o) :: datL (esU r)) = 0 ∧ PyData.leavesShortAll 40 (datU (eU o) :: datL (esU r)) = true ∧ PyData.bulkAll (datU (eU o) :: datL (esU r)) = r.length + 1
    have lf : PyData.showable (datU (eU o)) = true ∧ PyData.hasDict (datU (eU o)) = false ∧ PyData.depth (datU (eU o)) = 0 ∧ PyData.leavesShort 40 (datU (eU o)) = true ∧ PyData.bulk (datU (eU o)) = 0 := by
      cases o with
      | none => exact ⟨rfl, rfl, rfl, rfl, rfl⟩
      | some n =>
        have hn : n ≤ BIG := h n List.mem_cons_self
        have hi : ((n : Nat) : Int).natAbs = n := Int.natAbs_natCast n
        refine ⟨?_, rfl, rfl, ?_, rfl⟩
        · show decide (((n : Nat) : Int).natAbs.log2 < 1920) = true
          rw [hi]
          refine decide_eq_true (Nat.lt_of_le_of_lt (m := 100) ?_ (by decide))
          by_cases z : n = 0
          · rw [z]; decide
          · exact Nat.le_of_lt ((Nat.log2_lt z).mpr (Nat.lt_of_le_of_lt hn (by decide)))
        · have q : (PyData.shown (.int ((n : Nat) : Int))).length ≤ 31 := PyProof.Rows.toString_length_le (by omega) (by decide) (by unfold BIG at hn; omega)
          show decide ((PyData.shown (.int ((n : Nat) : Int))).length ≤ 40) = true
          exact decide_eq_true (by omega)
    obtain ⟨l1, l2, l3, l4, l5⟩ := lf
    unfold PyData.showableAll PyData.hasDictAll PyData.depthAll PyData.leavesShortAll PyData.bulkAll
    rw [h1, h2, h3, h4, h5, l1, l2, l3, l4, l5]
    refine ⟨rfl, rfl, rfl, rfl, ?_⟩
    omega
def rT (O P : Ent) : Str := (PyData.tuple [dR O, dR P]).shown
theorem rT_ok : PyData.strOk (rT O P) = true := by
  unfold PyData.strOk
  rw [Array.all_eq_true]
  intro i hi
  refine decide_eq_true (Nat.lt_of_not_le fun z => ?_)
  refine absurd (show (rT O P).cps[i] ∈ (rT O P).cps.toList by simp) (big_tup z fun x hx => ?_)
  simp only [List.mem_cons, List.not_mem_nil, or_false] at hx
  rcases hx with rfl | rfl
  · exact big_row z
  · exact big_row z
theorem rep_at {i j : Nat} (ho : Nms O) (hp : Nms P) (lo : O.length ≤ 900) (lp : P.length ≤ 900) (h1 : env[i]? = some (some (.lst (esU O)))) (h2 : env[j]? = some (some (.lst (esU P)))) : eCB fRepr (aCons (eTup (aCons (eVar i) (aCons (eVar j) aNil))) aNil) env S = Out.ok (.str (rT O P)) S := by
  refine cb1 (tup2 (S1 := S) (v_at h1) (v_at h2)) ?_
  have ok : okU 12 (.tup [.lst (esU O), .lst (esU P)]) = true := by
    have a : ∀ r : Ent, okU 11 (.lst (esU r)) = true := fun r => by
      show (esU r).all (okU 10) = true
      rw [List.all_eq_true]
      intro u hu
      obtain ⟨o, _, rfl⟩ := List.mem_map.mp hu
      cases o <;> rfl
    show ([U.lst (esU O), U.lst (esU P)] : List U).all (okU 11) = true
    rw [List.all_cons, List.all_cons, a, a]
    rfl
  obtain ⟨a1, a2, a3, a4, a5⟩ := row_shows ho
  obtain ⟨b1, b2, b3, b4, b5⟩ := row_shows hp
  unfold fRepr
  dsimp only
  rw [(okU_D 12 _ ok).1]
  show (if showsOk (.tuple [dR O, dR P]) then Out.ok (U.str (PyData.tuple [dR O, dR P]).shown) S else Out.bad) = _
  refine if_pos ⟨?_, ?_, rfl, ?_, ?_⟩
  · show (PyData.showableAll (datL (esU O)) && (PyData.showableAll (datL (esU P)) && true)) = true
    rw [a1, b1]
    rfl
  · show (PyData.hasDictAll (datL (esU O)) || (PyData.hasDictAll (datL (esU P)) || false)) = false
    rw [a2, b2]
    rfl
  · show PyData.depth (.tuple [.list (datL (esU O)), .list (datL (esU P))]) ≤ 50
    simp only [PyData.depth, PyData.depthAll, a3, b3]
    decide
  · refine Nat.le_trans (PyData.shown_le_bulk 40 (by decide) _ ?_) ?_
    · show (PyData.leavesShortAll 40 (datL (esU O)) && (PyData.leavesShortAll 40 (datL (esU P)) && true)) = true
      rw [a4, b4]
      rfl
    · show (40 + 2) * (PyData.bulkAll (datL (esU O)) + 1 + (PyData.bulkAll (datL (esU P)) + 1 + 0)) + 40 ≤ 16777216
      rw [a5, b5]
      omega
end
end G

namespace G
open PySem L2 NK
theorem es_eqv : ∀ (A B : Ent), eqvU (.lst (esU A)) (.lst (esU B)) = decide (A = B)
  | [], [] => by simp [esU, eqvU, datU, datL, PyData.eqv, PyData.eqvAll]
  | [], b :: B => by simp [esU, eqvU, datU, datL, PyData.eqv, PyData.eqvAll]
  | a :: A, [] => by simp [esU, eqvU, datU, datL, PyData.eqv, PyData.eqvAll]
  | a :: A, b :: B => by
    have ih := es_eqv A B
    have e : eqvU (.lst (esU (a :: A))) (.lst (esU (b :: B))) = (eqvU (eU a) (eU b) && eqvU (.lst (esU A)) (.lst (esU B))) := by
      simp [esU, eqvU, datU, datL, PyData.eqv, PyData.eqvAll]
    rw [e, eU_eqv, ih, ← Bool.decide_and]
    exact decide_eq_decide.mpr ⟨fun h => by rw [h.1, h.2], fun h => by cases h; exact ⟨rfl, rfl⟩⟩
theorem look_idx : ∀ (qs : List (Nat × Nat)) (x : Nat), x ∈ qs.map Prod.fst → look x qs = (qs.map Prod.snd)[(qs.map Prod.fst).idxOf x]?
  | [], x, h => by cases h
  | (a, b) :: qs, x, h => by
    unfold look
    rw [List.map_cons, List.map_cons, List.idxOf_cons]
    by_cases e : a = x
    · rw [if_pos e, show (a == x) = true from beq_iff_eq.mpr e]
      rfl
    · rw [if_neg e, show (a == x) = false from beq_eq_false_iff_ne.mpr e]
      rcases List.mem_cons.mp (show x ∈ a :: qs.map Prod.fst from h) with z | z
      · exact absurd z.symm e
      · exact look_idx qs x z
theorem look_none {qs : List (Nat × Nat)} {x : Nat} (h : x ∉ qs.map Prod.fst) : look x qs = none := by
  induction qs with
  | nil => rfl
  | cons q qs ih =>
    obtain ⟨a, b⟩ := q
    unfold look
    rw [if_neg fun z => h (by rw [z]; exact List.mem_cons_self)]
    exact ih fun z => h (List.mem_cons_of_mem _ z)
section
variable {S S1 : Sto} {env : NK.Env} {m m1 m2 : ME} {u w : U} {O P : Ent}
theorem told_ok (h : m env S = Out.ok u S1) : eLamT hs_u_law_told m env S = Out.ok (.tup [u, .non]) S1 := by
  unfold eLamT
  rw [h]
theorem told_bn {i : Int} {z : Str} (h : m env S = Out.exc (bnX i z) S1) : eLamT hs_u_law_told m env S = Out.ok (.tup [.non, .tup [.str "names", .int i, .str z]]) S1 := by
  unfold eLamT
  rw [h]
  rfl
theorem told_nr {j : Nat} (h : m env S = Out.exc (nrX j) S1) : eLamT hs_u_law_told m env S = Out.ok (dueU (.inl j)) S1 := by
  unfold eLamT
  rw [h]
  rfl
def DX (X : Sto) (led : List (Nat × Nat)) : Sto := X ++ [.dK (ledK led)]
theorem dx_put {led : List (Nat × Nat)} {a b : Nat} (hz : led.length ≤ 1000) (h : look a led = none) : dput (.loc S.length) (.int (a : Nat)) (.int (b : Nat)) (DX S led) = some (DX S (led ++ [(a, b)])) := by
  have d : dictAt (.loc S.length) (DX S led) = some (S.length, ledK led) := by
    unfold dictAt DX
    dsimp only
    rw [at_last]
  unfold dput
  rw [d]
  show (if (ledK led).length < 16777216 then some ((DX S led).set S.length (.dK (putU (ledK led) (kI a) (.int (b : Nat))))) else none) = _
  rw [if_pos (by unfold ledK; rw [List.length_map]; omega), ledK_put h]
  unfold DX
  rw [set_last]
theorem ost {α : Type} {x : α} {X : Sto} {en : NK.Env} {f : α → Sto → SO} : Out.st (Out.ok x X) en f = f x X := rfl
theorem dx_loop {e0 e1 e2 e3 e4 e7 : Option U} : ∀ (qs led : List (Nat × Nat)) (e6 : Option U), ((led ++ qs).map Prod.fst).Nodup → (led ++ qs).length ≤ 900 →
    ∃ e6', NK.forM (fun _ => True) (gN 6) l_u_law_renaming_right_1 (psU qs) [e0, e1, e2, e3, e4, some (.loc S.length), e6, e7] (DX S led) = SO.next [e0, e1, e2, e3, e4, some (.loc S.length), e6', e7] (DX S (led ++ qs))
  | [], led, e6, _, _ => ⟨e6, by rw [List.append_nil]; exact forM_nil True.intro⟩
  | (a, b) :: qs, led, e6, nd, hz => by
    have e : led ++ (a, b) :: qs = (led ++ [(a, b)]) ++ qs := by rw [List.append_assoc]; rfl
    have na : a ∉ led.map Prod.fst := fun z => by
      rw [List.map_append] at nd
      exact (List.nodup_append.mp nd).2.2 a z a (List.mem_cons_self) rfl
    obtain ⟨e6', ih⟩ := dx_loop (e0 := e0) (e1 := e1) (e2 := e2) (e3 := e3) (e4 := e4) (e7 := e7) qs (led ++ [(a, b)]) (some (pU (a, b))) (by rw [← e]; exact nd) (by rw [← e]; exact hz)
    rw [← e] at ih
    refine ⟨e6', (forM_n (env1 := [e0, e1, e2, e3, e4, some (.loc S.length), some (pU (a, b)), e7]) True.intro rfl ?_).trans ih⟩
    have lz : led.length ≤ 1000 := by rw [List.length_append] at hz; omega
    have i0 : eOp fIx (eVar 6) (eC (.int 0)) [e0, e1, e2, e3, e4, some (.loc S.length), some (pU (a, b)), e7] (DX S led) = Out.ok (.int (a : Nat)) (DX S led) := ixA (us := [.int (a : Nat), .int (b : Nat)]) (v_at (i := 6) rfl) rfl (i := 0) rfl rfl
    have i1 : eOp fIx (eVar 6) (eC (.int 1)) [e0, e1, e2, e3, e4, some (.loc S.length), some (pU (a, b)), e7] (DX S led) = Out.ok (.int (b : Nat)) (DX S led) := ixA (us := [.int (a : Nat), .int (b : Nat)]) (v_at (i := 6) rfl) rfl (i := 1) rfl rfl
    unfold l_u_law_renaming_right_1 NK.sDPut
    rw [i1, ost, v_at (i := 5) (u := .loc S.length) rfl, ost, i0, ost]
    show (match dput (.loc S.length) (.int (a : Nat)) (.int (b : Nat)) (DX S led) with
      | some st4 => SO.next [e0, e1, e2, e3, e4, some (.loc S.length), some (pU (a, b)), e7] st4
      | none => SO.bad) = _
    rw [dx_put lz (look_none na)]
theorem led_eq {qs : List (Nat × Nat)} (h : num O = num P) (h1 : qs.map Prod.fst = finM [] O) (h2 : qs.map Prod.snd = finM [] P) : (O.map fun o => o.bind fun x => look x qs) = P := by
  have mm : mk O P := mk_trans (mk_symm (num_mk O)) (h ▸ num_mk P)
  refine List.ext_getElem? fun i => ?_
  rw [List.getElem?_map]
  cases e : O[i]? with
  | none =>
    have := List.getElem?_eq_none_iff.mp e
    rw [List.getElem?_eq_none_iff.mpr (by rw [← mk_len mm]; exact this)]
    rfl
  | some o =>
    cases o with
    | none =>
      cases r : P[i]? with
      | none =>
        have a := (List.getElem?_eq_some_iff.mp e).1
        have b := List.getElem?_eq_none_iff.mp r
        have := mk_len mm
        omega
      | some p =>
        cases p with
        | none => rfl
        | some y =>
          obtain ⟨x, hx⟩ := mk_at (mk_symm mm) r
          rw [e] at hx
          cases hx
    | some x =>
      obtain ⟨y, e1, e2, e3⟩ := rn_led h e
      rw [e1]
      show some (look x qs) = some (some y)
      rw [look_idx qs x (by rw [h1]; exact e2), h1, h2, e3]
theorem rr_ok (lo : O.length ≤ 40) (lp : P.length ≤ 40) (ho : Nms O) (hp : Nms P) : m_u_law_renaming_right [.lst (esU O), .lst (esU P)] S = Out.ok (.bl true) S := by
  have dp := duep_ok (S := S) (O := O) (P := P) (by omega) (by omega)
  have T : ∃ ext, eLamT hs_u_law_told (eCall 2 m_renaming_of [] (aCons (eVar 0) (aCons (eVar 1) aNil))) [some (.lst (esU O)), some (.lst (esU P)), some (.str (rT O P)), some (dueU (rn 0 [] (num O) (num P) O P)), none, none, none, none] S = Out.ok (dueU (rn 0 [] (num O) (num P) O P)) (S ++ ext) := by
    rcases ren_ok (S := S) (.l O) (.l P) lo lp ho hp with ⟨qs, e, h⟩ | ⟨j, ext, e, h⟩
    · refine ⟨[], ?_⟩
      rw [List.append_nil]
      refine (told_ok (call2 rfl (v_at (i := 0) rfl) (v_at (i := 1) rfl) h)).trans ?_
      rw [e]
      rfl
    · refine ⟨ext, ?_⟩
      refine (told_nr (call2 rfl (v_at (i := 0) rfl) (v_at (i := 1) rfl) h)).trans ?_
      rw [e]
  obtain ⟨ext, T⟩ := T
  have rep : ∀ {e2 e3 e4 : Option U} {X : Sto}, eCB fRepr (aCons (eTup (aCons (eVar 0) (aCons (eVar 1) aNil))) aNil) [some (.lst (esU O)), some (.lst (esU P)), e2, e3, e4, none, none, none] X = Out.ok (.str (rT O P)) X := fun {_ _ _ _} => rep_at (i := 0) (j := 1) ho hp (by omega) (by omega) rfl rfl
  have n1 : eOp fNe (eVar 4) (eVar 3) [some (.lst (esU O)), some (.lst (esU P)), some (.str (rT O P)), some (dueU (rn 0 [] (num O) (num P) O P)), some (dueU (rn 0 [] (num O) (num P) O P)), none, none, none] (S ++ ext) = Out.ok (.bl false) (S ++ ext) := op2 (S1 := S ++ ext) (S2 := S ++ ext) (v_at (i := 4) rfl) (v_at (i := 3) rfl) (ne_same (due_ok _))
  have n2 : eOp fNe (eCB fRepr (aCons (eTup (aCons (eVar 0) (aCons (eVar 1) aNil))) aNil)) (eVar 2) [some (.lst (esU O)), some (.lst (esU P)), some (.str (rT O P)), some (dueU (rn 0 [] (num O) (num P) O P)), some (dueU (rn 0 [] (num O) (num P) O P)), none, none, none] (S ++ ext) = Out.ok (.bl false) (S ++ ext) := op2 (S1 := S ++ ext) (S2 := S ++ ext) rep (v_at (i := 2) rfl) (ne_same (okU_str rT_ok 11))
  by_cases e : num O = num P
  · obtain ⟨qs, eq, f1, f2⟩ := rn_same e
    rw [eq] at T dp n1 n2
    have nd : (qs.map Prod.fst).Nodup := by rw [f1]; exact finM_nd O [] List.nodup_nil
    have lq : qs.length ≤ 900 := by
      have h1 : qs.length = (finM [] O).length := by rw [← f1, List.length_map]
      have h2 : ∀ (M : Ent) (met : List Nat), (finM met M).length ≤ met.length + M.length := by
        intro M
        induction M with
        | nil => intro met; exact Nat.le_refl _
        | cons o M ih =>
          intro met
          cases o with
          | none =>
            have := ih met
            rw [List.length_cons]
            show (finM met M).length ≤ _
            omega
          | some x =>
            rw [List.length_cons]
            show (if x ∈ met then finM met M else finM (met ++ [x]) M).length ≤ _
            split
            · have := ih met; omega
            · have := ih (met ++ [x])
              rw [List.length_append, List.length_singleton] at this
              omega
      have := h2 O []
      rw [List.length_nil] at this
      omega
    obtain ⟨e6, lp6⟩ := dx_loop (S := S ++ ext) (e0 := some (.lst (esU O))) (e1 := some (.lst (esU P))) (e2 := some (.str (rT O P))) (e3 := some (dueU (.inr qs))) (e4 := some (dueU (.inr qs))) (e7 := none) qs [] none nd lq
    refine fs_val (n := 8) (mb := b_u_law_renaming_right) (env := [some (.lst (esU O)), some (.lst (esU P)), none, none, none, none, none, none]) (st2 := S) (ext := ext ++ [.dK (ledK qs)]) rfl ?_ (Old.refl S) rfl
    have i0 : ∀ {e5 e6 : Option U} {X : Sto}, eOp fIx (eVar 4) (eC (.int 0)) [some (.lst (esU O)), some (.lst (esU P)), some (.str (rT O P)), some (dueU (.inr qs)), some (dueU (.inr qs)), e5, e6, none] X = Out.ok (.tup (psU qs)) X := fun {_ _ _} => ixA (us := [.tup (psU qs), .non]) (v_at (i := 4) rfl) rfl (i := 0) rfl rfl
    have nn : eOp fIsN (eOp fIx (eVar 4) (eC (.int 0))) (eC .non) [some (.lst (esU O)), some (.lst (esU P)), some (.str (rT O P)), some (dueU (.inr qs)), some (dueU (.inr qs)), none, none, none] (S ++ ext) = Out.ok (.bl false) (S ++ ext) := op2 (S1 := S ++ ext) (S2 := S ++ ext) (b := .non) i0 rfl rfl
    have dc : eDict [some (.lst (esU O)), some (.lst (esU P)), some (.str (rT O P)), some (dueU (.inr qs)), some (dueU (.inr qs)), none, none, none] (S ++ ext) = Out.ok (.loc (S ++ ext).length) (DX (S ++ ext) []) := rfl
    have it : iSeq (eOp fIx (eVar 4) (eC (.int 0))) [some (.lst (esU O)), some (.lst (esU P)), some (.str (rT O P)), some (dueU (.inr qs)), some (dueU (.inr qs)), some (.loc (S ++ ext).length), none, none] (DX (S ++ ext) []) = Out.ok ⟨psU qs, fun _ => True⟩ (DX (S ++ ext) []) := by
      unfold iSeq
      rw [i0, ob]
      rfl
    have cm : eScope (eComp (iSeq (eVar 0)) (gN 7) NK.tYes (eIf (NK.tB (eOp fIsN (eVar 7) (eC .non))) (eC .non) (eOp fDGet (eVar 5) (eVar 7))) [7]) [some (.lst (esU O)), some (.lst (esU P)), some (.str (rT O P)), some (dueU (.inr qs)), some (dueU (.inr qs)), some (.loc (S ++ ext).length), e6, none] (DX (S ++ ext) qs) = Out.ok (.lst (esU P)) (DX (S ++ ext) qs) := by
      refine (comp_all (st := DX (S ++ ext) qs) (i := 7) (g := fun _ => True) (as := O) (mi := iSeq (eVar 0)) eU (fun o => eU (o.bind fun x => look x qs)) rfl (fun _ => True.intro) (by omega) (fun o hmem acc => ?_) (fun _ _ => eU_und _)).trans ?_
      · have n : eOp fIsN (eVar 7) (eC .non) [some (.lst (esU O)), some (.lst (esU P)), some (.str (rT O P)), some (dueU (.inr qs)), some (dueU (.inr qs)), some (.loc (S ++ ext).length), e6, some (eU o)] (DX (S ++ ext) qs ++ [.lst acc]) = Out.ok (.bl (!o.isSome)) (DX (S ++ ext) qs ++ [.lst acc]) := op2 (S1 := DX (S ++ ext) qs ++ [.lst acc]) (S2 := DX (S ++ ext) qs ++ [.lst acc]) (a := eU o) (b := .non) (v_at (i := 7) rfl) rfl (by cases o <;> rfl)
        refine (eif_at (tB_of n)).trans ?_
        cases o with
        | none => rfl
        | some x =>
          obtain ⟨i, hi⟩ := List.mem_iff_getElem?.mp hmem
          obtain ⟨y, _, g2, g3⟩ := rn_led e hi
          have lk : look x qs = some y := by rw [look_idx qs x (by rw [f1]; exact g2), f1, f2, g3]
          show eOp fDGet (eVar 5) (eVar 7) _ _ = Out.ok (eU (look x qs)) _
          rw [lk]
          refine op2 (S1 := DX (S ++ ext) qs ++ [.lst acc]) (S2 := DX (S ++ ext) qs ++ [.lst acc]) (a := .loc (S ++ ext).length) (b := .int (x : Nat)) (v_at (i := 5) rfl) (v_at (i := 7) rfl) ?_
          have rd : dictRd (.loc (S ++ ext).length) (DX (S ++ ext) qs ++ [.lst acc]) = some (ledK qs) := by
            unfold dictRd DX
            dsimp only
            rw [show ((S ++ ext) ++ [Ob.dK (ledK qs)] ++ [Ob.lst acc])[(S ++ ext).length]? = some (Ob.dK (ledK qs)) by rw [List.append_assoc]; simp]
          unfold fDGet
          rw [rd]
          show (match valU (ledK qs) (kI x) with
            | some w => Out.ok w (DX (S ++ ext) qs ++ [Ob.lst acc])
            | none => Out.bad) = _
          rw [ledK_val, lk]
          rfl
      · unfold esU
        have q := congrArg (fun l => (Out.ok (U.lst (List.map eU l)) (DX (S ++ ext) qs) : Out U)) (led_eq e f1 f2)
        simp only [List.map_map] at q
        exact q
    unfold b_u_law_renaming_right
    refine seq_n (asg_ok (i := 2) rep) (seq_n (asg_ok (i := 3) (call2 rfl (v_at (i := 0) rfl) (v_at (i := 1) rfl) dp)) (seq_n (asg_ok (i := 4) T) (seq_n (if_f (or_ff (tB_of n1) (tB_of n2)) rfl) (seq_n (if_no nn rfl) (seq_n (asg_ok (i := 5) dc) (seq_n (sFor_ok it lp6) (ret_ok ?_)))))))
    have fin := and_at (a := eOp fEq (eScope (eComp (iSeq (eVar 0)) (gN 7) NK.tYes (eIf (NK.tB (eOp fIsN (eVar 7) (eC .non))) (eC .non) (eOp fDGet (eVar 5) (eVar 7))) [7])) (eVar 1)) (b1 := true) (b2 := true) (leq cm (v_at (i := 1) rfl)) (b := eIsi isl [(.b .tuple)] (eOp fIx (eVar 4) (eC (.int 0)))) (by
      unfold eIsi
      rw [i0, ob]
      rfl)
    rw [← List.append_assoc]
    exact fin
  · obtain ⟨j, ej⟩ := rn_no (num O) (num P) O P 0 [] e
    rw [ej] at T dp n1 n2
    refine fs_val (n := 8) (mb := b_u_law_renaming_right) (env := [some (.lst (esU O)), some (.lst (esU P)), none, none, none, none, none, none]) (st2 := S) (ext := ext) rfl ?_ (Old.refl S) rfl
    have nn : eOp fIsN (eOp fIx (eVar 4) (eC (.int 0))) (eC .non) [some (.lst (esU O)), some (.lst (esU P)), some (.str (rT O P)), some (dueU (.inl j)), some (dueU (.inl j)), none, none, none] (S ++ ext) = Out.ok (.bl true) (S ++ ext) := op2 (S1 := S ++ ext) (S2 := S ++ ext) (b := .non) (ixA (us := [.non, .tup [.str "place", .int (j : Nat)]]) (v_at (i := 4) rfl) rfl (i := 0) rfl rfl) rfl rfl
    unfold b_u_law_renaming_right
    refine seq_n (asg_ok (i := 2) rep) (seq_n (asg_ok (i := 3) (call2 rfl (v_at (i := 0) rfl) (v_at (i := 1) rfl) dp)) (seq_n (asg_ok (i := 4) T) (seq_n (if_f (or_ff (tB_of n1) (tB_of n2)) rfl) (seq_r (if_yes nn (ret_ok ?_))))))
    refine op2 (S1 := S ++ ext) (S2 := S ++ ext) (call1 rfl (v_at (i := 0) rfl) (lnumN O _ (by omega))) (call1 rfl (v_at (i := 1) rfl) (lnumN P _ (by omega))) ?_
    rw [fNe_ok (es_ok _) (es_ok _), es_eqv, decide_eq_false e]
    rfl
end
end G

namespace G
open PySem L2 NK
theorem run_app : ∀ (es fs : Ent) (m : Nat), run m (es ++ fs) = run (run m es) fs
  | [], _, _ => rfl
  | none :: es, fs, m => run_app es fs m
  | some k :: es, fs, m => by
    show (if k = m then run (m + 1) (es ++ fs) else run m (es ++ fs)) = run (if k = m then run (m + 1) es else run m es) fs
    split
    · exact run_app es fs (m + 1)
    · exact run_app es fs m
theorem can_app : ∀ (es fs : Ent) (m : Nat), canGo m es → canGo (run m es) fs → canGo m (es ++ fs)
  | [], _, _, _, h => h
  | none :: es, fs, m, c, h => can_app es fs m c h
  | some k :: es, fs, m, c, h => by
    rcases c with ⟨hk, c⟩ | ⟨rfl, c⟩
    · refine .inl ⟨hk, can_app es fs m c ?_⟩
      have e : run m (some k :: es) = run m es := if_neg (by omega)
      rw [e] at h
      exact h
    · refine .inr ⟨rfl, can_app es fs (k + 1) c ?_⟩
      have e : run k (some k :: es) = run (k + 1) es := if_pos rfl
      rw [e] at h
      exact h
section
variable {st S S1 : Sto} {h : Ob} {env : NK.Env} {m m1 m2 : ME} {u w : U}
theorem draw_m {j k : Nat} (H : HOb h) (hj : env[j]? = some (some (.loc 0))) (hm : m env (h :: st) = Out.ok (.int (k : Nat)) (h :: st)) (h0 : 0 < k) (hk : k ≤ BIG) : ∃ (d : Nat) (h' : Ob), HOb h' ∧ d < k ∧ eCall 2 m_u_law_draw [] (aCons (eVar j) (aCons m aNil)) env (h :: st) = Out.ok (.int (d : Nat)) (h' :: st) := by
  obtain ⟨d, h', H', d0, d1, e⟩ := draw_ok (st := st) (m := (k : Int)) H (by omega) (by unfold BIG at hk; omega)
  obtain ⟨i, rfl⟩ := Int.eq_ofNat_of_zero_le d0
  exact ⟨i, h', H', by omega, call2 rfl (v_at hj) hm e⟩
theorem rng_to {n : Nat} (h : m env S = Out.ok (.int (n : Nat)) S1) (hn : n ≤ 10000) : NK.iRng1 (aCons m aNil) env S = Out.ok ⟨(List.range n).map fun (i : Nat) => U.int (i : Nat), fun _ => True⟩ S1 := by
  have q := rng_at (S := S1) (env := env) (m := fun _ s => Out.ok (.int (n : Nat)) s) (n := n) rfl hn
  unfold NK.iRng1 at q ⊢
  rw [ac1 h, ob]
  rw [ac1 (S := S1) (S1 := S1) (u := .int (n : Nat)) rfl, ob] at q
  exact q
theorem size_ok (H : HOb h) : ∃ (n : Nat) (h' : Ob), HOb h' ∧ n ≤ 40 ∧ m_u_law_size [.loc 0] (h :: st) = Out.ok (.int (n : Nat)) (h' :: st) := by
  obtain ⟨d, h1, H1, l1, k1⟩ := draw_at (st := st) (env := [some (.loc 0), none]) (j := 0) (k := 10) H rfl (by decide) (by decide)
  obtain ⟨a, h2, H2, l2, k2⟩ := draw_at (st := st) (env := [some (.loc 0), some (.int (d : Nat))]) (j := 0) (k := 41) H1 rfl (by decide) (by decide)
  obtain ⟨b, h3, H3, l3, k3⟩ := draw_at (st := st) (env := [some (.loc 0), some (.int (d : Nat))]) (j := 0) (k := 9) H1 rfl (by decide) (by decide)
  have q9 := tB_of (op2 (env := [some (.loc 0), some (.int (d : Nat))]) (S := h1 :: st) (S1 := h1 :: st) (S2 := h1 :: st) (m2 := eC (.int 9)) (b := .int 9) (v_at (i := 1) rfl) rfl fEq_int)
  have q8 := tB_of (op2 (env := [some (.loc 0), some (.int (d : Nat))]) (S := h1 :: st) (S1 := h1 :: st) (S2 := h1 :: st) (m2 := eC (.int 8)) (b := .int 8) (v_at (i := 1) rfl) rfl fEq_int)
  have R : ∃ (n : Nat) (h' : Ob), HOb h' ∧ n ≤ 40 ∧ eIf (NK.tB (eOp fEq (eVar 1) (eC (.int 9)))) (eC (.int 40)) (eIf (NK.tB (eOp fEq (eVar 1) (eC (.int 8)))) (eCall 2 m_u_law_draw [] (aCons (eVar 0) (aCons (eC (.int 41)) aNil))) (eCall 2 m_u_law_draw [] (aCons (eVar 0) (aCons (eC (.int 9)) aNil)))) [some (.loc 0), some (.int (d : Nat))] (h1 :: st) = Out.ok (.int (n : Nat)) (h' :: st) := by
    by_cases e9 : ((d : Nat) : Int) = 9
    · rw [decide_eq_true e9] at q9
      exact ⟨40, h1, H1, Nat.le_refl _, eif_at q9⟩
    · rw [decide_eq_false e9] at q9
      by_cases e8 : ((d : Nat) : Int) = 8
      · rw [decide_eq_true e8] at q8
        exact ⟨a, h2, H2, by omega, (eif_at q9).trans ((eif_at q8).trans k2)⟩
      · rw [decide_eq_false e8] at q8
        exact ⟨b, h3, H3, by omega, (eif_at q9).trans ((eif_at q8).trans k3)⟩
  obtain ⟨n, h', H', l, e⟩ := R
  refine ⟨n, h', H', l, fs_val (n := 2) (mb := b_u_law_size) (env := [some (.loc 0), none]) (st2 := h' :: st) (ext := []) rfl ?_ (Old.hand H'.under) rfl⟩
  rw [List.append_nil]
  unfold b_u_law_size
  exact seq_n (asg_ok k1) (ret_ok e)
def ES (st : Sto) (h : Ob) (es : Ent) : Sto := h :: (st ++ [.lst (esU es)])
theorem es_at {es : Ent} : (ES st h es)[st.length + 1]? = some (.lst (esU es)) := by unfold ES; simp
theorem es_put {es : Ent} {o : Option Nat} : (ES st h es).set (st.length + 1) (.lst (esU es ++ [eU o])) = ES st h (es ++ [o]) := by
  unfold ES esU
  simp
theorem es_app {es : Ent} {i : Nat} {o : Option Nat} (he : env[i]? = some (some (.loc (st.length + 1)))) (hm : m env (ES st h es) = Out.ok (eU o) (ES st h es)) (hz : es.length < 1000) : sDrop (eBM fApp (eVar i) (aCons m aNil)) env (ES st h es) = SO.next env (ES st h (es ++ [o])) := by
  have d := app_drop (S1 := ES st h es) he (isl_at es_at) hm es_at (by rw [esU_len]; exact hz)
  rw [es_put] at d
  exact d
theorem en_step {es : Ent} {g : Bool} {k : Nat} {e1 e5 e6 : Option U} (H : HOb h) (c : Can es) (hk : run 0 es = k) (hz : es.length < 90) (hk2 : k ≤ es.length) :
    ∃ (o : Option Nat) (k' : Nat) (h' : Ob) (e6' : Option U), HOb h' ∧ Can (es ++ [o]) ∧ run 0 (es ++ [o]) = k' ∧ k' ≤ es.length + 1 ∧ l_u_law_entries_1 [some (.loc 0), e1, some (.bl g), some (.loc (st.length + 1)), some (.int (k : Nat)), e5, e6] (ES st h es) = SO.next [some (.loc 0), e1, some (.bl g), some (.loc (st.length + 1)), some (.int (k' : Nat)), e5, e6'] (ES st h' (es ++ [o])) := by
  have T : ∃ (b : Bool) (h1 : Ob), HOb h1 ∧ NK.tAnd (tTru (eVar 2)) (NK.tB (eOp fEq (eCall 2 m_u_law_draw [] (aCons (eVar 0) (aCons (eC (.int 4)) aNil))) (eC (.int 0)))) [some (.loc 0), e1, some (.bl g), some (.loc (st.length + 1)), some (.int (k : Nat)), e5, e6] (ES st h es) = Out.ok b (ES st h1 es) := by
    cases g with
    | false => exact ⟨false, h, H, tand_f (truK (v_at (i := 2) rfl))⟩
    | true =>
      obtain ⟨d, h1, H1, _, q⟩ := draw_at (st := st ++ [.lst (esU es)]) (env := [some (.loc 0), e1, some (.bl true), some (.loc (st.length + 1)), some (.int (k : Nat)), e5, e6]) (j := 0) (k := 4) H rfl (by decide) (by decide)
      exact ⟨_, h1, H1, tand_t (truK (v_at (i := 2) rfl)) (tB_of (op2 (m2 := eC (.int 0)) (b := .int 0) (S2 := ES st h1 es) q rfl fEq_int))⟩
  obtain ⟨b, h1, H1, T⟩ := T
  unfold l_u_law_entries_1
  cases b with
  | true =>
    refine ⟨none, k, h1, e6, H1, can_app _ _ _ c True.intro, ?_, by omega, (if_t T (es_app (o := none) (i := 3) rfl rfl (by omega)))⟩
    rw [run_app, hk]
    rfl
  | false =>
    have a1 : eOp fAdd (eVar 4) (eC (.int 1)) [some (.loc 0), e1, some (.bl g), some (.loc (st.length + 1)), some (.int (k : Nat)), e5, e6] (ES st h1 es) = Out.ok (.int (k + 1 : Nat)) (ES st h1 es) := op2 (S1 := ES st h1 es) (S2 := ES st h1 es) (b := .int 1) (v_at (i := 4) rfl) rfl rfl
    obtain ⟨d, h2, H2, ld, q⟩ := draw_m (st := st ++ [.lst (esU es)]) (env := [some (.loc 0), e1, some (.bl g), some (.loc (st.length + 1)), some (.int (k : Nat)), e5, e6]) (j := 0) (k := k + 1) H1 rfl a1 (by omega) (by unfold BIG; omega)
    have t := tB_of (op2 (env := [some (.loc 0), e1, some (.bl g), some (.loc (st.length + 1)), some (.int (k : Nat)), e5, some (.int (d : Nat))]) (S := ES st h2 es) (S1 := ES st h2 es) (S2 := ES st h2 es) (v_at (i := 6) rfl) (v_at (i := 4) rfl) (fEq_int (i := ((d : Nat) : Int)) (j := ((k : Nat) : Int))))
    have a2 : eOp fAdd (eVar 4) (eC (.int 1)) [some (.loc 0), e1, some (.bl g), some (.loc (st.length + 1)), some (.int (k : Nat)), e5, some (.int (d : Nat))] (ES st h2 es) = Out.ok (.int (k + 1 : Nat)) (ES st h2 es) := op2 (S1 := ES st h2 es) (S2 := ES st h2 es) (b := .int 1) (v_at (i := 4) rfl) rfl rfl
    have a3 : eVar 4 [some (.loc 0), e1, some (.bl g), some (.loc (st.length + 1)), some (.int (k : Nat)), e5, some (.int (d : Nat))] (ES st h2 es) = Out.ok (.int (k : Nat)) (ES st h2 es) := v_at rfl
    by_cases e : d = k
    · rw [decide_eq_true (by omega : ((d : Nat) : Int) = ((k : Nat) : Int))] at t
      refine ⟨some d, k + 1, h2, some (.int (d : Nat)), H2, can_app _ _ _ c (.inr ⟨by omega, True.intro⟩), ?_, by omega, if_f T (seq_n (asg_ok q) (seq_n (asg_ok ((eif_at t).trans a2)) (es_app (o := some d) (i := 3) rfl (v_at (i := 6) rfl) (by omega))))⟩
      rw [run_app, hk]
      show (if d = k then k + 1 else k) = k + 1
      rw [if_pos e]
    · rw [decide_eq_false (by omega : ¬ ((d : Nat) : Int) = ((k : Nat) : Int))] at t
      refine ⟨some d, k, h2, some (.int (d : Nat)), H2, can_app _ _ _ c (.inl ⟨by omega, True.intro⟩), ?_, by omega, if_f T (seq_n (asg_ok q) (seq_n (asg_ok (u := .int (k : Nat)) (S1 := ES st h2 es) ((eif_at t).trans a3)) (es_app (o := some d) (i := 3) rfl (v_at (i := 6) rfl) (by omega))))⟩
      rw [run_app, hk]
      show (if d = k then k + 1 else k) = k
      rw [if_neg e]
theorem en_loop {g : Bool} {e1 : Option U} : ∀ (us : List U) (es : Ent) (k : Nat) (h : Ob) (e5 e6 : Option U), HOb h → Can es → run 0 es = k → es.length + us.length ≤ 80 → k ≤ es.length →
    ∃ fs k' h' e5' e6', HOb h' ∧ Can fs ∧ fs.length = es.length + us.length ∧ NK.forM (fun _ => True) (gN 5) l_u_law_entries_1 us [some (.loc 0), e1, some (.bl g), some (.loc (st.length + 1)), some (.int (k : Nat)), e5, e6] (ES st h es) = SO.next [some (.loc 0), e1, some (.bl g), some (.loc (st.length + 1)), some (.int (k' : Nat)), e5', e6'] (ES st h' fs)
  | [], es, k, h, e5, e6, H, c, _, _, _ => ⟨es, k, h, e5, e6, H, c, rfl, forM_nil True.intro⟩
  | u :: us, es, k, h, e5, e6, H, c, hk, hz, hk2 => by
    rw [List.length_cons] at hz
    obtain ⟨o, k', h1, e6', H1, c1, r1, l1, q⟩ := en_step (st := st) (g := g) (e1 := e1) (e5 := some u) (e6 := e6) H c hk (by omega) hk2
    have l : (es ++ [o]).length = es.length + 1 := by rw [List.length_append]; rfl
    obtain ⟨fs, k2, h2, e5', e6'', H2, c2, l2, q2⟩ := en_loop (g := g) (e1 := e1) us (es ++ [o]) k' h1 (some u) e6' H1 c1 r1 (by omega) (by omega)
    exact ⟨fs, k2, h2, e5', e6'', H2, c2, by rw [List.length_cons]; omega, (forM_n True.intro rfl q).trans q2⟩
theorem entries_ok {n : Nat} {g : Bool} (H : HOb h) (hn : n ≤ 40) : ∃ es h', HOb h' ∧ Can es ∧ es.length = n ∧ m_u_law_entries [.loc 0, .int (n : Nat), .bl g] (h :: st) = Out.ok (.lst (esU es)) (h' :: st) := by
  obtain ⟨fs, k', h', e5', e6', H', c', l', q⟩ := en_loop (st := st) (g := g) (e1 := some (.int (n : Nat))) ((List.range n).map fun (i : Nat) => U.int (i : Nat)) [] 0 h none none H True.intro rfl (by simpa using Nat.le_trans hn (by decide)) (Nat.le_refl _)
  refine ⟨fs, h', H', c', by simpa using l', fs_lst1 (n := 7) (mb := b_u_law_entries) (env := [some (.loc 0), some (.int (n : Nat)), some (.bl g), none, none, none, none]) (S2 := h' :: st) (ext := [.lst (esU fs)]) (j := 0) rfl ?_ (Old.hand H'.under) rfl (esU_und _)⟩
  unfold b_u_law_entries
  exact seq_n (par_ok (a := .loc (st.length + 1)) (b := .int 0) (S1 := ES st h []) rfl) (seq_n (sFor_ok (rng_at (v_at (i := 1) rfl) (by omega)) q) (ret_ok (v_at (i := 3) rfl)))
end
end G

namespace G
open PySem L2 NK
section
variable {st S S1 : Sto} {h : Ob} {env : NK.Env} {m m1 m2 : ME} {u w : U} {us : List U}
theorem ixN_n {n k : Nat} (h : k < n) : ixN n (k : Int) = some k := by
  unfold ixN
  rw [if_pos (by omega), if_pos (by omega)]
  rfl
theorem flen_loc {j : Nat} (hX : S[j]? = some (.lst us)) : fLen [.loc j] S = Out.ok (.int (us.length : Nat)) S := by
  have it : items (.loc j) S = some us := by
    unfold items
    dsimp only
    rw [hX]
  unfold fLen
  dsimp only
  rw [it]
theorem nU_und (ns : List Nat) : U.underL 0 (nU ns) = true := underL_all fun u hu => by
  obtain ⟨q, _, rfl⟩ := List.mem_map.mp hu
  rfl
theorem comp_keep {α : Type} (f r : α → U) {i : Nat} {mi : MI} {as : List α} (hm : mi env S = Out.ok ⟨as.map f, fun _ => True⟩ S) (hz : as.length ≤ 10000)
    (hh : ∀ a ∈ as, ∀ acc, m (env.set i (some (f a))) (S ++ [.lst acc]) = Out.ok (r a) (S ++ [.lst acc])) : eComp mi (gN i) NK.tYes m [i] env S = Out.ok (.loc S.length) (S ++ [.lst (as.map r)]) := by
  have q := comp_mapL (g := fun _ => True) (mt := NK.tYes) f r (fun _ => true) hm (fun _ => True.intro) (by omega) fun a ha acc => ⟨rfl, fun _ => hh a ha acc⟩
  rw [List.filter_eq_self.mpr fun _ _ => rfl] at q
  exact q
def QL (st : Sto) (h : Ob) (N F : List Nat) : Sto := h :: (st ++ [.lst (nU N), .lst (nU F)])
theorem ql_a {N F : List Nat} : (QL st h N F)[st.length + 1]? = some (.lst (nU N)) := by unfold QL; simp
theorem ql_b {N F : List Nat} : (QL st h N F)[st.length + 2]? = some (.lst (nU F)) := by unfold QL; simp
theorem ql_sa {N F N' : List Nat} : (QL st h N F).set (st.length + 1) (.lst (nU N')) = QL st h N' F := by unfold QL; simp
theorem ql_sb {N F F' : List Nat} : (QL st h N F).set (st.length + 2) (.lst (nU F')) = QL st h N F' := by unfold QL; simp
theorem nU_erase : ∀ (N : List Nat) (d : Nat), (nU N).eraseIdx d = nU (N.eraseIdx d)
  | [], d => by cases d <;> rfl
  | n :: N, 0 => rfl
  | n :: N, d + 1 => congrArg (List.cons (U.int (n : Nat))) (nU_erase N d)
theorem er_perm : ∀ (N : List Nat) (d : Nat) (h : d < N.length), (N[d] :: N.eraseIdx d).Perm N
  | [], d, h => absurd h (Nat.not_lt_zero _)
  | n :: N, 0, h => List.Perm.refl _
  | n :: N, d + 1, h => (List.Perm.swap n (N[d]'(Nat.lt_of_succ_lt_succ h)) (N.eraseIdx d)).trans ((er_perm N d (Nat.lt_of_succ_lt_succ h)).cons n)
theorem fMul_i {i j : Int} : fMul (.int i) (.int j) S = if cMul i j = true then Out.ok (.int (i * j)) S else Out.bad := rfl
theorem popat {N F : List Nat} {d : Nat} (hd : d < N.length) (hz : N.length ≤ 1000) : fPopAt (.loc (st.length + 1)) [.int (d : Nat)] (QL st h N F) = Out.ok (.int (N[d] : Nat)) (QL st h (N.eraseIdx d) F) := by
  have l := nU_len N
  unfold fPopAt
  dsimp only
  rw [ql_a]
  dsimp only
  rw [ixN_n (by rw [l]; exact hd)]
  dsimp only
  rw [show (nU N)[d]? = some (.int (N[d] : Nat)) from by
    unfold nU
    rw [List.getElem?_map, List.getElem?_eq_getElem hd]
    rfl]
  dsimp only
  rw [if_pos (by omega), nU_erase, ql_sa]
theorem pl_loop {e1 e2 e3 : Option U} : ∀ (us : List U) (N F : List Nat) (h : Ob) (e6 : Option U), HOb h → N.length = us.length → F.length + us.length ≤ 90 →
    ∃ F' h' e6', HOb h' ∧ F'.Perm (F ++ N) ∧ NK.forM (fun _ => True) (gN 6) l_u_law_pool_1 us [some (.loc 0), e1, e2, e3, some (.loc (st.length + 1)), some (.loc (st.length + 2)), e6] (QL st h N F) = SO.next [some (.loc 0), e1, e2, e3, some (.loc (st.length + 1)), some (.loc (st.length + 2)), e6'] (QL st h' [] F')
  | [], N, F, h, e6, H, hN, _ => by
    cases List.eq_nil_of_length_eq_zero (show N.length = 0 from hN)
    exact ⟨F, h, e6, H, by rw [List.append_nil], forM_nil True.intro⟩
  | u :: us, N, F, h, e6, H, hN, hz => by
    rw [List.length_cons] at hN hz
    have ln : eCB fLen (aCons (eVar 4) aNil) [some (.loc 0), e1, e2, e3, some (.loc (st.length + 1)), some (.loc (st.length + 2)), some u] (QL st h N F) = Out.ok (.int (N.length : Nat)) (QL st h N F) := by
      rw [← nU_len N]
      exact cb1 (S1 := QL st h N F) (v_at (i := 4) rfl) (flen_loc ql_a)
    obtain ⟨d, h1, H1, ld, q⟩ := draw_m (st := st ++ [.lst (nU N), .lst (nU F)]) (env := [some (.loc 0), e1, e2, e3, some (.loc (st.length + 1)), some (.loc (st.length + 2)), some u]) (j := 0) (k := N.length) H rfl ln (by omega) (by unfold BIG; omega)
    have q' : eCall 2 m_u_law_draw [] (aCons (eVar 0) (aCons (eCB fLen (aCons (eVar 4) aNil)) aNil)) [some (.loc 0), e1, e2, e3, some (.loc (st.length + 1)), some (.loc (st.length + 2)), some u] (QL st h N F) = Out.ok (.int (d : Nat)) (QL st h1 N F) := q
    have p : eBM fPopAt (eVar 4) (aCons (eCall 2 m_u_law_draw [] (aCons (eVar 0) (aCons (eCB fLen (aCons (eVar 4) aNil)) aNil))) aNil) [some (.loc 0), e1, e2, e3, some (.loc (st.length + 1)), some (.loc (st.length + 2)), some u] (QL st h N F) = Out.ok (.int (N[d] : Nat)) (QL st h1 (N.eraseIdx d) F) := by
      unfold eBM
      rw [v_at (i := 4) (u := .loc (st.length + 1)) rfl, ob, if_pos (isl_at ql_a), ac1 q', ob]
      exact popat ld (by omega)
    have a := app_drop (env := [some (.loc 0), e1, e2, e3, some (.loc (st.length + 1)), some (.loc (st.length + 2)), some u]) (i := 5) (j := st.length + 2) rfl (isl_at ql_b) p ql_b (by rw [nU_len]; omega)
    rw [show nU F ++ [U.int (N[d] : Nat)] = nU (F ++ [N[d]]) by unfold nU; rw [List.map_append]; rfl, ql_sb] at a
    obtain ⟨F', h2, e6', H2, pm, q2⟩ := pl_loop (e1 := e1) (e2 := e2) (e3 := e3) us (N.eraseIdx d) (F ++ [N[d]]) h1 (some u) H1 (by rw [List.length_eraseIdx, if_pos ld]; omega) (by rw [List.length_append, List.length_singleton]; omega)
    refine ⟨F', h2, e6', H2, pm.trans ?_, (forM_n True.intro rfl a).trans q2⟩
    rw [List.append_assoc]
    exact (er_perm N d ld).append_left F
theorem pow29 {S : Sto} {env : NK.Env} : eOp fPow (eC (.int 10)) (eC (.int 29)) env S = Out.ok (.int (100000000000000000000000000000 : Nat)) S := op2 (S1 := S) (S2 := S) (a := .int 10) (b := .int 29) rfl rfl rfl
theorem pow28 {S : Sto} {env : NK.Env} : eOp fPow (eC (.int 10)) (eC (.int 28)) env S = Out.ok (.int (10000000000000000000000000000 : Nat)) S := op2 (S1 := S) (S2 := S) (a := .int 10) (b := .int 28) rfl rfl rfl
theorem pool_ok (H : HOb h) : ∃ ns h', HOb h' ∧ ns.length = 40 ∧ ns.Nodup ∧ (∀ n ∈ ns, n ≤ BIG) ∧ m_u_law_pool [.loc 0, .int 40] (h :: st) = Out.ok (.lst (nU ns)) (h' :: st) := by
  obtain ⟨d, h1, H1, l1, k1⟩ := draw_at (st := st) (env := [some (.loc 0), some (.int 40), none, none, none, none, none]) (j := 0) (k := 3) H rfl (by decide) (by decide)
  obtain ⟨z, h2, H2, l2, k2⟩ := draw_at (st := st) (env := [some (.loc 0), some (.int 40), some (.int (d : Nat)), some (.int 1), none, none, none]) (j := 0) (k := 2) H1 rfl (by decide) (by decide)
  have t := tB_of (op2 (m2 := eC (.int 0)) (b := .int 0) (S2 := h2 :: st) k2 rfl fEq_int)
  have R : ∃ (b s : Nat) (h' : Ob), HOb h' ∧ 1 ≤ s ∧ s ≤ 10000000000000000000000000000 ∧ b ≤ 100000000000000000000000000000 ∧ sIf (NK.tB (eOp fEq (eCall 2 m_u_law_draw [] (aCons (eVar 0) (aCons (eC (.int 2)) aNil))) (eC (.int 0)))) (sAsg (eTup (aCons (eCall 2 m_u_law_draw [] (aCons (eVar 0) (aCons (eOp fPow (eC (.int 10)) (eC (.int 29))) aNil))) (aCons (eOp fAdd (eC (.int 1)) (eCall 2 m_u_law_draw [] (aCons (eVar 0) (aCons (eOp fPow (eC (.int 10)) (eC (.int 28))) aNil)))) aNil))) (gT [2, 3])) sNext [some (.loc 0), some (.int 40), some (.int (d : Nat)), some (.int 1), none, none, none] (h1 :: st) = SO.next [some (.loc 0), some (.int 40), some (.int (b : Nat)), some (.int (s : Nat)), none, none, none] (h' :: st) := by
    by_cases e : ((z : Nat) : Int) = 0
    · rw [decide_eq_true e] at t
      obtain ⟨b, h3, H3, l3, k3⟩ := draw_m (st := st) (env := [some (.loc 0), some (.int 40), some (.int (d : Nat)), some (.int 1), none, none, none]) (j := 0) H2 rfl pow29 (by omega) (by unfold BIG; omega)
      obtain ⟨s, h4, H4, l4, k4⟩ := draw_m (st := st) (env := [some (.loc 0), some (.int 40), some (.int (d : Nat)), some (.int 1), none, none, none]) (j := 0) H3 rfl pow28 (by omega) (by unfold BIG; omega)
      have s1 : eOp fAdd (eC (.int 1)) (eCall 2 m_u_law_draw [] (aCons (eVar 0) (aCons (eOp fPow (eC (.int 10)) (eC (.int 28))) aNil))) [some (.loc 0), some (.int 40), some (.int (d : Nat)), some (.int 1), none, none, none] (h3 :: st) = Out.ok (.int ((1 + s : Nat) : Int)) (h4 :: st) := op2 (S1 := h3 :: st) (a := .int 1) rfl k4 (by rw [fAdd_i]; exact congrArg (fun i => Out.ok (U.int i) (h4 :: st)) (by omega))
      exact ⟨b, 1 + s, h4, H4, by omega, by omega, by omega, if_t t (asgT2 (tup2 k3 s1))⟩
    · rw [decide_eq_false e] at t
      exact ⟨d, 1, h2, H2, by omega, by omega, by omega, if_f t rfl⟩
  obtain ⟨b, s, h3, H3, s1, s2, b2, q⟩ := R
  have cm : eComp (iRng1 (aCons (eVar 1) aNil)) (gN 6) NK.tYes (eOp fAdd (eVar 2) (eOp fMul (eVar 3) (eVar 6))) [6] [some (.loc 0), some (.int 40), some (.int (b : Nat)), some (.int (s : Nat)), none, none, none] (h3 :: st) = Out.ok (.loc (st.length + 1)) ((h3 :: st) ++ [.lst (nU ((List.range 40).map fun i => b + s * i))]) := by
    refine (comp_keep (S := h3 :: st) (i := 6) (as := List.range 40) (fun (i : Nat) => U.int (i : Nat)) (fun i => U.int ((b + s * i : Nat) : Int)) (rng_at (n := 40) (v_at (i := 1) rfl) (by omega)) (by rw [List.length_range]; omega) (fun i hi acc => ?_)).trans ?_
    · have li := List.mem_range.mp hi
      refine op2 (S1 := (h3 :: st) ++ [.lst acc]) (S2 := (h3 :: st) ++ [.lst acc]) (a := .int (b : Nat)) (b := .int ((s * i : Nat) : Int)) (v_at (i := 2) rfl) (op2 (S1 := (h3 :: st) ++ [.lst acc]) (S2 := (h3 :: st) ++ [.lst acc]) (a := .int (s : Nat)) (b := .int (i : Nat)) (v_at (i := 3) rfl) (v_at (i := 6) rfl) ?_) ?_
      · rw [fMul_i, if_pos (by unfold cMul; exact decide_eq_true (.inr ⟨by omega, by omega⟩)), Int.natCast_mul]
      · rw [fAdd_i, Int.natCast_add]
    · unfold nU
      rw [List.map_map]
      rfl
  obtain ⟨F, h4, e6, H4, pm, lp⟩ := pl_loop (st := st) (e1 := some (.int 40)) (e2 := some (.int (b : Nat))) (e3 := some (.int (s : Nat))) ((List.range 40).map fun (i : Nat) => U.int (i : Nat)) ((List.range 40).map fun i => b + s * i) [] h3 none H3 (by rw [List.length_map, List.length_map]) (by rw [List.length_map, List.length_range]; decide)
  rw [List.nil_append] at pm
  refine ⟨F, h4, H4, by rw [pm.length_eq, List.length_map, List.length_range], pm.nodup_iff.mpr ?_, fun n hn => ?_, fs_lst1 (n := 7) (mb := b_u_law_pool) (env := [some (.loc 0), some (.int 40), none, none, none, none, none]) (S2 := h4 :: st) (ext := [.lst (nU []), .lst (nU F)]) (j := 1) rfl ?_ (Old.hand H4.under) rfl (nU_und _)⟩
  · refine List.Pairwise.map _ (fun i j ne e => ne ?_) List.nodup_range
    exact Nat.eq_of_mul_eq_mul_left s1 (Nat.add_left_cancel e)
  · obtain ⟨i, hi, rfl⟩ := List.mem_map.mp (pm.mem_iff.mp hn)
    have li := List.mem_range.mp hi
    have : s * i ≤ 10000000000000000000000000000 * 39 := Nat.mul_le_mul s2 (by omega)
    unfold BIG
    omega
  · unfold b_u_law_pool
    exact seq_n (asgT2 (tup2 (b := .int 1) k1 rfl)) (seq_n q (seq_n (asg_ok cm) (seq_n (asg_ok (u := .loc (st.length + 2)) (S1 := QL st h3 ((List.range 40).map fun i => b + s * i) []) (by
      show Out.ok (U.loc ((h3 :: st) ++ [Ob.lst (nU ((List.range 40).map fun i => b + s * i))]).length) (((h3 :: st) ++ [Ob.lst (nU ((List.range 40).map fun i => b + s * i))]) ++ [Ob.lst []]) = _
      unfold QL
      rw [List.length_append, List.append_assoc]
      rfl)) (seq_n (sFor_ok (rng_at (n := 40) (v_at (i := 1) rfl) (by omega)) lp) (ret_ok (v_at (i := 5) rfl))))))
theorem neloc {X : Sto} {j : Nat} {us : List U} {w : U} (h : X[j]? = some (Ob.lst us)) : fNe (.loc j) w X = fNe (.lst us) w X := by
  have e : toD X 12 (.loc j) = toD X 12 (.lst us) := by
    unfold toD
    dsimp only
    rw [h]
  unfold fNe fEqB
  rw [e]
theorem esU_set (es : Ent) (d : Nat) (o : Option Nat) : (esU es).set d (eU o) = esU (es.set d o) := by
  unfold esU
  rw [List.map_set]
theorem es_new {es fs : Ent} : (ES st h es).set (st.length + 1) (.lst (esU fs)) = ES st h fs := by
  unfold ES
  simp
theorem sp_step {r : Ent} {ns : List Nat} {e1 e4 : Option U} (H : HOb h) (hl : r.length ≤ 900) (hn : ns.length ≤ 900) (hr : Nms r) (hb : ∀ n ∈ ns, n ≤ BIG) :
    ∃ r' h', HOb h' ∧ r'.length = r.length ∧ Nms r' ∧ l_u_law_spoilt_1 [some (.loc 0), e1, some (.lst (nU ns)), some (.loc (st.length + 1)), e4] (ES st h r) = SO.next [some (.loc 0), e1, some (.lst (nU ns)), some (.loc (st.length + 1)), e4] (ES st h' r') := by
  have n1 : eOp fNe (eVar 3) (eScope (eLst aNil)) [some (.loc 0), e1, some (.lst (nU ns)), some (.loc (st.length + 1)), e4] (ES st h r) = Out.ok (.bl (!decide (r = []))) (ES st h r) := op2 (S1 := ES st h r) (S2 := ES st h r) (a := .loc (st.length + 1)) (b := .lst []) (v_at (i := 3) rfl) (lit_drw (S := ES st h r) (S' := ES st h r) (ma := aNil) rfl (Old.refl _) (by simp) rfl) (by
    rw [neloc es_at, fNe_ok (es_ok r) rfl]
    have := es_eqv r []
    rw [show eqvU (.lst (esU r)) (.lst []) = decide (r = []) from this])
  unfold l_u_law_spoilt_1
  cases r with
  | nil => exact ⟨[], h, H, rfl, hr, if_no n1 rfl⟩
  | cons o r =>
    have ad : eScope (eOp fAdd (eVar 2) (eScope (eLst (aCons (eC .non) aNil)))) [some (.loc 0), e1, some (.lst (nU ns)), some (.loc (st.length + 1)), e4] (ES st h (o :: r)) = Out.ok (.lst (nU ns ++ [.non])) (ES st h (o :: r)) := add_fr (us := nU ns) (ws := [.non]) (v_at (i := 2) rfl) (lit1 rfl rfl) rfl (by rw [nU_len]; show ns.length + 1 ≤ 1000; omega) (underL_app (nU_und _) rfl)
    obtain ⟨w, h1, hw, H1, pk⟩ := pick_ok (st := st ++ [.lst (esU (o :: r))]) (us := nU ns ++ [.non]) H (by simp) (by rw [List.length_append, nU_len, List.length_singleton]; omega)
    have W : ∃ p : Option Nat, w = eU p ∧ ∀ x, p = some x → x ≤ BIG := by
      rcases List.mem_append.mp hw with z | z
      · obtain ⟨x, hx, rfl⟩ := List.mem_map.mp z
        exact ⟨some x, rfl, fun y e => by cases e; exact hb x hx⟩
      · exact ⟨none, List.mem_singleton.mp z, fun y e => by cases e⟩
    obtain ⟨p, rfl, hp⟩ := W
    have ln : eCB fLen (aCons (eVar 3) aNil) [some (.loc 0), e1, some (.lst (nU ns)), some (.loc (st.length + 1)), e4] (ES st h1 (o :: r)) = Out.ok (.int ((o :: r).length : Nat)) (ES st h1 (o :: r)) := by
      rw [← esU_len (o :: r)]
      exact cb1 (S1 := ES st h1 (o :: r)) (v_at (i := 3) rfl) (flen_loc es_at)
    obtain ⟨d, h2, H2, ld, q⟩ := draw_m (st := st ++ [.lst (esU (o :: r))]) (env := [some (.loc 0), e1, some (.lst (nU ns)), some (.loc (st.length + 1)), e4]) (j := 0) H1 rfl ln (by rw [List.length_cons]; omega) (by unfold BIG; omega)
    refine ⟨(o :: r).set d p, h2, H2, List.length_set .., fun x hx => ?_, if_yes n1 ?_⟩
    · rcases List.mem_or_eq_of_mem_set hx with z | z
      · exact hr x z
      · exact hp x z.symm
    · have c2 : eCall 2 m_u_law_pick [] (aCons (eVar 0) (aCons (eScope (eOp fAdd (eVar 2) (eScope (eLst (aCons (eC .non) aNil))))) aNil)) [some (.loc 0), e1, some (.lst (nU ns)), some (.loc (st.length + 1)), e4] (ES st h (o :: r)) = Out.ok (eU p) (ES st h1 (o :: r)) := call2m rfl (v_at (i := 0) rfl) ad pk
      have q' : eCall 2 m_u_law_draw [] (aCons (eVar 0) (aCons (eCB fLen (aCons (eVar 3) aNil)) aNil)) [some (.loc 0), e1, some (.lst (nU ns)), some (.loc (st.length + 1)), e4] (ES st h1 (o :: r)) = Out.ok (.int (d : Nat)) (ES st h2 (o :: r)) := q
      have sx : setIx (.loc (st.length + 1)) (.int (d : Nat)) (eU p) (ES st h2 (o :: r)) = some (ES st h2 ((o :: r).set d p)) := by
        unfold setIx
        dsimp only
        rw [es_at]
        dsimp only
        rw [ixN_n (by rw [esU_len]; exact ld)]
        dsimp only
        rw [esU_set, es_new]
      unfold sSetIx
      rw [c2, ost, v_at (i := 3) (u := .loc (st.length + 1)) rfl, ost, q', ost, sx]
theorem sp_loop {ns : List Nat} {e1 : Option U} (hn : ns.length ≤ 900) (hb : ∀ n ∈ ns, n ≤ BIG) : ∀ (us : List U) (r : Ent) (h : Ob) (e4 : Option U), HOb h → r.length ≤ 900 → Nms r →
    ∃ r' h' e4', HOb h' ∧ r'.length = r.length ∧ Nms r' ∧ NK.forM (fun _ => True) (gN 4) l_u_law_spoilt_1 us [some (.loc 0), e1, some (.lst (nU ns)), some (.loc (st.length + 1)), e4] (ES st h r) = SO.next [some (.loc 0), e1, some (.lst (nU ns)), some (.loc (st.length + 1)), e4'] (ES st h' r')
  | [], r, h, e4, H, _, hr => ⟨r, h, e4, H, rfl, hr, forM_nil True.intro⟩
  | u :: us, r, h, e4, H, hl, hr => by
    obtain ⟨r1, h1, H1, l1, n1, q⟩ := sp_step (st := st) (e1 := e1) (e4 := some u) H hl hn hr hb
    obtain ⟨r2, h2, e4', H2, l2, n2, q2⟩ := sp_loop (e1 := e1) hn hb us r1 h1 (some u) H1 (by omega) n1
    exact ⟨r2, h2, e4', H2, by omega, n2, (forM_n True.intro rfl q).trans q2⟩
theorem spoilt_ok {r : Ent} {ns : List Nat} (H : HOb h) (hl : r.length ≤ 900) (hn : ns.length ≤ 900) (hr : Nms r) (hb : ∀ n ∈ ns, n ≤ BIG) : ∃ r' h', HOb h' ∧ r'.length = r.length ∧ Nms r' ∧ m_u_law_spoilt [.loc 0, .lst (esU r), .lst (nU ns)] (h :: st) = Out.ok (.lst (esU r')) (h' :: st) := by
  obtain ⟨d, h1, H1, l1, k1⟩ := draw1_at (st := st ++ [.lst (esU r)]) (env := [some (.loc 0), some (.lst (esU r)), some (.lst (nU ns)), some (.loc (st.length + 1)), none]) (j := 0) (k := 3) H rfl (by decide) (by decide)
  obtain ⟨r', h2, e4, H2, l2, n2, q⟩ := sp_loop (st := st) (ns := ns) (e1 := some (.lst (esU r))) hn hb ((List.range d).map fun (i : Nat) => U.int (i : Nat)) r h1 none H1 hl hr
  refine ⟨r', h2, H2, l2, n2, fs_lst1 (n := 5) (mb := b_u_law_spoilt) (env := [some (.loc 0), some (.lst (esU r)), some (.lst (nU ns)), none, none]) (S2 := h2 :: st) (ext := [.lst (esU r')]) (j := 0) rfl ?_ (Old.hand H2.under) rfl (esU_und _)⟩
  unfold b_u_law_spoilt
  exact seq_n (asg_ok (u := .loc (st.length + 1)) (S1 := ES st h r) (cb1 (S1 := h :: st) (v_at (i := 1) rfl) rfl)) (seq_n (sFor_ok (rng_to k1 (by omega)) q) (ret_ok (v_at (i := 3) rfl)))
end
end G

namespace G
open PySem L2 NK
section
variable {st S S1 : Sto} {h : Ob} {env : NK.Env} {m m1 m2 : ME} {u w : U}
theorem odd_ok {us ws : List U} (H : HOb h) (hl : us.length ≤ 900) (hw : ws ≠ []) (hz : ws.length ≤ 900) (hu : U.underL 0 us = true) (hv : U.underL 0 ws = true) : ∃ (a : Nat) (w : U) (h' : Ob), HOb h' ∧ a ≤ us.length ∧ w ∈ ws ∧ m_u_law_odd [.loc 0, .lst us, .lst ws] (h :: st) = Out.ok (.tup [.lst (us.take a ++ [w] ++ us.drop a), .int (a : Nat)]) (h' :: st) := by
  have a1 : eOp fAdd (eCB fLen (aCons (eVar 1) aNil)) (eC (.int 1)) [some (.loc 0), some (.lst us), some (.lst ws), none, none] (h :: (st ++ [.lst us])) = Out.ok (.int ((us.length + 1 : Nat) : Int)) (h :: (st ++ [.lst us])) := op2 (S1 := h :: (st ++ [.lst us])) (S2 := h :: (st ++ [.lst us])) (b := .int 1) (len_lst (i := 1) rfl) rfl rfl
  obtain ⟨a, h1, H1, la, q⟩ := draw_m (st := st ++ [.lst us]) (env := [some (.loc 0), some (.lst us), some (.lst ws), none, none]) (j := 0) H rfl a1 (by omega) (by unfold BIG; omega)
  obtain ⟨w, h2, mw, H2, pk⟩ := pick_ok (st := st ++ [.lst us]) (us := ws) H1 hw (by omega)
  refine ⟨a, w, h2, H2, by omega, mw, fs_val (n := 5) (mb := b_u_law_odd) (env := [some (.loc 0), some (.lst us), some (.lst ws), none, none]) (st2 := h2 :: st) (ext := [.dead]) rfl ?_ (Old.hand H2.under) ?_⟩
  · have at2 : (h2 :: (st ++ [Ob.lst us]))[st.length + 1]? = some (.lst us) := by simp
    have set2 : (h2 :: (st ++ [Ob.lst us])).set (st.length + 1) (.lst (us.take a ++ [w] ++ us.drop a)) = h2 :: (st ++ [.lst (us.take a ++ [w] ++ us.drop a)]) := by simp
    have q1 : aCons (eCall 2 m_u_law_draw [] (aCons (eVar 0) (aCons (eOp fAdd (eCB fLen (aCons (eVar 1) aNil)) (eC (.int 1))) aNil))) aNil [some (.loc 0), some (.lst us), some (.lst ws), none, none] (h :: (st ++ [.lst us])) = Out.ok [.int (a : Nat)] (h1 :: (st ++ [.lst us])) := ac1 q
    have q2 : eCB fList (aCons (eVar 1) aNil) [some (.loc 0), some (.lst us), some (.lst ws), none, none] (h :: st) = Out.ok (.loc (st.length + 1)) (h :: (st ++ [.lst us])) := cb1 (S1 := h :: st) (a := .lst us) (v_at (i := 1) rfl) rfl
    have q3 : aCons (eCB fList (aCons (eVar 1) aNil)) (aCons (eCall 2 m_u_law_draw [] (aCons (eVar 0) (aCons (eOp fAdd (eCB fLen (aCons (eVar 1) aNil)) (eC (.int 1))) aNil))) aNil) [some (.loc 0), some (.lst us), some (.lst ws), none, none] (h :: st) = Out.ok [.loc (st.length + 1), .int (a : Nat)] (h1 :: (st ++ [.lst us])) := acN q2 q1
    have p := par_ok (i := 3) (j := 4) q3
    have ins : eBM fIns (eVar 3) (aCons (eVar 4) (aCons (eCall 2 m_u_law_pick [] (aCons (eVar 0) (aCons (eVar 2) aNil))) aNil)) [some (.loc 0), some (.lst us), some (.lst ws), some (.loc (st.length + 1)), some (.int (a : Nat))] (h1 :: (st ++ [.lst us])) = Out.ok .non (h2 :: (st ++ [.lst (us.take a ++ [w] ++ us.drop a)])) := by
      have c : eCall 2 m_u_law_pick [] (aCons (eVar 0) (aCons (eVar 2) aNil)) [some (.loc 0), some (.lst us), some (.lst ws), some (.loc (st.length + 1)), some (.int (a : Nat))] (h1 :: (st ++ [.lst us])) = Out.ok w (h2 :: (st ++ [.lst us])) := call2 rfl (v_at (i := 0) rfl) (v_at (i := 2) rfl) pk
      have c4 : eVar 4 [some (.loc 0), some (.lst us), some (.lst ws), some (.loc (st.length + 1)), some (.int (a : Nat))] (h1 :: (st ++ [.lst us])) = Out.ok (.int (a : Nat)) (h1 :: (st ++ [.lst us])) := v_at (i := 4) rfl
      have c1 : aCons (eCall 2 m_u_law_pick [] (aCons (eVar 0) (aCons (eVar 2) aNil))) aNil [some (.loc 0), some (.lst us), some (.lst ws), some (.loc (st.length + 1)), some (.int (a : Nat))] (h1 :: (st ++ [.lst us])) = Out.ok [w] (h2 :: (st ++ [.lst us])) := ac1 c
      have q4 : aCons (eVar 4) (aCons (eCall 2 m_u_law_pick [] (aCons (eVar 0) (aCons (eVar 2) aNil))) aNil) [some (.loc 0), some (.lst us), some (.lst ws), some (.loc (st.length + 1)), some (.int (a : Nat))] (h1 :: (st ++ [.lst us])) = Out.ok [.int (a : Nat), w] (h2 :: (st ++ [.lst us])) := acN c4 c1
      unfold eBM
      rw [v_at (i := 3) (u := .loc (st.length + 1)) rfl, ob, if_pos (isl_at (us := us) (by simp)), q4, ob]
      unfold fIns
      dsimp only
      rw [at2]
      dsimp only
      rw [if_pos (by omega), Int.toNat_natCast, set2]
    unfold b_u_law_odd
    refine seq_n p (seq_n (drop_n ins) (ret_ok (tup2 (S1 := h2 :: (st ++ [.dead])) ?_ (v_at (i := 4) rfl))))
    unfold eFrz eUn
    rw [v_at (i := 3) (u := .loc (st.length + 1)) rfl, ob]
    unfold frz
    dsimp only
    rw [show (h2 :: (st ++ [Ob.lst (us.take a ++ [w] ++ us.drop a)]))[st.length + 1]? = some (.lst (us.take a ++ [w] ++ us.drop a)) by simp]
    dsimp only
    rw [show (h2 :: (st ++ [Ob.lst (us.take a ++ [w] ++ us.drop a)])).set (st.length + 1) .dead = h2 :: (st ++ [.dead]) by simp]
  · have A : U.underL 0 (us.take a ++ [w] ++ us.drop a) = true := underL_all fun x hx => by
      rcases List.mem_append.mp hx with z | z
      · rcases List.mem_append.mp z with z | z
        · exact underL_mem hu (List.mem_of_mem_take z)
        · rw [List.mem_singleton.mp z]
          exact underL_mem hv mw
      · exact underL_mem hu (List.mem_of_mem_drop z)
    simp only [U.under, U.underL, A, Bool.and_self]
end
end G

namespace G
open PySem L2 NK
def DB (i : Int) (z : Str) : U := .tup [.non, .tup [.str "names", .int i, .str z]]
theorem db_ok {i : Int} {z : Str} (hz : PyData.strOk z = true) : okU 12 (DB i z) = true := by
  show ([U.non, U.tup [.str "names", .int i, .str z]] : List U).all (okU 11) = true
  rw [List.all_cons, List.all_cons, show okU 11 (.tup [.str "names", .int i, .str z]) = true from by
    show ([U.str "names", U.int i, U.str z] : List U).all (okU 10) = true
    rw [List.all_cons, okU_str (strOk_of _) 9, List.all_cons, List.all_cons, okU_str hz 9]
    rfl]
  rfl
section
variable {st S S1 : Sto} {h : Ob} {env : NK.Env} {m m1 m2 : ME} {u w : U}
theorem told_db {i : Int} {z : Str} (h : m env S = Out.exc (bnX i z) S1) : eLamT hs_u_law_told m env S = Out.ok (DB i z) S1 := told_bn h
theorem dbF {i : Int} {z : Str} (h1 : m1 env S = Out.ok (DB i z) S) (h2 : m2 env S = Out.ok (DB i z) S) (hz : PyData.strOk z = true) : NK.tB (eOp fNe m1 m2) env S = Out.ok false S := tB_of (op2 (S1 := S) (S2 := S) h1 h2 (ne_same (db_ok hz)))
theorem dbne {p : MS} {i : Int} {z : Str} (h1 : m1 env S = Out.ok (DB i z) S) (h2 : m2 env S = Out.ok (DB i z) S) (hz : PyData.strOk z = true) : sIf (NK.tB (eOp fNe m1 m2)) p sNext env S = SO.next env S := if_f (dbF h1 h2 hz) rfl
theorem duet {i : Int} {z : Str} (hm : m env S = Out.ok (.int i) S) : eTup (aCons (eC .non) (aCons (eTup (aCons (eC (.str "names")) (aCons m (aCons (eC (.str z)) aNil)))) aNil)) env S = Out.ok (DB i z) S := by
  have a1 : aCons (eC (.str z)) aNil env S = Out.ok [.str z] S := rfl
  have a2 : aCons m (aCons (eC (.str z)) aNil) env S = Out.ok [.int i, .str z] S := acN hm a1
  have a3 : aCons (eC (.str "names")) (aCons m (aCons (eC (.str z)) aNil)) env S = Out.ok [.str "names", .int i, .str z] S := acN (S1 := S) rfl a2
  have t1 := tupA a3 (by show 3 ≤ 1000; decide)
  have a4 := ac1 t1
  have a5 : aCons (eC .non) (aCons (eTup (aCons (eC (.str "names")) (aCons m (aCons (eC (.str z)) aNil)))) aNil) env S = Out.ok [.non, .tup [.str "names", .int i, .str z]] S := acN (S1 := S) rfl a4
  exact tupA a5 (by show 2 ≤ 1000; decide)
theorem mul_non {k : Int} (hm : m env S = Out.ok (.int k) S) (h0 : -100 ≤ k) (h1 : k ≤ 1000) : eScope (eOp fMul (eScope (eLst (aCons (eC .non) aNil))) m) env S = Out.ok (.lst (List.replicate k.toNat .non)) S := by
  have e : eOp fMul (eScope (eLst (aCons (eC .non) aNil))) m env S = Out.ok (.loc S.length) (S ++ [.lst (List.replicate k.toNat .non)]) := by
    refine op2 (S1 := S) (S2 := S) (a := .lst [.non]) (b := .int k) (lit1 rfl rfl) hm ?_
    show (if -(2 ^ 63) ≤ k ∧ k < 2 ^ 63 ∧ ([U.non] : List U).length * k.toNat ≤ 16777216 then Out.ok (U.loc S.length) (S ++ [.lst (List.replicate k.toNat [U.non]).flatten]) else Out.bad) = _
    rw [if_pos ⟨by omega, by omega, by show 1 * k.toNat ≤ 16777216; omega⟩, show (List.replicate k.toNat [U.non]).flatten = List.replicate k.toNat U.non from by
      generalize k.toNat = n
      induction n with
      | zero => rfl
      | succ n ih => rw [List.replicate_succ, List.flatten_cons, ih]; rfl]
  show scopeOut S (eOp fMul (eScope (eLst (aCons (eC .non) aNil))) m env S) = _
  rw [e]
  exact sc_lit rfl (underL_all fun u hu => by rw [(List.mem_replicate.mp hu).2]; rfl)
theorem add_to {us ws : List U} (h1 : m1 env S = Out.ok (.lst us) S) (h2 : m2 env S = Out.ok (.lst ws) S1) (o : Old S S1) (hz : us.length + ws.length ≤ 1000) (hu : U.underL 0 (us ++ ws) = true) : eScope (eOp fAdd m1 m2) env S = Out.ok (.lst (us ++ ws)) S1 := by
  have e : eOp fAdd m1 m2 env S = Out.ok (.loc (S.length + 0)) (S1 ++ [.lst (us ++ ws)]) := by
    refine op2 (S1 := S) (S2 := S1) h1 h2 ?_
    rw [fAdd_l hz, o.1]
    rfl
  unfold eScope
  rw [e]
  exact sc_loc (j := 0) [.lst (us ++ ws)] o rfl hu
theorem lst_of {us : List U} (hm : m env S = Out.ok (.lst us) S) (hu : U.underL 0 us = true) : eScope (eCB fList (aCons m aNil)) env S = Out.ok (.lst us) S := by
  unfold eScope
  rw [show eCB fList (aCons m aNil) env S = Out.ok (.loc S.length) (S ++ [.lst us]) from cb1 (S1 := S) hm rfl]
  exact sc_lit rfl hu
theorem max_at {r : Nat} (hm : m env S = Out.ok (.int (r : Nat)) S) : eCB fMax2 (aCons (eC (.int 0)) (aCons (eOp fSub m (eC (.int 1))) aNil)) env S = Out.ok (.int ((r - 1 : Nat) : Int)) S := by
  have s : eOp fSub m (eC (.int 1)) env S = Out.ok (.int ((r : Nat) - 1)) S := op2 (S1 := S) (S2 := S) (b := .int 1) hm rfl rfl
  have a : aCons (eC (.int 0)) (aCons (eOp fSub m (eC (.int 1))) aNil) env S = Out.ok [.int 0, .int ((r : Nat) - 1)] S := acN (S1 := S) rfl (ac1 s)
  refine cbA a ?_
  show Out.ok (U.int (if ((r : Nat) : Int) - 1 > 0 then ((r : Nat) : Int) - 1 else 0)) S = _
  refine congrArg (fun i => Out.ok (U.int i) S) ?_
  split <;> omega
theorem take_esU (es : Ent) (n : Nat) : (esU es).take n = esU (es.take n) := by
  unfold esU
  rw [List.map_take]
theorem drop_esU (es : Ent) (n : Nat) : (esU es).drop n = esU (es.drop n) := by
  unfold esU
  rw [List.map_drop]
theorem take_nU (ns : List Nat) (n : Nat) : (nU ns).take n = nU (ns.take n) := by
  unfold nU
  rw [List.map_take]
theorem nms_take {r : Ent} (h : Nms r) (n : Nat) : Nms (r.take n) := fun x hx => h x (List.mem_of_mem_take hx)
theorem nms_drop {r : Ent} (h : Nms r) (n : Nat) : Nms (r.drop n) := fun x hx => h x (List.mem_of_mem_drop hx)
theorem nms_row {es : Ent} {ns : List Nat} (c : Can es) (h : run 0 es ≤ ns.length) (hb : ∀ n ∈ ns, n ≤ BIG) : Nms (rowE es ns) := fun x hx => by
  obtain ⟨o, ho, e⟩ := List.mem_map.mp hx
  cases o with
  | none => cases e
  | some k =>
    cases e
    have lk := can_in c h k ho
    show ns.getD k 0 ≤ BIG
    rw [show ns.getD k 0 = ns[k] from by simp [List.getD, lk]]
    exact hb _ (List.getElem_mem lk)
def TH : List U := [.int (-1), .bl true, .str "1", .int 1000000000000000000000000000001, .tup [.int 2]]
theorem th_und : U.underL 0 TH = true := rfl
theorem th_bad {w : U} (h : w ∈ TH) : Nm w false := by
  unfold TH at h
  simp only [List.mem_cons, List.not_mem_nil, or_false] at h
  rcases h with rfl | rfl | rfl | rfl | rfl
  · have q := nm_int (-1)
    rwa [show (decide ((0 : Int) ≤ -1) && decide ((-1 : Int) ≤ 1000000000000000000000000000000)) = false from by decide] at q
  · exact nm_bl true
  · exact nm_str _
  · have q := nm_int 1000000000000000000000000000001
    rwa [show (decide ((0 : Int) ≤ 1000000000000000000000000000001) && decide ((1000000000000000000000000000001 : Int) ≤ 1000000000000000000000000000000)) = false from by decide] at q
  · exact nm_tup _
theorem th_at : eScope (eLst (aCons (eUn fNeg (eC (.int 1))) (aCons (eC (.bl true)) (aCons (eC (.str "1")) (aCons (eOp fAdd (eOp fPow (eC (.int 10)) (eC (.int 30))) (eC (.int 1))) (aCons (eTup (aCons (eC (.int 2)) aNil)) aNil)))))) env S = Out.ok (.lst TH) S := by
  have p : eOp fAdd (eOp fPow (eC (.int 10)) (eC (.int 30))) (eC (.int 1)) env S = Out.ok (.int 1000000000000000000000000000001) S := op2 (S1 := S) (S2 := S) (a := .int 1000000000000000000000000000000) (b := .int 1) (op2 (S1 := S) (S2 := S) (a := .int 10) (b := .int 30) rfl rfl rfl) rfl rfl
  have a4 : aCons (eOp fAdd (eOp fPow (eC (.int 10)) (eC (.int 30))) (eC (.int 1))) (aCons (eTup (aCons (eC (.int 2)) aNil)) aNil) env S = Out.ok [.int 1000000000000000000000000000001, .tup [.int 2]] S := acN p rfl
  have a3 : aCons (eC (.str "1")) (aCons (eOp fAdd (eOp fPow (eC (.int 10)) (eC (.int 30))) (eC (.int 1))) (aCons (eTup (aCons (eC (.int 2)) aNil)) aNil)) env S = Out.ok [.str "1", .int 1000000000000000000000000000001, .tup [.int 2]] S := acN (S1 := S) rfl a4
  have a2 : aCons (eC (.bl true)) (aCons (eC (.str "1")) (aCons (eOp fAdd (eOp fPow (eC (.int 10)) (eC (.int 30))) (eC (.int 1))) (aCons (eTup (aCons (eC (.int 2)) aNil)) aNil))) env S = Out.ok [.bl true, .str "1", .int 1000000000000000000000000000001, .tup [.int 2]] S := acN (S1 := S) rfl a3
  have a1 : aCons (eUn fNeg (eC (.int 1))) (aCons (eC (.bl true)) (aCons (eC (.str "1")) (aCons (eOp fAdd (eOp fPow (eC (.int 10)) (eC (.int 30))) (eC (.int 1))) (aCons (eTup (aCons (eC (.int 2)) aNil)) aNil)))) env S = Out.ok TH S := acN (S1 := S) rfl a2
  exact lit_drw a1 (Old.refl S) (by decide) th_und
theorem ck_odd {us : List U} {a : Nat} (q : SqU u (us.take a ++ w :: us.drop a)) (ha : a ≤ us.length) (hl : us.length < 40) (hg : ∀ x ∈ us, Gd x) (hb : Nm w false) : m_check_names [u] S = Out.exc (bnX a "name") S := by
  have e := nf_bad (S := S) q (by rw [List.length_append, List.length_cons, List.length_take, List.length_drop]; omega) (fun x hx => hg x (List.mem_of_mem_take hx)) hb
  rw [List.length_take, Nat.min_eq_left ha] at e
  exact ck_bad e
theorem un_odd {ns : List Nat} {a : Nat} (nd : ns.Nodup) (hb : ∀ n ∈ ns, n ≤ BIG) (ha : a ≤ ns.length) (hl : ns.length < 40) (h : m_is_name [w] S = Out.ok (.bl false) S) : m_check_unlike_names [.lst ((nU ns).take a ++ w :: (nU ns).drop a)] S = Out.exc (bnX a "name") S := by
  rw [take_nU]
  have e := un_name (S := S) (ns := ns.take a) (b := w) (r := (nU ns).drop a) (nd.sublist (List.take_sublist a ns)) (fun n hn => hb n (List.mem_of_mem_take hn)) (by rw [List.length_append, List.length_cons, nU_len, List.length_take, List.length_drop, nU_len]; omega) h
  rw [List.length_take, Nat.min_eq_left ha] at e
  exact e
def O3 (es : Ent) (ns : List Nat) : Ent := (ns.take 3).map some ++ List.replicate (es.length - 2) none
theorem o3_len {es : Ent} {ns : List Nat} (l : ns.length = 40) : (O3 es ns).length = 3 + (es.length - 2) := by
  unfold O3
  rw [List.length_append, List.length_map, List.length_take, List.length_replicate, l]
  rfl
theorem o3_nms {es : Ent} {ns : List Nat} (hb : ∀ n ∈ ns, n ≤ BIG) : Nms (O3 es ns) := fun x hx => by
  rcases List.mem_append.mp hx with z | z
  · obtain ⟨n, hn, e⟩ := List.mem_map.mp z
    cases e
    exact hb _ (List.mem_of_mem_take hn)
  · cases (List.mem_replicate.mp z).2
theorem o3_told {es : Ent} {ns : List Nat} (l : ns.length = 40) (le : es.length ≤ 40) (hb : ∀ n ∈ ns, n ≤ BIG) : ∃ (i : Int) (z : Str), (∀ S, m_first_difference [patI es, .lst (esU (O3 es ns))] S = Out.exc (bnX i z) S) ∧ (3 ≤ es.length → es.length < 40 → i = ((es.length + 1 : Nat) : Int) ∧ z = "length") := by
  have ol := o3_len (es := es) l
  by_cases e : es.length < 40
  · refine ⟨_, "length", fun S => fdiff_len (.l _) (by omega) (o3_nms hb) (by omega), fun h3 _ => ⟨?_, rfl⟩⟩
    rw [ol]
    omega
  · exact ⟨0, "names", fun S => fdiff_bad (ck_bad (nf_long (.l _) (by rw [esU_len]; omega))), fun _ h => absurd h e⟩
theorem o3_at {es : Ent} {ns : List Nat} {i j : Nat} (l : ns.length = 40) (le : es.length ≤ 40) (hi : env[i]? = some (some (.lst (nU ns)))) (hj : env[j]? = some (some (.lst (esU es)))) : eScope (eOp fAdd (eScope (eCB fList (aCons (eScope (eSl (eVar i) none (some (eC (.int 3))))) aNil))) (eScope (eOp fMul (eScope (eLst (aCons (eC .non) aNil))) (eOp fSub (eCB fLen (aCons (eVar j) aNil)) (eC (.int 2)))))) env S = Out.ok (.lst (esU (O3 es ns))) S := by
  have s1 : eScope (eSl (eVar i) none (some (eC (.int 3)))) env S = Out.ok (.lst ((nU ns).take 3)) S := cut_sc (d := 3) (v_at hi) rfl (Old.refl S) (by rw [take_nU]; exact nU_und _)
  have s2 := lst_of s1 (by rw [take_nU]; exact nU_und _)
  have s3 : eOp fSub (eCB fLen (aCons (eVar j) aNil)) (eC (.int 2)) env S = Out.ok (.int (((esU es).length : Nat) - 2)) S := op2 (S1 := S) (S2 := S) (b := .int 2) (len_lst hj) rfl rfl
  have le2 := esU_len es
  have s4 := mul_non s3 (by omega) (by omega)
  have e : (nU ns).take 3 ++ List.replicate (((esU es).length : Nat) - 2 : Int).toNat U.non = esU (O3 es ns) := by
    unfold O3 esU nU
    rw [List.map_append, List.map_map, List.map_replicate, ← List.map_take, List.length_map, show ((es.length : Nat) - 2 : Int).toNat = es.length - 2 by omega]
    rfl
  have s5 := add_fr s2 s4 rfl (by rw [List.length_take, List.length_replicate]; omega) (by rw [e]; exact esU_und _)
  rw [e] at s5
  exact s5
end
end G

set_option maxHeartbeats 1600000
namespace G
open PySem L2 NK
def D14 (es : Ent) : U := if 0 < run 0 es then DB ((run 0 es - 1 : Nat) : Int) "few" else .tup [.tup (esU es), .non]
theorem d14_ok (es : Ent) : okU 12 (D14 es) = true := by
  unfold D14
  split
  · exact db_ok (strOk_of _)
  · show ([U.tup (esU es), U.non] : List U).all (okU 11) = true
    rw [List.all_cons, show okU 11 (.tup (esU es)) = true from by
      show (esU es).all (okU 10) = true
      rw [List.all_eq_true]
      intro u hu
      obtain ⟨o, _, rfl⟩ := List.mem_map.mp hu
      cases o <;> rfl]
    rfl
theorem row_none {es : Ent} {ns : List Nat} (c : Can es) (h : run 0 es = 0) : rowE es ns = es := by
  unfold rowE
  refine (List.map_congr_left fun o ho => ?_).trans (List.map_id es)
  cases o with
  | none => rfl
  | some k =>
    have := run_lt es 0 k c ho
    omega
section
variable {st S : Sto} {h : Ob} {env : NK.Env} {es : Ent} {ns : List Nat}
theorem elen {i : Nat} {gs : Ent} (hi : env[i]? = some (some (.lst (esU gs)))) : eCB fLen (aCons (eVar i) aNil) env S = Out.ok (.int (gs.length : Nat)) S := by
  rw [← esU_len gs]
  exact len_lst hi
theorem nlen {i : Nat} {gs : List Nat} (hi : env[i]? = some (some (.lst (nU gs)))) : eCB fLen (aCons (eVar i) aNil) env S = Out.ok (.int (gs.length : Nat)) S := by
  rw [← nU_len gs]
  exact len_lst hi
theorem oddr_ok (H : HOb h) (c : Can es) (le : es.length ≤ 40) (nd : ns.Nodup) (hb : ∀ n ∈ ns, n ≤ BIG) (l40 : ns.length = 40) : ∃ h', HOb h' ∧ m_u_law_odd_right [.loc 0, patI es, .lst (esU es), .lst (nU ns)] (h :: st) = Out.ok (.bl true) (h' :: st) := by
  have rl := run_le_len es 0
  have lr : run 0 es ≤ ns.length := by omega
  have nmW : Nms (rowE es ns) := nms_row c lr hb
  have nmR : Nms ((rowE es ns).take 38) := nms_take nmW 38
  have lR : ((rowE es ns).take 38).length ≤ 38 := by rw [List.length_take]; omega
  have lN : (ns.take 38).length = 38 := by rw [List.length_take]; omega
  have ndN : (ns.take 38).Nodup := nd.sublist (List.take_sublist _ _)
  have hbN : ∀ n ∈ ns.take 38, n ≤ BIG := fun n hn => hb n (List.mem_of_mem_take hn)
  obtain ⟨a, w, h1, H1, la, hw, ko⟩ := odd_ok (st := st) (us := esU ((rowE es ns).take 38)) (ws := TH) H (by rw [esU_len]; omega) (by decide) (by decide) (esU_und _) th_und
  obtain ⟨b, v, h2, H2, lb, hv0, kp⟩ := odd_ok (st := st) (us := nU (ns.take 38)) (ws := TH ++ [.non]) H1 (by rw [nU_len]; omega) (by decide) (by decide) (nU_und _) (underL_app th_und rfl)
  rw [List.append_assoc] at ko kp
  rw [nU_len] at lb
  have hv : ∀ X, m_is_name [v] X = Out.ok (.bl false) X := fun X => by
    rcases List.mem_append.mp hv0 with z | z
    · exact (th_bad z).nm X
    · rw [List.mem_singleton.mp z]
      exact nm_non X
  obtain ⟨u, h3, hu, H3, kx0⟩ := pick_ok (st := st) (us := nU (ns.take 38)) H2 (fun e => by have := congrArg List.length e; rw [nU_len, lN] at this; cases this) (by rw [nU_len]; omega)
  obtain ⟨x, hx, rfl⟩ := List.mem_map.mp hu
  have kx : m_u_law_pick [.loc 0, .lst (nU (ns.take 38))] (h2 :: st) = Out.ok (.int (x : Nat)) (h3 :: st) := kx0
  obtain ⟨i, z, k3, iz⟩ := o3_told (es := es) (ns := ns) l40 le hb
  have s0 : sAsg (eScope (eLst (aCons (eUn fNeg (eC (.int 1))) (aCons (eC (.bl true)) (aCons (eC (.str "1")) (aCons (eOp fAdd (eOp fPow (eC (.int 10)) (eC (.int 30))) (eC (.int 1))) (aCons (eTup (aCons (eC (.int 2)) aNil)) aNil))))))) (gN 4) [some (.loc 0), some (patI es), some (.lst (esU es)), some (.lst (nU ns)), none, none, none, none, none, none, none, none, none, none, none] (h :: st) = SO.next [some (.loc 0), some (patI es), some (.lst (esU es)), some (.lst (nU ns)), some (.lst TH), none, none, none, none, none, none, none, none, none, none] (h :: st) := asg_ok th_at
  have r1 : (eCall 2 m_u_law_row [] (aCons (eVar 2) (aCons (eVar 3) aNil))) [some (.loc 0), some (patI es), some (.lst (esU es)), some (.lst (nU ns)), some (.lst TH), none, none, none, none, none, none, none, none, none, none] (h :: st) = Out.ok (.lst (esU (rowE es ns))) (h :: st) := call2 rfl (v_at (i := 2) rfl) (v_at (i := 3) rfl) (row_ok c (by omega) lr)
  have r1b := cut_sc (d := 38) (mh := eC (.int 38)) r1 rfl (Old.refl _) (by rw [take_esU]; exact esU_und _)
  rw [take_esU (rowE es ns) 38] at r1b
  have s1 : sAsg (eScope (eSl (eCall 2 m_u_law_row [] (aCons (eVar 2) (aCons (eVar 3) aNil))) none (some (eC (.int 38))))) (gN 5) [some (.loc 0), some (patI es), some (.lst (esU es)), some (.lst (nU ns)), some (.lst TH), none, none, none, none, none, none, none, none, none, none] (h :: st) = SO.next [some (.loc 0), some (patI es), some (.lst (esU es)), some (.lst (nU ns)), some (.lst TH), some (.lst (esU ((rowE es ns).take 38))), none, none, none, none, none, none, none, none, none] (h :: st) := asg_ok r1b
  have o2 : (eCall 3 m_u_law_odd [] (aCons (eVar 0) (aCons (eVar 5) (aCons (eVar 4) aNil)))) [some (.loc 0), some (patI es), some (.lst (esU es)), some (.lst (nU ns)), some (.lst TH), some (.lst (esU ((rowE es ns).take 38))), none, none, none, none, none, none, none, none, none] (h :: st) = Out.ok (.tup [.lst ((esU ((rowE es ns).take 38)).take a ++ w :: (esU ((rowE es ns).take 38)).drop a), .int (a : Nat)]) (h1 :: st) := call3 rfl (v_at (i := 0) rfl) (v_at (i := 5) rfl) (v_at (i := 4) rfl) ko
  have s2 : sAsg (eCall 3 m_u_law_odd [] (aCons (eVar 0) (aCons (eVar 5) (aCons (eVar 4) aNil)))) (gT [6, 7]) [some (.loc 0), some (patI es), some (.lst (esU es)), some (.lst (nU ns)), some (.lst TH), some (.lst (esU ((rowE es ns).take 38))), none, none, none, none, none, none, none, none, none] (h :: st) = SO.next [some (.loc 0), some (patI es), some (.lst (esU es)), some (.lst (nU ns)), some (.lst TH), some (.lst (esU ((rowE es ns).take 38))), some (.lst ((esU ((rowE es ns).take 38)).take a ++ w :: (esU ((rowE es ns).take 38)).drop a)), some (.int (a : Nat)), none, none, none, none, none, none, none] (h1 :: st) := asgT2 o2
  have v6 : eVar 6 [some (.loc 0), some (patI es), some (.lst (esU es)), some (.lst (nU ns)), some (.lst TH), some (.lst (esU ((rowE es ns).take 38))), some (.lst ((esU ((rowE es ns).take 38)).take a ++ w :: (esU ((rowE es ns).take 38)).drop a)), some (.int (a : Nat)), none, none, none, none, none, none, none] (h1 :: st) = Out.ok (.lst ((esU ((rowE es ns).take 38)).take a ++ w :: (esU ((rowE es ns).take 38)).drop a)) (h1 :: st) := v_at (i := 6) rfl
  have v1 : eVar 1 [some (.loc 0), some (patI es), some (.lst (esU es)), some (.lst (nU ns)), some (.lst TH), some (.lst (esU ((rowE es ns).take 38))), some (.lst ((esU ((rowE es ns).take 38)).take a ++ w :: (esU ((rowE es ns).take 38)).drop a)), some (.int (a : Nat)), none, none, none, none, none, none, none] (h1 :: st) = Out.ok (patI es) (h1 :: st) := v_at (i := 1) rfl
  have v5 : eVar 5 [some (.loc 0), some (patI es), some (.lst (esU es)), some (.lst (nU ns)), some (.lst TH), some (.lst (esU ((rowE es ns).take 38))), some (.lst ((esU ((rowE es ns).take 38)).take a ++ w :: (esU ((rowE es ns).take 38)).drop a)), some (.int (a : Nat)), none, none, none, none, none, none, none] (h1 :: st) = Out.ok (.lst (esU ((rowE es ns).take 38))) (h1 :: st) := v_at (i := 5) rfl
  have v7 : eVar 7 [some (.loc 0), some (patI es), some (.lst (esU es)), some (.lst (nU ns)), some (.lst TH), some (.lst (esU ((rowE es ns).take 38))), some (.lst ((esU ((rowE es ns).take 38)).take a ++ w :: (esU ((rowE es ns).take 38)).drop a)), some (.int (a : Nat)), none, none, none, none, none, none, none] (h1 :: st) = Out.ok (.int (a : Nat)) (h1 :: st) := v_at (i := 7) rfl
  have n41 : (eScope (eOp fMul (eScope (eLst (aCons (eC .non) aNil))) (eC (.int 41)))) [some (.loc 0), some (patI es), some (.lst (esU es)), some (.lst (nU ns)), some (.lst TH), some (.lst (esU ((rowE es ns).take 38))), some (.lst ((esU ((rowE es ns).take 38)).take a ++ w :: (esU ((rowE es ns).take 38)).drop a)), some (.int (a : Nat)), none, none, none, none, none, none, none] (h1 :: st) = Out.ok (.lst (List.replicate 41 .non)) (h1 :: st) := mul_non (k := 41) rfl (by decide) (by decide)
  have ck6 : m_check_names [.lst ((esU ((rowE es ns).take 38)).take a ++ w :: (esU ((rowE es ns).take 38)).drop a)] (h1 :: st) = Out.exc (bnX (a : Nat) "name") (h1 :: st) := ck_odd (.l _) la (by rw [esU_len]; omega) (gd_row nmR) (th_bad hw)
  have t3 : (eLamT hs_u_law_told (eCall 2 m_first_difference [] (aCons (eVar 1) (aCons (eVar 6) aNil)))) [some (.loc 0), some (patI es), some (.lst (esU es)), some (.lst (nU ns)), some (.lst TH), some (.lst (esU ((rowE es ns).take 38))), some (.lst ((esU ((rowE es ns).take 38)).take a ++ w :: (esU ((rowE es ns).take 38)).drop a)), some (.int (a : Nat)), none, none, none, none, none, none, none] (h1 :: st) = Out.ok (DB ((a : Nat) : Int) "name") (h1 :: st) := told_db (call2 rfl v1 v6 (fdiff_bad ck6))
  have d3 : (eTup (aCons (eC .non) (aCons (eTup (aCons (eC (.str "names")) (aCons (eVar 7) (aCons (eC (.str "name")) aNil)))) aNil))) [some (.loc 0), some (patI es), some (.lst (esU es)), some (.lst (nU ns)), some (.lst TH), some (.lst (esU ((rowE es ns).take 38))), some (.lst ((esU ((rowE es ns).take 38)).take a ++ w :: (esU ((rowE es ns).take 38)).drop a)), some (.int (a : Nat)), none, none, none, none, none, none, none] (h1 :: st) = Out.ok (DB ((a : Nat) : Int) "name") (h1 :: st) := duet v7
  have s3 : sIf (NK.tB (eOp fNe (eLamT hs_u_law_told (eCall 2 m_first_difference [] (aCons (eVar 1) (aCons (eVar 6) aNil)))) (eTup (aCons (eC .non) (aCons (eTup (aCons (eC (.str "names")) (aCons (eVar 7) (aCons (eC (.str "name")) aNil)))) aNil))))) (sRet (eC (.bl false))) sNext [some (.loc 0), some (patI es), some (.lst (esU es)), some (.lst (nU ns)), some (.lst TH), some (.lst (esU ((rowE es ns).take 38))), some (.lst ((esU ((rowE es ns).take 38)).take a ++ w :: (esU ((rowE es ns).take 38)).drop a)), some (.int (a : Nat)), none, none, none, none, none, none, none] (h1 :: st) = SO.next [some (.loc 0), some (patI es), some (.lst (esU es)), some (.lst (nU ns)), some (.lst TH), some (.lst (esU ((rowE es ns).take 38))), some (.lst ((esU ((rowE es ns).take 38)).take a ++ w :: (esU ((rowE es ns).take 38)).drop a)), some (.int (a : Nat)), none, none, none, none, none, none, none] (h1 :: st) := dbne t3 d3 (strOk_of _)
  have t4 : (eLamT hs_u_law_told (eCall 2 m_renaming_of [] (aCons (eVar 6) (aCons (eScope (eOp fMul (eScope (eLst (aCons (eC .non) aNil))) (eC (.int 41)))) aNil)))) [some (.loc 0), some (patI es), some (.lst (esU es)), some (.lst (nU ns)), some (.lst TH), some (.lst (esU ((rowE es ns).take 38))), some (.lst ((esU ((rowE es ns).take 38)).take a ++ w :: (esU ((rowE es ns).take 38)).drop a)), some (.int (a : Nat)), none, none, none, none, none, none, none] (h1 :: st) = Out.ok (DB ((a : Nat) : Int) "name") (h1 :: st) := told_db (call2 rfl v6 n41 (ren_bad1 ck6))
  have d4 : (eTup (aCons (eC .non) (aCons (eTup (aCons (eC (.str "names")) (aCons (eVar 7) (aCons (eC (.str "name")) aNil)))) aNil))) [some (.loc 0), some (patI es), some (.lst (esU es)), some (.lst (nU ns)), some (.lst TH), some (.lst (esU ((rowE es ns).take 38))), some (.lst ((esU ((rowE es ns).take 38)).take a ++ w :: (esU ((rowE es ns).take 38)).drop a)), some (.int (a : Nat)), none, none, none, none, none, none, none] (h1 :: st) = Out.ok (DB ((a : Nat) : Int) "name") (h1 :: st) := duet v7
  have s4 : sIf (NK.tB (eOp fNe (eLamT hs_u_law_told (eCall 2 m_renaming_of [] (aCons (eVar 6) (aCons (eScope (eOp fMul (eScope (eLst (aCons (eC .non) aNil))) (eC (.int 41)))) aNil)))) (eTup (aCons (eC .non) (aCons (eTup (aCons (eC (.str "names")) (aCons (eVar 7) (aCons (eC (.str "name")) aNil)))) aNil))))) (sRet (eC (.bl false))) sNext [some (.loc 0), some (patI es), some (.lst (esU es)), some (.lst (nU ns)), some (.lst TH), some (.lst (esU ((rowE es ns).take 38))), some (.lst ((esU ((rowE es ns).take 38)).take a ++ w :: (esU ((rowE es ns).take 38)).drop a)), some (.int (a : Nat)), none, none, none, none, none, none, none] (h1 :: st) = SO.next [some (.loc 0), some (patI es), some (.lst (esU es)), some (.lst (nU ns)), some (.lst TH), some (.lst (esU ((rowE es ns).take 38))), some (.lst ((esU ((rowE es ns).take 38)).take a ++ w :: (esU ((rowE es ns).take 38)).drop a)), some (.int (a : Nat)), none, none, none, none, none, none, none] (h1 :: st) := dbne t4 d4 (strOk_of _)
  have tp : (eCB fTuple (aCons (eVar 5) aNil)) [some (.loc 0), some (patI es), some (.lst (esU es)), some (.lst (nU ns)), some (.lst TH), some (.lst (esU ((rowE es ns).take 38))), some (.lst ((esU ((rowE es ns).take 38)).take a ++ w :: (esU ((rowE es ns).take 38)).drop a)), some (.int (a : Nat)), none, none, none, none, none, none, none] (h1 :: st) = Out.ok (.tup (esU ((rowE es ns).take 38))) (h1 :: st) := cb1 v5 rfl
  have t5 : (eLamT hs_u_law_told (eCall 2 m_renaming_of [] (aCons (eCB fTuple (aCons (eVar 5) aNil)) (aCons (eVar 6) aNil)))) [some (.loc 0), some (patI es), some (.lst (esU es)), some (.lst (nU ns)), some (.lst TH), some (.lst (esU ((rowE es ns).take 38))), some (.lst ((esU ((rowE es ns).take 38)).take a ++ w :: (esU ((rowE es ns).take 38)).drop a)), some (.int (a : Nat)), none, none, none, none, none, none, none] (h1 :: st) = Out.ok (DB ((a : Nat) : Int) "name") (h1 :: st) := told_db (call2 rfl tp v6 (ren_bad2 (ck_row (.t _) (by omega) nmR) ck6))
  have d5 : (eTup (aCons (eC .non) (aCons (eTup (aCons (eC (.str "names")) (aCons (eVar 7) (aCons (eC (.str "name")) aNil)))) aNil))) [some (.loc 0), some (patI es), some (.lst (esU es)), some (.lst (nU ns)), some (.lst TH), some (.lst (esU ((rowE es ns).take 38))), some (.lst ((esU ((rowE es ns).take 38)).take a ++ w :: (esU ((rowE es ns).take 38)).drop a)), some (.int (a : Nat)), none, none, none, none, none, none, none] (h1 :: st) = Out.ok (DB ((a : Nat) : Int) "name") (h1 :: st) := duet v7
  have s5 : sIf (NK.tB (eOp fNe (eLamT hs_u_law_told (eCall 2 m_renaming_of [] (aCons (eCB fTuple (aCons (eVar 5) aNil)) (aCons (eVar 6) aNil)))) (eTup (aCons (eC .non) (aCons (eTup (aCons (eC (.str "names")) (aCons (eVar 7) (aCons (eC (.str "name")) aNil)))) aNil))))) (sRet (eC (.bl false))) sNext [some (.loc 0), some (patI es), some (.lst (esU es)), some (.lst (nU ns)), some (.lst TH), some (.lst (esU ((rowE es ns).take 38))), some (.lst ((esU ((rowE es ns).take 38)).take a ++ w :: (esU ((rowE es ns).take 38)).drop a)), some (.int (a : Nat)), none, none, none, none, none, none, none] (h1 :: st) = SO.next [some (.loc 0), some (patI es), some (.lst (esU es)), some (.lst (nU ns)), some (.lst TH), some (.lst (esU ((rowE es ns).take 38))), some (.lst ((esU ((rowE es ns).take 38)).take a ++ w :: (esU ((rowE es ns).take 38)).drop a)), some (.int (a : Nat)), none, none, none, none, none, none, none] (h1 :: st) := dbne t5 d5 (strOk_of _)
  have t6 : (eLamT hs_u_law_told (eCall 2 m_renaming_of [] (aCons (eVar 5) (aCons (eC (.str "12")) aNil)))) [some (.loc 0), some (patI es), some (.lst (esU es)), some (.lst (nU ns)), some (.lst TH), some (.lst (esU ((rowE es ns).take 38))), some (.lst ((esU ((rowE es ns).take 38)).take a ++ w :: (esU ((rowE es ns).take 38)).drop a)), some (.int (a : Nat)), none, none, none, none, none, none, none] (h1 :: st) = Out.ok (DB 0 "names") (h1 :: st) := told_db (call2 (y := .str "12") rfl v5 rfl (ren_bad2 (ck_row (.l _) (by omega) nmR) (ck_bad (nf_str _))))
  have d6 : (eTup (aCons (eC .non) (aCons (eTup (aCons (eC (.str "names")) (aCons (eC (.int 0)) (aCons (eC (.str "names")) aNil)))) aNil))) [some (.loc 0), some (patI es), some (.lst (esU es)), some (.lst (nU ns)), some (.lst TH), some (.lst (esU ((rowE es ns).take 38))), some (.lst ((esU ((rowE es ns).take 38)).take a ++ w :: (esU ((rowE es ns).take 38)).drop a)), some (.int (a : Nat)), none, none, none, none, none, none, none] (h1 :: st) = Out.ok (DB 0 "names") (h1 :: st) := duet (m := eC (.int 0)) rfl
  have s6 : sIf (NK.tB (eOp fNe (eLamT hs_u_law_told (eCall 2 m_renaming_of [] (aCons (eVar 5) (aCons (eC (.str "12")) aNil)))) (eTup (aCons (eC .non) (aCons (eTup (aCons (eC (.str "names")) (aCons (eC (.int 0)) (aCons (eC (.str "names")) aNil)))) aNil))))) (sRet (eC (.bl false))) sNext [some (.loc 0), some (patI es), some (.lst (esU es)), some (.lst (nU ns)), some (.lst TH), some (.lst (esU ((rowE es ns).take 38))), some (.lst ((esU ((rowE es ns).take 38)).take a ++ w :: (esU ((rowE es ns).take 38)).drop a)), some (.int (a : Nat)), none, none, none, none, none, none, none] (h1 :: st) = SO.next [some (.loc 0), some (patI es), some (.lst (esU es)), some (.lst (nU ns)), some (.lst TH), some (.lst (esU ((rowE es ns).take 38))), some (.lst ((esU ((rowE es ns).take 38)).take a ++ w :: (esU ((rowE es ns).take 38)).drop a)), some (.int (a : Nat)), none, none, none, none, none, none, none] (h1 :: st) := dbne t6 d6 (strOk_of _)
  have t7 : (eLamT hs_u_law_told (eCall 2 m_first_difference [] (aCons (eVar 1) (aCons (eScope (eOp fMul (eScope (eLst (aCons (eC .non) aNil))) (eC (.int 41)))) aNil)))) [some (.loc 0), some (patI es), some (.lst (esU es)), some (.lst (nU ns)), some (.lst TH), some (.lst (esU ((rowE es ns).take 38))), some (.lst ((esU ((rowE es ns).take 38)).take a ++ w :: (esU ((rowE es ns).take 38)).drop a)), some (.int (a : Nat)), none, none, none, none, none, none, none] (h1 :: st) = Out.ok (DB 0 "names") (h1 :: st) := told_db (call2 rfl v1 n41 (fdiff_bad (ck_bad (nf_long (.l _) (by rw [List.length_replicate]; decide)))))
  have d7 : (eTup (aCons (eC .non) (aCons (eTup (aCons (eC (.str "names")) (aCons (eC (.int 0)) (aCons (eC (.str "names")) aNil)))) aNil))) [some (.loc 0), some (patI es), some (.lst (esU es)), some (.lst (nU ns)), some (.lst TH), some (.lst (esU ((rowE es ns).take 38))), some (.lst ((esU ((rowE es ns).take 38)).take a ++ w :: (esU ((rowE es ns).take 38)).drop a)), some (.int (a : Nat)), none, none, none, none, none, none, none] (h1 :: st) = Out.ok (DB 0 "names") (h1 :: st) := duet (m := eC (.int 0)) rfl
  have s7 : sIf (NK.tB (eOp fNe (eLamT hs_u_law_told (eCall 2 m_first_difference [] (aCons (eVar 1) (aCons (eScope (eOp fMul (eScope (eLst (aCons (eC .non) aNil))) (eC (.int 41)))) aNil)))) (eTup (aCons (eC .non) (aCons (eTup (aCons (eC (.str "names")) (aCons (eC (.int 0)) (aCons (eC (.str "names")) aNil)))) aNil))))) (sRet (eC (.bl false))) sNext [some (.loc 0), some (patI es), some (.lst (esU es)), some (.lst (nU ns)), some (.lst TH), some (.lst (esU ((rowE es ns).take 38))), some (.lst ((esU ((rowE es ns).take 38)).take a ++ w :: (esU ((rowE es ns).take 38)).drop a)), some (.int (a : Nat)), none, none, none, none, none, none, none] (h1 :: st) = SO.next [some (.loc 0), some (patI es), some (.lst (esU es)), some (.lst (nU ns)), some (.lst TH), some (.lst (esU ((rowE es ns).take 38))), some (.lst ((esU ((rowE es ns).take 38)).take a ++ w :: (esU ((rowE es ns).take 38)).drop a)), some (.int (a : Nat)), none, none, none, none, none, none, none] (h1 :: st) := dbne t7 d7 (strOk_of _)
  have o8 : (eScope (eOp fAdd (eScope (eCB fList (aCons (eScope (eSl (eVar 3) none (some (eC (.int 3))))) aNil))) (eScope (eOp fMul (eScope (eLst (aCons (eC .non) aNil))) (eOp fSub (eCB fLen (aCons (eVar 2) aNil)) (eC (.int 2))))))) [some (.loc 0), some (patI es), some (.lst (esU es)), some (.lst (nU ns)), some (.lst TH), some (.lst (esU ((rowE es ns).take 38))), some (.lst ((esU ((rowE es ns).take 38)).take a ++ w :: (esU ((rowE es ns).take 38)).drop a)), some (.int (a : Nat)), none, none, none, none, none, none, none] (h1 :: st) = Out.ok (.lst (esU (O3 es ns))) (h1 :: st) := o3_at l40 le (i := 3) (j := 2) rfl rfl
  have v1b : eVar 1 [some (.loc 0), some (patI es), some (.lst (esU es)), some (.lst (nU ns)), some (.lst TH), some (.lst (esU ((rowE es ns).take 38))), some (.lst ((esU ((rowE es ns).take 38)).take a ++ w :: (esU ((rowE es ns).take 38)).drop a)), some (.int (a : Nat)), none, none, none, none, none, none, none] (h1 :: st) = Out.ok (patI es) (h1 :: st) := v_at (i := 1) rfl
  have s8 : sAsg (eLamT hs_u_law_told (eCall 2 m_first_difference [] (aCons (eVar 1) (aCons (eScope (eOp fAdd (eScope (eCB fList (aCons (eScope (eSl (eVar 3) none (some (eC (.int 3))))) aNil))) (eScope (eOp fMul (eScope (eLst (aCons (eC .non) aNil))) (eOp fSub (eCB fLen (aCons (eVar 2) aNil)) (eC (.int 2))))))) aNil)))) (gN 8) [some (.loc 0), some (patI es), some (.lst (esU es)), some (.lst (nU ns)), some (.lst TH), some (.lst (esU ((rowE es ns).take 38))), some (.lst ((esU ((rowE es ns).take 38)).take a ++ w :: (esU ((rowE es ns).take 38)).drop a)), some (.int (a : Nat)), none, none, none, none, none, none, none] (h1 :: st) = SO.next [some (.loc 0), some (patI es), some (.lst (esU es)), some (.lst (nU ns)), some (.lst TH), some (.lst (esU ((rowE es ns).take 38))), some (.lst ((esU ((rowE es ns).take 38)).take a ++ w :: (esU ((rowE es ns).take 38)).drop a)), some (.int (a : Nat)), some (DB i z), none, none, none, none, none, none] (h1 :: st) := asg_ok (told_db (call2 rfl v1b o8 (k3 _)))
  have l9 : (eCB fLen (aCons (eVar 2) aNil)) [some (.loc 0), some (patI es), some (.lst (esU es)), some (.lst (nU ns)), some (.lst TH), some (.lst (esU ((rowE es ns).take 38))), some (.lst ((esU ((rowE es ns).take 38)).take a ++ w :: (esU ((rowE es ns).take 38)).drop a)), some (.int (a : Nat)), some (DB i z), none, none, none, none, none, none] (h1 :: st) = Out.ok (.int (es.length : Nat)) (h1 :: st) := elen rfl
  have d9 : (eTup (aCons (eC .non) (aCons (eTup (aCons (eC (.str "names")) (aCons (eOp fAdd (eCB fLen (aCons (eVar 2) aNil)) (eC (.int 1))) (aCons (eC (.str "length")) aNil)))) aNil))) [some (.loc 0), some (patI es), some (.lst (esU es)), some (.lst (nU ns)), some (.lst TH), some (.lst (esU ((rowE es ns).take 38))), some (.lst ((esU ((rowE es ns).take 38)).take a ++ w :: (esU ((rowE es ns).take 38)).drop a)), some (.int (a : Nat)), some (DB i z), none, none, none, none, none, none] (h1 :: st) = Out.ok (DB ((es.length + 1 : Nat) : Int) "length") (h1 :: st) := duet (op2 (b := .int 1) l9 rfl rfl)
  have v8 : eVar 8 [some (.loc 0), some (patI es), some (.lst (esU es)), some (.lst (nU ns)), some (.lst TH), some (.lst (esU ((rowE es ns).take 38))), some (.lst ((esU ((rowE es ns).take 38)).take a ++ w :: (esU ((rowE es ns).take 38)).drop a)), some (.int (a : Nat)), some (DB i z), none, none, none, none, none, none] (h1 :: st) = Out.ok (DB i z) (h1 :: st) := v_at (i := 8) rfl
  have q9 : (NK.tAnd (NK.tB (eOp fGe (eCB fLen (aCons (eVar 2) aNil)) (eC (.int 3)))) (NK.tAnd (NK.tB (eOp fLt (eCB fLen (aCons (eVar 2) aNil)) (eC (.int 40)))) (NK.tB (eOp fNe (eVar 8) (eTup (aCons (eC .non) (aCons (eTup (aCons (eC (.str "names")) (aCons (eOp fAdd (eCB fLen (aCons (eVar 2) aNil)) (eC (.int 1))) (aCons (eC (.str "length")) aNil)))) aNil))))))) [some (.loc 0), some (patI es), some (.lst (esU es)), some (.lst (nU ns)), some (.lst TH), some (.lst (esU ((rowE es ns).take 38))), some (.lst ((esU ((rowE es ns).take 38)).take a ++ w :: (esU ((rowE es ns).take 38)).drop a)), some (.int (a : Nat)), some (DB i z), none, none, none, none, none, none] (h1 :: st) = Out.ok false (h1 :: st) := by
    have g1 := tB_of (op2 (m2 := eC (.int 3)) (b := .int 3) (f := fGe) l9 rfl rfl)
    have g2 := tB_of (op2 (m2 := eC (.int 40)) (b := .int 40) (f := fLt) l9 rfl rfl)
    by_cases z1 : (3 : Int) ≤ (es.length : Nat)
    · rw [decide_eq_true z1] at g1
      by_cases z2 : ((es.length : Nat) : Int) < 40
      · rw [decide_eq_true z2] at g2
        obtain ⟨rfl, rfl⟩ := iz (by omega) (by omega)
        exact tand_t g1 (tand_t g2 (dbF v8 d9 (strOk_of _)))
      · rw [decide_eq_false z2] at g2
        exact tand_t g1 (tand_f g2)
    · rw [decide_eq_false z1] at g1
      exact tand_f g1
  have s9 : sIf (NK.tAnd (NK.tB (eOp fGe (eCB fLen (aCons (eVar 2) aNil)) (eC (.int 3)))) (NK.tAnd (NK.tB (eOp fLt (eCB fLen (aCons (eVar 2) aNil)) (eC (.int 40)))) (NK.tB (eOp fNe (eVar 8) (eTup (aCons (eC .non) (aCons (eTup (aCons (eC (.str "names")) (aCons (eOp fAdd (eCB fLen (aCons (eVar 2) aNil)) (eC (.int 1))) (aCons (eC (.str "length")) aNil)))) aNil))))))) (sRet (eC (.bl false))) sNext [some (.loc 0), some (patI es), some (.lst (esU es)), some (.lst (nU ns)), some (.lst TH), some (.lst (esU ((rowE es ns).take 38))), some (.lst ((esU ((rowE es ns).take 38)).take a ++ w :: (esU ((rowE es ns).take 38)).drop a)), some (.int (a : Nat)), some (DB i z), none, none, none, none, none, none] (h1 :: st) = SO.next [some (.loc 0), some (patI es), some (.lst (esU es)), some (.lst (nU ns)), some (.lst TH), some (.lst (esU ((rowE es ns).take 38))), some (.lst ((esU ((rowE es ns).take 38)).take a ++ w :: (esU ((rowE es ns).take 38)).drop a)), some (.int (a : Nat)), some (DB i z), none, none, none, none, none, none] (h1 :: st) := if_f q9 rfl
  have r10 : (eCall 2 m_u_law_row [] (aCons (eVar 2) (aCons (eVar 3) aNil))) [some (.loc 0), some (patI es), some (.lst (esU es)), some (.lst (nU ns)), some (.lst TH), some (.lst (esU ((rowE es ns).take 38))), some (.lst ((esU ((rowE es ns).take 38)).take a ++ w :: (esU ((rowE es ns).take 38)).drop a)), some (.int (a : Nat)), some (DB i z), none, none, none, none, none, none] (h1 :: st) = Out.ok (.lst (esU (rowE es ns))) (h1 :: st) := call2 rfl (v_at (i := 2) rfl) (v_at (i := 3) rfl) (row_ok c (by omega) lr)
  have r10b := sl_from (k := 1) (ml := eC (.int 1)) r10 rfl (esU_und _)
  rw [drop_esU (rowE es ns) 1] at r10b
  have s10 : sAsg (eScope (eSl (eCall 2 m_u_law_row [] (aCons (eVar 2) (aCons (eVar 3) aNil))) (some (eC (.int 1))) none)) (gN 9) [some (.loc 0), some (patI es), some (.lst (esU es)), some (.lst (nU ns)), some (.lst TH), some (.lst (esU ((rowE es ns).take 38))), some (.lst ((esU ((rowE es ns).take 38)).take a ++ w :: (esU ((rowE es ns).take 38)).drop a)), some (.int (a : Nat)), some (DB i z), none, none, none, none, none, none] (h1 :: st) = SO.next [some (.loc 0), some (patI es), some (.lst (esU es)), some (.lst (nU ns)), some (.lst TH), some (.lst (esU ((rowE es ns).take 38))), some (.lst ((esU ((rowE es ns).take 38)).take a ++ w :: (esU ((rowE es ns).take 38)).drop a)), some (.int (a : Nat)), some (DB i z), some (.lst (esU ((rowE es ns).drop 1))), none, none, none, none, none] (h1 :: st) := asg_ok r10b
  have l11 : (eCB fLen (aCons (eVar 2) aNil)) [some (.loc 0), some (patI es), some (.lst (esU es)), some (.lst (nU ns)), some (.lst TH), some (.lst (esU ((rowE es ns).take 38))), some (.lst ((esU ((rowE es ns).take 38)).take a ++ w :: (esU ((rowE es ns).take 38)).drop a)), some (.int (a : Nat)), some (DB i z), some (.lst (esU ((rowE es ns).drop 1))), none, none, none, none, none] (h1 :: st) = Out.ok (.int (es.length : Nat)) (h1 :: st) := elen rfl
  have n11 : (eCB fLen (aCons (eVar 9) aNil)) [some (.loc 0), some (patI es), some (.lst (esU es)), some (.lst (nU ns)), some (.lst TH), some (.lst (esU ((rowE es ns).take 38))), some (.lst ((esU ((rowE es ns).take 38)).take a ++ w :: (esU ((rowE es ns).take 38)).drop a)), some (.int (a : Nat)), some (DB i z), some (.lst (esU ((rowE es ns).drop 1))), none, none, none, none, none] (h1 :: st) = Out.ok (.int (((rowE es ns).drop 1).length : Nat)) (h1 :: st) := elen rfl
  have d11 : (eTup (aCons (eC .non) (aCons (eTup (aCons (eC (.str "names")) (aCons (eCB fLen (aCons (eVar 9) aNil)) (aCons (eC (.str "length")) aNil)))) aNil))) [some (.loc 0), some (patI es), some (.lst (esU es)), some (.lst (nU ns)), some (.lst TH), some (.lst (esU ((rowE es ns).take 38))), some (.lst ((esU ((rowE es ns).take 38)).take a ++ w :: (esU ((rowE es ns).take 38)).drop a)), some (.int (a : Nat)), some (DB i z), some (.lst (esU ((rowE es ns).drop 1))), none, none, none, none, none] (h1 :: st) = Out.ok (DB (((rowE es ns).drop 1).length : Nat) "length") (h1 :: st) := duet n11
  have q11 : (NK.tAnd (NK.tB (eOp fGt (eCB fLen (aCons (eVar 2) aNil)) (eC (.int 0)))) (NK.tB (eOp fNe (eLamT hs_u_law_told (eCall 2 m_first_difference [] (aCons (eVar 1) (aCons (eVar 9) aNil)))) (eTup (aCons (eC .non) (aCons (eTup (aCons (eC (.str "names")) (aCons (eCB fLen (aCons (eVar 9) aNil)) (aCons (eC (.str "length")) aNil)))) aNil)))))) [some (.loc 0), some (patI es), some (.lst (esU es)), some (.lst (nU ns)), some (.lst TH), some (.lst (esU ((rowE es ns).take 38))), some (.lst ((esU ((rowE es ns).take 38)).take a ++ w :: (esU ((rowE es ns).take 38)).drop a)), some (.int (a : Nat)), some (DB i z), some (.lst (esU ((rowE es ns).drop 1))), none, none, none, none, none] (h1 :: st) = Out.ok false (h1 :: st) := by
    have g1 := tB_of (op2 (m2 := eC (.int 0)) (b := .int 0) (f := fGt) l11 rfl rfl)
    by_cases z1 : (0 : Int) < (es.length : Nat)
    · rw [decide_eq_true z1] at g1
      exact tand_t g1 (dbF (told_db (call2 rfl (v_at (i := 1) rfl) (v_at (i := 9) rfl) (fdiff_len (.l _) (by rw [List.length_drop, rowE_len]; omega) (nms_drop nmW 1) (by rw [List.length_drop, rowE_len]; omega)))) d11 (strOk_of _))
    · rw [decide_eq_false z1] at g1
      exact tand_f g1
  have s11 : sIf (NK.tAnd (NK.tB (eOp fGt (eCB fLen (aCons (eVar 2) aNil)) (eC (.int 0)))) (NK.tB (eOp fNe (eLamT hs_u_law_told (eCall 2 m_first_difference [] (aCons (eVar 1) (aCons (eVar 9) aNil)))) (eTup (aCons (eC .non) (aCons (eTup (aCons (eC (.str "names")) (aCons (eCB fLen (aCons (eVar 9) aNil)) (aCons (eC (.str "length")) aNil)))) aNil)))))) (sRet (eC (.bl false))) sNext [some (.loc 0), some (patI es), some (.lst (esU es)), some (.lst (nU ns)), some (.lst TH), some (.lst (esU ((rowE es ns).take 38))), some (.lst ((esU ((rowE es ns).take 38)).take a ++ w :: (esU ((rowE es ns).take 38)).drop a)), some (.int (a : Nat)), some (DB i z), some (.lst (esU ((rowE es ns).drop 1))), none, none, none, none, none] (h1 :: st) = SO.next [some (.loc 0), some (patI es), some (.lst (esU es)), some (.lst (nU ns)), some (.lst TH), some (.lst (esU ((rowE es ns).take 38))), some (.lst ((esU ((rowE es ns).take 38)).take a ++ w :: (esU ((rowE es ns).take 38)).drop a)), some (.int (a : Nat)), some (DB i z), some (.lst (esU ((rowE es ns).drop 1))), none, none, none, none, none] (h1 :: st) := if_f q11 rfl
  have r12 := cut_sc (S := (h1 :: st)) (env := [some (.loc 0), some (patI es), some (.lst (esU es)), some (.lst (nU ns)), some (.lst TH), some (.lst (esU ((rowE es ns).take 38))), some (.lst ((esU ((rowE es ns).take 38)).take a ++ w :: (esU ((rowE es ns).take 38)).drop a)), some (.int (a : Nat)), some (DB i z), some (.lst (esU ((rowE es ns).drop 1))), none, none, none, none, none]) (m := eVar 3) (us := nU ns) (d := 38) (mh := eC (.int 38)) (v_at (i := 3) rfl) rfl (Old.refl _) (by rw [take_nU]; exact nU_und _)
  rw [take_nU ns 38] at r12
  have s12 : sAsg (eScope (eSl (eVar 3) none (some (eC (.int 38))))) (gN 10) [some (.loc 0), some (patI es), some (.lst (esU es)), some (.lst (nU ns)), some (.lst TH), some (.lst (esU ((rowE es ns).take 38))), some (.lst ((esU ((rowE es ns).take 38)).take a ++ w :: (esU ((rowE es ns).take 38)).drop a)), some (.int (a : Nat)), some (DB i z), some (.lst (esU ((rowE es ns).drop 1))), none, none, none, none, none] (h1 :: st) = SO.next [some (.loc 0), some (patI es), some (.lst (esU es)), some (.lst (nU ns)), some (.lst TH), some (.lst (esU ((rowE es ns).take 38))), some (.lst ((esU ((rowE es ns).take 38)).take a ++ w :: (esU ((rowE es ns).take 38)).drop a)), some (.int (a : Nat)), some (DB i z), some (.lst (esU ((rowE es ns).drop 1))), some (.lst (nU (ns.take 38))), none, none, none, none] (h1 :: st) := asg_ok r12
  have p13 : (eScope (eOp fAdd (eVar 4) (eScope (eLst (aCons (eC .non) aNil))))) [some (.loc 0), some (patI es), some (.lst (esU es)), some (.lst (nU ns)), some (.lst TH), some (.lst (esU ((rowE es ns).take 38))), some (.lst ((esU ((rowE es ns).take 38)).take a ++ w :: (esU ((rowE es ns).take 38)).drop a)), some (.int (a : Nat)), some (DB i z), some (.lst (esU ((rowE es ns).drop 1))), some (.lst (nU (ns.take 38))), none, none, none, none] (h1 :: st) = Out.ok (.lst (TH ++ [.non])) (h1 :: st) := add_fr (us := TH) (ws := [.non]) (v_at (i := 4) rfl) (lit1 rfl rfl) rfl (by decide) (underL_app th_und rfl)
  have o13 : (eCall 3 m_u_law_odd [] (aCons (eVar 0) (aCons (eVar 10) (aCons (eScope (eOp fAdd (eVar 4) (eScope (eLst (aCons (eC .non) aNil))))) aNil)))) [some (.loc 0), some (patI es), some (.lst (esU es)), some (.lst (nU ns)), some (.lst TH), some (.lst (esU ((rowE es ns).take 38))), some (.lst ((esU ((rowE es ns).take 38)).take a ++ w :: (esU ((rowE es ns).take 38)).drop a)), some (.int (a : Nat)), some (DB i z), some (.lst (esU ((rowE es ns).drop 1))), some (.lst (nU (ns.take 38))), none, none, none, none] (h1 :: st) = Out.ok (.tup [.lst ((nU (ns.take 38)).take b ++ v :: (nU (ns.take 38)).drop b), .int (b : Nat)]) (h2 :: st) := call3 rfl (v_at (i := 0) rfl) (v_at (i := 10) rfl) p13 kp
  have s13 : sAsg (eCall 3 m_u_law_odd [] (aCons (eVar 0) (aCons (eVar 10) (aCons (eScope (eOp fAdd (eVar 4) (eScope (eLst (aCons (eC .non) aNil))))) aNil)))) (gT [11, 7]) [some (.loc 0), some (patI es), some (.lst (esU es)), some (.lst (nU ns)), some (.lst TH), some (.lst (esU ((rowE es ns).take 38))), some (.lst ((esU ((rowE es ns).take 38)).take a ++ w :: (esU ((rowE es ns).take 38)).drop a)), some (.int (a : Nat)), some (DB i z), some (.lst (esU ((rowE es ns).drop 1))), some (.lst (nU (ns.take 38))), none, none, none, none] (h1 :: st) = SO.next [some (.loc 0), some (patI es), some (.lst (esU es)), some (.lst (nU ns)), some (.lst TH), some (.lst (esU ((rowE es ns).take 38))), some (.lst ((esU ((rowE es ns).take 38)).take a ++ w :: (esU ((rowE es ns).take 38)).drop a)), some (.int (b : Nat)), some (DB i z), some (.lst (esU ((rowE es ns).drop 1))), some (.lst (nU (ns.take 38))), some (.lst ((nU (ns.take 38)).take b ++ v :: (nU (ns.take 38)).drop b)), none, none, none] (h2 :: st) := asgT2 o13
  have v11 : eVar 11 [some (.loc 0), some (patI es), some (.lst (esU es)), some (.lst (nU ns)), some (.lst TH), some (.lst (esU ((rowE es ns).take 38))), some (.lst ((esU ((rowE es ns).take 38)).take a ++ w :: (esU ((rowE es ns).take 38)).drop a)), some (.int (b : Nat)), some (DB i z), some (.lst (esU ((rowE es ns).drop 1))), some (.lst (nU (ns.take 38))), some (.lst ((nU (ns.take 38)).take b ++ v :: (nU (ns.take 38)).drop b)), none, none, none] (h2 :: st) = Out.ok (.lst ((nU (ns.take 38)).take b ++ v :: (nU (ns.take 38)).drop b)) (h2 :: st) := v_at (i := 11) rfl
  have v1c : eVar 1 [some (.loc 0), some (patI es), some (.lst (esU es)), some (.lst (nU ns)), some (.lst TH), some (.lst (esU ((rowE es ns).take 38))), some (.lst ((esU ((rowE es ns).take 38)).take a ++ w :: (esU ((rowE es ns).take 38)).drop a)), some (.int (b : Nat)), some (DB i z), some (.lst (esU ((rowE es ns).drop 1))), some (.lst (nU (ns.take 38))), some (.lst ((nU (ns.take 38)).take b ++ v :: (nU (ns.take 38)).drop b)), none, none, none] (h2 :: st) = Out.ok (patI es) (h2 :: st) := v_at (i := 1) rfl
  have t14 : (eLamT hs_u_law_told (eCall 2 m_names_for [] (aCons (eVar 1) (aCons (eVar 11) aNil)))) [some (.loc 0), some (patI es), some (.lst (esU es)), some (.lst (nU ns)), some (.lst TH), some (.lst (esU ((rowE es ns).take 38))), some (.lst ((esU ((rowE es ns).take 38)).take a ++ w :: (esU ((rowE es ns).take 38)).drop a)), some (.int (b : Nat)), some (DB i z), some (.lst (esU ((rowE es ns).drop 1))), some (.lst (nU (ns.take 38))), some (.lst ((nU (ns.take 38)).take b ++ v :: (nU (ns.take 38)).drop b)), none, none, none] (h2 :: st) = Out.ok (DB ((b : Nat) : Int) "name") (h2 :: st) := told_db (call2 rfl v1c v11 (for_bad (un_odd ndN hbN lb (by omega) (hv (h2 :: st)))))
  have d14 : (eTup (aCons (eC .non) (aCons (eTup (aCons (eC (.str "names")) (aCons (eVar 7) (aCons (eC (.str "name")) aNil)))) aNil))) [some (.loc 0), some (patI es), some (.lst (esU es)), some (.lst (nU ns)), some (.lst TH), some (.lst (esU ((rowE es ns).take 38))), some (.lst ((esU ((rowE es ns).take 38)).take a ++ w :: (esU ((rowE es ns).take 38)).drop a)), some (.int (b : Nat)), some (DB i z), some (.lst (esU ((rowE es ns).drop 1))), some (.lst (nU (ns.take 38))), some (.lst ((nU (ns.take 38)).take b ++ v :: (nU (ns.take 38)).drop b)), none, none, none] (h2 :: st) = Out.ok (DB ((b : Nat) : Int) "name") (h2 :: st) := duet (v_at (i := 7) rfl)
  have s14 : sIf (NK.tB (eOp fNe (eLamT hs_u_law_told (eCall 2 m_names_for [] (aCons (eVar 1) (aCons (eVar 11) aNil)))) (eTup (aCons (eC .non) (aCons (eTup (aCons (eC (.str "names")) (aCons (eVar 7) (aCons (eC (.str "name")) aNil)))) aNil))))) (sRet (eC (.bl false))) sNext [some (.loc 0), some (patI es), some (.lst (esU es)), some (.lst (nU ns)), some (.lst TH), some (.lst (esU ((rowE es ns).take 38))), some (.lst ((esU ((rowE es ns).take 38)).take a ++ w :: (esU ((rowE es ns).take 38)).drop a)), some (.int (b : Nat)), some (DB i z), some (.lst (esU ((rowE es ns).drop 1))), some (.lst (nU (ns.take 38))), some (.lst ((nU (ns.take 38)).take b ++ v :: (nU (ns.take 38)).drop b)), none, none, none] (h2 :: st) = SO.next [some (.loc 0), some (patI es), some (.lst (esU es)), some (.lst (nU ns)), some (.lst TH), some (.lst (esU ((rowE es ns).take 38))), some (.lst ((esU ((rowE es ns).take 38)).take a ++ w :: (esU ((rowE es ns).take 38)).drop a)), some (.int (b : Nat)), some (DB i z), some (.lst (esU ((rowE es ns).drop 1))), some (.lst (nU (ns.take 38))), some (.lst ((nU (ns.take 38)).take b ++ v :: (nU (ns.take 38)).drop b)), none, none, none] (h2 :: st) := dbne t14 d14 (strOk_of _)
  have p15 : (eCall 2 m_u_law_pick [] (aCons (eVar 0) (aCons (eVar 10) aNil))) [some (.loc 0), some (patI es), some (.lst (esU es)), some (.lst (nU ns)), some (.lst TH), some (.lst (esU ((rowE es ns).take 38))), some (.lst ((esU ((rowE es ns).take 38)).take a ++ w :: (esU ((rowE es ns).take 38)).drop a)), some (.int (b : Nat)), some (DB i z), some (.lst (esU ((rowE es ns).drop 1))), some (.lst (nU (ns.take 38))), some (.lst ((nU (ns.take 38)).take b ++ v :: (nU (ns.take 38)).drop b)), none, none, none] (h2 :: st) = Out.ok (.int (x : Nat)) (h3 :: st) := call2 rfl (v_at (i := 0) rfl) (v_at (i := 10) rfl) kx
  have v10 : eVar 10 [some (.loc 0), some (patI es), some (.lst (esU es)), some (.lst (nU ns)), some (.lst TH), some (.lst (esU ((rowE es ns).take 38))), some (.lst ((esU ((rowE es ns).take 38)).take a ++ w :: (esU ((rowE es ns).take 38)).drop a)), some (.int (b : Nat)), some (DB i z), some (.lst (esU ((rowE es ns).drop 1))), some (.lst (nU (ns.take 38))), some (.lst ((nU (ns.take 38)).take b ++ v :: (nU (ns.take 38)).drop b)), none, none, none] (h2 :: st) = Out.ok (.lst (nU (ns.take 38))) (h2 :: st) := v_at (i := 10) rfl
  have q15 : (eScope (eOp fAdd (eVar 10) (eScope (eLst (aCons (eCall 2 m_u_law_pick [] (aCons (eVar 0) (aCons (eVar 10) aNil))) aNil))))) [some (.loc 0), some (patI es), some (.lst (esU es)), some (.lst (nU ns)), some (.lst TH), some (.lst (esU ((rowE es ns).take 38))), some (.lst ((esU ((rowE es ns).take 38)).take a ++ w :: (esU ((rowE es ns).take 38)).drop a)), some (.int (b : Nat)), some (DB i z), some (.lst (esU ((rowE es ns).drop 1))), some (.lst (nU (ns.take 38))), some (.lst ((nU (ns.take 38)).take b ++ v :: (nU (ns.take 38)).drop b)), none, none, none] (h2 :: st) = Out.ok (.lst (nU (ns.take 38) ++ [.int (x : Nat)])) (h3 :: st) := add_to v10 (lit_drw (ac1 p15) (Old.hand H3.under) (by show 1 ≤ 1000; decide) rfl) (Old.hand H3.under) (by rw [nU_len, List.length_singleton]; omega) (underL_app (nU_und _) rfl)
  have s15 : sAsg (eScope (eOp fAdd (eVar 10) (eScope (eLst (aCons (eCall 2 m_u_law_pick [] (aCons (eVar 0) (aCons (eVar 10) aNil))) aNil))))) (gN 12) [some (.loc 0), some (patI es), some (.lst (esU es)), some (.lst (nU ns)), some (.lst TH), some (.lst (esU ((rowE es ns).take 38))), some (.lst ((esU ((rowE es ns).take 38)).take a ++ w :: (esU ((rowE es ns).take 38)).drop a)), some (.int (b : Nat)), some (DB i z), some (.lst (esU ((rowE es ns).drop 1))), some (.lst (nU (ns.take 38))), some (.lst ((nU (ns.take 38)).take b ++ v :: (nU (ns.take 38)).drop b)), none, none, none] (h2 :: st) = SO.next [some (.loc 0), some (patI es), some (.lst (esU es)), some (.lst (nU ns)), some (.lst TH), some (.lst (esU ((rowE es ns).take 38))), some (.lst ((esU ((rowE es ns).take 38)).take a ++ w :: (esU ((rowE es ns).take 38)).drop a)), some (.int (b : Nat)), some (DB i z), some (.lst (esU ((rowE es ns).drop 1))), some (.lst (nU (ns.take 38))), some (.lst ((nU (ns.take 38)).take b ++ v :: (nU (ns.take 38)).drop b)), some (.lst (nU (ns.take 38) ++ [.int (x : Nat)])), none, none] (h3 :: st) := asg_ok q15
  have v12 : eVar 12 [some (.loc 0), some (patI es), some (.lst (esU es)), some (.lst (nU ns)), some (.lst TH), some (.lst (esU ((rowE es ns).take 38))), some (.lst ((esU ((rowE es ns).take 38)).take a ++ w :: (esU ((rowE es ns).take 38)).drop a)), some (.int (b : Nat)), some (DB i z), some (.lst (esU ((rowE es ns).drop 1))), some (.lst (nU (ns.take 38))), some (.lst ((nU (ns.take 38)).take b ++ v :: (nU (ns.take 38)).drop b)), some (.lst (nU (ns.take 38) ++ [.int (x : Nat)])), none, none] (h3 :: st) = Out.ok (.lst (nU (ns.take 38) ++ [.int (x : Nat)])) (h3 :: st) := v_at (i := 12) rfl
  have v1d : eVar 1 [some (.loc 0), some (patI es), some (.lst (esU es)), some (.lst (nU ns)), some (.lst TH), some (.lst (esU ((rowE es ns).take 38))), some (.lst ((esU ((rowE es ns).take 38)).take a ++ w :: (esU ((rowE es ns).take 38)).drop a)), some (.int (b : Nat)), some (DB i z), some (.lst (esU ((rowE es ns).drop 1))), some (.lst (nU (ns.take 38))), some (.lst ((nU (ns.take 38)).take b ++ v :: (nU (ns.take 38)).drop b)), some (.lst (nU (ns.take 38) ++ [.int (x : Nat)])), none, none] (h3 :: st) = Out.ok (patI es) (h3 :: st) := v_at (i := 1) rfl
  have n16 : (eCB fLen (aCons (eVar 10) aNil)) [some (.loc 0), some (patI es), some (.lst (esU es)), some (.lst (nU ns)), some (.lst TH), some (.lst (esU ((rowE es ns).take 38))), some (.lst ((esU ((rowE es ns).take 38)).take a ++ w :: (esU ((rowE es ns).take 38)).drop a)), some (.int (b : Nat)), some (DB i z), some (.lst (esU ((rowE es ns).drop 1))), some (.lst (nU (ns.take 38))), some (.lst ((nU (ns.take 38)).take b ++ v :: (nU (ns.take 38)).drop b)), some (.lst (nU (ns.take 38) ++ [.int (x : Nat)])), none, none] (h3 :: st) = Out.ok (.int ((ns.take 38).length : Nat)) (h3 :: st) := nlen rfl
  have t16 : (eLamT hs_u_law_told (eCall 2 m_names_for [] (aCons (eVar 1) (aCons (eVar 12) aNil)))) [some (.loc 0), some (patI es), some (.lst (esU es)), some (.lst (nU ns)), some (.lst TH), some (.lst (esU ((rowE es ns).take 38))), some (.lst ((esU ((rowE es ns).take 38)).take a ++ w :: (esU ((rowE es ns).take 38)).drop a)), some (.int (b : Nat)), some (DB i z), some (.lst (esU ((rowE es ns).drop 1))), some (.lst (nU (ns.take 38))), some (.lst ((nU (ns.take 38)).take b ++ v :: (nU (ns.take 38)).drop b)), some (.lst (nU (ns.take 38) ++ [.int (x : Nat)])), none, none] (h3 :: st) = Out.ok (DB ((ns.take 38).length : Nat) "double") (h3 :: st) := told_db (call2 rfl v1d v12 (for_bad (un_double ndN hbN (by omega) hx)))
  have d16 : (eTup (aCons (eC .non) (aCons (eTup (aCons (eC (.str "names")) (aCons (eCB fLen (aCons (eVar 10) aNil)) (aCons (eC (.str "double")) aNil)))) aNil))) [some (.loc 0), some (patI es), some (.lst (esU es)), some (.lst (nU ns)), some (.lst TH), some (.lst (esU ((rowE es ns).take 38))), some (.lst ((esU ((rowE es ns).take 38)).take a ++ w :: (esU ((rowE es ns).take 38)).drop a)), some (.int (b : Nat)), some (DB i z), some (.lst (esU ((rowE es ns).drop 1))), some (.lst (nU (ns.take 38))), some (.lst ((nU (ns.take 38)).take b ++ v :: (nU (ns.take 38)).drop b)), some (.lst (nU (ns.take 38) ++ [.int (x : Nat)])), none, none] (h3 :: st) = Out.ok (DB ((ns.take 38).length : Nat) "double") (h3 :: st) := duet n16
  have s16 : sIf (NK.tB (eOp fNe (eLamT hs_u_law_told (eCall 2 m_names_for [] (aCons (eVar 1) (aCons (eVar 12) aNil)))) (eTup (aCons (eC .non) (aCons (eTup (aCons (eC (.str "names")) (aCons (eCB fLen (aCons (eVar 10) aNil)) (aCons (eC (.str "double")) aNil)))) aNil))))) (sRet (eC (.bl false))) sNext [some (.loc 0), some (patI es), some (.lst (esU es)), some (.lst (nU ns)), some (.lst TH), some (.lst (esU ((rowE es ns).take 38))), some (.lst ((esU ((rowE es ns).take 38)).take a ++ w :: (esU ((rowE es ns).take 38)).drop a)), some (.int (b : Nat)), some (DB i z), some (.lst (esU ((rowE es ns).drop 1))), some (.lst (nU (ns.take 38))), some (.lst ((nU (ns.take 38)).take b ++ v :: (nU (ns.take 38)).drop b)), some (.lst (nU (ns.take 38) ++ [.int (x : Nat)])), none, none] (h3 :: st) = SO.next [some (.loc 0), some (patI es), some (.lst (esU es)), some (.lst (nU ns)), some (.lst TH), some (.lst (esU ((rowE es ns).take 38))), some (.lst ((esU ((rowE es ns).take 38)).take a ++ w :: (esU ((rowE es ns).take 38)).drop a)), some (.int (b : Nat)), some (DB i z), some (.lst (esU ((rowE es ns).drop 1))), some (.lst (nU (ns.take 38))), some (.lst ((nU (ns.take 38)).take b ++ v :: (nU (ns.take 38)).drop b)), some (.lst (nU (ns.take 38) ++ [.int (x : Nat)])), none, none] (h3 :: st) := dbne t16 d16 (strOk_of _)
  have c17 : eCall 1 m_u_law_count [] (aCons (eVar 2) aNil) [some (.loc 0), some (patI es), some (.lst (esU es)), some (.lst (nU ns)), some (.lst TH), some (.lst (esU ((rowE es ns).take 38))), some (.lst ((esU ((rowE es ns).take 38)).take a ++ w :: (esU ((rowE es ns).take 38)).drop a)), some (.int (b : Nat)), some (DB i z), some (.lst (esU ((rowE es ns).drop 1))), some (.lst (nU (ns.take 38))), some (.lst ((nU (ns.take 38)).take b ++ v :: (nU (ns.take 38)).drop b)), some (.lst (nU (ns.take 38) ++ [.int (x : Nat)])), none, none] (h3 :: st) = Out.ok (.int (run 0 es : Nat)) (h3 :: st) := call1 rfl (v_at (i := 2) rfl) (lcount_ok c (by omega))
  have r17 := cut_sc (us := nU ns) (m := eVar 3) (v_at (i := 3) rfl) (max_at c17) (Old.refl _) (by rw [take_nU]; exact nU_und _)
  rw [take_nU ns (run 0 es - 1)] at r17
  have s17 : sAsg (eScope (eSl (eVar 3) none (some (eCB fMax2 (aCons (eC (.int 0)) (aCons (eOp fSub (eCall 1 m_u_law_count [] (aCons (eVar 2) aNil)) (eC (.int 1))) aNil)))))) (gN 13) [some (.loc 0), some (patI es), some (.lst (esU es)), some (.lst (nU ns)), some (.lst TH), some (.lst (esU ((rowE es ns).take 38))), some (.lst ((esU ((rowE es ns).take 38)).take a ++ w :: (esU ((rowE es ns).take 38)).drop a)), some (.int (b : Nat)), some (DB i z), some (.lst (esU ((rowE es ns).drop 1))), some (.lst (nU (ns.take 38))), some (.lst ((nU (ns.take 38)).take b ++ v :: (nU (ns.take 38)).drop b)), some (.lst (nU (ns.take 38) ++ [.int (x : Nat)])), none, none] (h3 :: st) = SO.next [some (.loc 0), some (patI es), some (.lst (esU es)), some (.lst (nU ns)), some (.lst TH), some (.lst (esU ((rowE es ns).take 38))), some (.lst ((esU ((rowE es ns).take 38)).take a ++ w :: (esU ((rowE es ns).take 38)).drop a)), some (.int (b : Nat)), some (DB i z), some (.lst (esU ((rowE es ns).drop 1))), some (.lst (nU (ns.take 38))), some (.lst ((nU (ns.take 38)).take b ++ v :: (nU (ns.take 38)).drop b)), some (.lst (nU (ns.take 38) ++ [.int (x : Nat)])), some (.lst (nU (ns.take (run 0 es - 1)))), none] (h3 :: st) := asg_ok r17
  have c18 : eCall 1 m_u_law_count [] (aCons (eVar 2) aNil) [some (.loc 0), some (patI es), some (.lst (esU es)), some (.lst (nU ns)), some (.lst TH), some (.lst (esU ((rowE es ns).take 38))), some (.lst ((esU ((rowE es ns).take 38)).take a ++ w :: (esU ((rowE es ns).take 38)).drop a)), some (.int (b : Nat)), some (DB i z), some (.lst (esU ((rowE es ns).drop 1))), some (.lst (nU (ns.take 38))), some (.lst ((nU (ns.take 38)).take b ++ v :: (nU (ns.take 38)).drop b)), some (.lst (nU (ns.take 38) ++ [.int (x : Nat)])), some (.lst (nU (ns.take (run 0 es - 1)))), none] (h3 :: st) = Out.ok (.int (run 0 es : Nat)) (h3 :: st) := call1 rfl (v_at (i := 2) rfl) (lcount_ok c (by omega))
  have n18 : (eCB fLen (aCons (eVar 13) aNil)) [some (.loc 0), some (patI es), some (.lst (esU es)), some (.lst (nU ns)), some (.lst TH), some (.lst (esU ((rowE es ns).take 38))), some (.lst ((esU ((rowE es ns).take 38)).take a ++ w :: (esU ((rowE es ns).take 38)).drop a)), some (.int (b : Nat)), some (DB i z), some (.lst (esU ((rowE es ns).drop 1))), some (.lst (nU (ns.take 38))), some (.lst ((nU (ns.take 38)).take b ++ v :: (nU (ns.take 38)).drop b)), some (.lst (nU (ns.take 38) ++ [.int (x : Nat)])), some (.lst (nU (ns.take (run 0 es - 1)))), none] (h3 :: st) = Out.ok (.int ((ns.take (run 0 es - 1)).length : Nat)) (h3 :: st) := nlen rfl
  have d18 : (eTup (aCons (eC .non) (aCons (eTup (aCons (eC (.str "names")) (aCons (eCB fLen (aCons (eVar 13) aNil)) (aCons (eC (.str "few")) aNil)))) aNil))) [some (.loc 0), some (patI es), some (.lst (esU es)), some (.lst (nU ns)), some (.lst TH), some (.lst (esU ((rowE es ns).take 38))), some (.lst ((esU ((rowE es ns).take 38)).take a ++ w :: (esU ((rowE es ns).take 38)).drop a)), some (.int (b : Nat)), some (DB i z), some (.lst (esU ((rowE es ns).drop 1))), some (.lst (nU (ns.take 38))), some (.lst ((nU (ns.take 38)).take b ++ v :: (nU (ns.take 38)).drop b)), some (.lst (nU (ns.take 38) ++ [.int (x : Nat)])), some (.lst (nU (ns.take (run 0 es - 1)))), none] (h3 :: st) = Out.ok (DB ((ns.take (run 0 es - 1)).length : Nat) "few") (h3 :: st) := duet n18
  have tu18 : (eCB fTuple (aCons (eVar 2) aNil)) [some (.loc 0), some (patI es), some (.lst (esU es)), some (.lst (nU ns)), some (.lst TH), some (.lst (esU ((rowE es ns).take 38))), some (.lst ((esU ((rowE es ns).take 38)).take a ++ w :: (esU ((rowE es ns).take 38)).drop a)), some (.int (b : Nat)), some (DB i z), some (.lst (esU ((rowE es ns).drop 1))), some (.lst (nU (ns.take 38))), some (.lst ((nU (ns.take 38)).take b ++ v :: (nU (ns.take 38)).drop b)), some (.lst (nU (ns.take 38) ++ [.int (x : Nat)])), some (.lst (nU (ns.take (run 0 es - 1)))), none] (h3 :: st) = Out.ok (.tup (esU es)) (h3 :: st) := cb1 (S1 := h3 :: st) (a := .lst (esU es)) (v_at (i := 2) rfl) rfl
  have b18 : (eTup (aCons (eCB fTuple (aCons (eVar 2) aNil)) (aCons (eC .non) aNil))) [some (.loc 0), some (patI es), some (.lst (esU es)), some (.lst (nU ns)), some (.lst TH), some (.lst (esU ((rowE es ns).take 38))), some (.lst ((esU ((rowE es ns).take 38)).take a ++ w :: (esU ((rowE es ns).take 38)).drop a)), some (.int (b : Nat)), some (DB i z), some (.lst (esU ((rowE es ns).drop 1))), some (.lst (nU (ns.take 38))), some (.lst ((nU (ns.take 38)).take b ++ v :: (nU (ns.take 38)).drop b)), some (.lst (nU (ns.take 38) ++ [.int (x : Nat)])), some (.lst (nU (ns.take (run 0 es - 1)))), none] (h3 :: st) = Out.ok (.tup [.tup (esU es), .non]) (h3 :: st) := tup2 tu18 rfl
  have q18 : (eIf (NK.tB (eOp fGt (eCall 1 m_u_law_count [] (aCons (eVar 2) aNil)) (eC (.int 0)))) (eTup (aCons (eC .non) (aCons (eTup (aCons (eC (.str "names")) (aCons (eCB fLen (aCons (eVar 13) aNil)) (aCons (eC (.str "few")) aNil)))) aNil))) (eTup (aCons (eCB fTuple (aCons (eVar 2) aNil)) (aCons (eC .non) aNil)))) [some (.loc 0), some (patI es), some (.lst (esU es)), some (.lst (nU ns)), some (.lst TH), some (.lst (esU ((rowE es ns).take 38))), some (.lst ((esU ((rowE es ns).take 38)).take a ++ w :: (esU ((rowE es ns).take 38)).drop a)), some (.int (b : Nat)), some (DB i z), some (.lst (esU ((rowE es ns).drop 1))), some (.lst (nU (ns.take 38))), some (.lst ((nU (ns.take 38)).take b ++ v :: (nU (ns.take 38)).drop b)), some (.lst (nU (ns.take 38) ++ [.int (x : Nat)])), some (.lst (nU (ns.take (run 0 es - 1)))), none] (h3 :: st) = Out.ok (D14 es) (h3 :: st) := by
    have g1 := tB_of (op2 (m2 := eC (.int 0)) (b := .int 0) (f := fGt) c18 rfl rfl)
    by_cases z1 : (0 : Int) < (run 0 es : Nat)
    · rw [decide_eq_true z1] at g1
      rw [eif_at g1, if_pos rfl, d18, List.length_take, Nat.min_eq_left (by omega)]
      unfold D14
      rw [if_pos (by omega)]
    · rw [decide_eq_false z1] at g1
      rw [eif_at g1, if_neg Bool.false_ne_true, b18]
      unfold D14
      rw [if_neg (by omega)]
  have s18 : sAsg (eIf (NK.tB (eOp fGt (eCall 1 m_u_law_count [] (aCons (eVar 2) aNil)) (eC (.int 0)))) (eTup (aCons (eC .non) (aCons (eTup (aCons (eC (.str "names")) (aCons (eCB fLen (aCons (eVar 13) aNil)) (aCons (eC (.str "few")) aNil)))) aNil))) (eTup (aCons (eCB fTuple (aCons (eVar 2) aNil)) (aCons (eC .non) aNil)))) (gN 14) [some (.loc 0), some (patI es), some (.lst (esU es)), some (.lst (nU ns)), some (.lst TH), some (.lst (esU ((rowE es ns).take 38))), some (.lst ((esU ((rowE es ns).take 38)).take a ++ w :: (esU ((rowE es ns).take 38)).drop a)), some (.int (b : Nat)), some (DB i z), some (.lst (esU ((rowE es ns).drop 1))), some (.lst (nU (ns.take 38))), some (.lst ((nU (ns.take 38)).take b ++ v :: (nU (ns.take 38)).drop b)), some (.lst (nU (ns.take 38) ++ [.int (x : Nat)])), some (.lst (nU (ns.take (run 0 es - 1)))), none] (h3 :: st) = SO.next [some (.loc 0), some (patI es), some (.lst (esU es)), some (.lst (nU ns)), some (.lst TH), some (.lst (esU ((rowE es ns).take 38))), some (.lst ((esU ((rowE es ns).take 38)).take a ++ w :: (esU ((rowE es ns).take 38)).drop a)), some (.int (b : Nat)), some (DB i z), some (.lst (esU ((rowE es ns).drop 1))), some (.lst (nU (ns.take 38))), some (.lst ((nU (ns.take 38)).take b ++ v :: (nU (ns.take 38)).drop b)), some (.lst (nU (ns.take 38) ++ [.int (x : Nat)])), some (.lst (nU (ns.take (run 0 es - 1)))), some (D14 es)] (h3 :: st) := asg_ok q18
  have q19 : (eOp fEq (eLamT hs_u_law_told (eCall 2 m_names_for [] (aCons (eVar 1) (aCons (eVar 13) aNil)))) (eVar 14)) [some (.loc 0), some (patI es), some (.lst (esU es)), some (.lst (nU ns)), some (.lst TH), some (.lst (esU ((rowE es ns).take 38))), some (.lst ((esU ((rowE es ns).take 38)).take a ++ w :: (esU ((rowE es ns).take 38)).drop a)), some (.int (b : Nat)), some (DB i z), some (.lst (esU ((rowE es ns).drop 1))), some (.lst (nU (ns.take 38))), some (.lst ((nU (ns.take 38)).take b ++ v :: (nU (ns.take 38)).drop b)), some (.lst (nU (ns.take 38) ++ [.int (x : Nat)])), some (.lst (nU (ns.take (run 0 es - 1)))), some (D14 es)] (h3 :: st) = Out.ok (.bl true) (h3 :: st) := by
    refine op2 (S1 := h3 :: st) (S2 := h3 :: st) (a := D14 es) (b := D14 es) ?_ (v_at (i := 14) rfl) (eq_same (d14_ok es))
    by_cases z1 : 0 < run 0 es
    · have e : D14 es = DB ((ns.take (run 0 es - 1)).length : Nat) "few" := by
        unfold D14
        rw [if_pos z1, List.length_take, Nat.min_eq_left (by omega)]
      rw [e]
      exact told_db (call2 rfl (v_at (i := 1) rfl) (v_at (i := 13) rfl) (for_few c (by omega) (nd.sublist (List.take_sublist _ _)) (fun n hn => hb n (List.mem_of_mem_take hn)) (by rw [List.length_take]; omega) (by rw [List.length_take]; omega)))
    · have e : D14 es = .tup [.tup (esU es), .non] := by
        unfold D14
        rw [if_neg z1]
      rw [e]
      have f := for_ok (S := h3 :: st) (es := es) (ns := ns.take (run 0 es - 1)) c (by omega) (nd.sublist (List.take_sublist _ _)) (fun n hn => hb n (List.mem_of_mem_take hn)) (by rw [List.length_take]; omega) (by omega)
      rw [row_none c (by omega)] at f
      exact told_ok (call2 rfl (v_at (i := 1) rfl) (v_at (i := 13) rfl) f)
  refine ⟨h3, H3, fs_val (n := 15) (mb := b_u_law_odd_right) (env := [some (.loc 0), some (patI es), some (.lst (esU es)), some (.lst (nU ns)), none, none, none, none, none, none, none, none, none, none, none]) (st2 := h3 :: st) (ext := []) rfl ?_ (Old.hand H3.under) rfl⟩
  rw [List.append_nil]
  unfold b_u_law_odd_right
  exact seq_n s0 (seq_n s1 (seq_n s2 (seq_n s3 (seq_n s4 (seq_n s5 (seq_n s6 (seq_n s7 (seq_n s8 (seq_n s9 (seq_n s10 (seq_n s11 (seq_n s12 (seq_n s13 (seq_n s14 (seq_n s15 (seq_n s16 (seq_n s17 (seq_n s18 (ret_ok q19)))))))))))))))))))
end
end G

namespace G
open PySem L2 NK
theorem row_take {es : Ent} {ns : List Nat} {k : Nat} (c : Can es) (h : run 0 es ≤ k) (hk : k ≤ ns.length) : rowE es (ns.take k) = rowE es ns := by
  unfold rowE
  refine List.map_congr_left fun o ho => ?_
  cases o with
  | none => rfl
  | some j =>
    have lj := run_lt es 0 j c ho
    show some ((ns.take k).getD j 0) = some (ns.getD j 0)
    rw [List.getD_eq_getElem?_getD, List.getD_eq_getElem?_getD, List.getElem?_take, if_pos (by omega)]
theorem te_ok (es : Ent) : okU 12 (.tup (esU es)) = true := by
  show (esU es).all (okU 11) = true
  rw [List.all_eq_true]
  intro u hu
  obtain ⟨o, _, rfl⟩ := List.mem_map.mp hu
  cases o <;> rfl
theorem nu_ok (ns : List Nat) : okU 12 (.lst (nU ns)) = true := by
  show (nU ns).all (okU 11) = true
  rw [List.all_eq_true]
  intro u hu
  obtain ⟨o, _, rfl⟩ := List.mem_map.mp hu
  rfl
def prU (p : Ent × Ent) : U := .tup [.lst (esU p.1), .lst (esU p.2)]
theorem prs_und (ps : List (Ent × Ent)) : U.underL 0 (ps.map prU) = true := underL_all fun u hu => by
  obtain ⟨p, _, rfl⟩ := List.mem_map.mp hu
  unfold prU
  simp only [U.under, U.underL, esU_und, Bool.and_self]
def Gw (O : Ent) : Prop := O.length ≤ 40 ∧ Nms O
section
variable {S S1 : Sto} {env : NK.Env}
theorem call3m {k : Nat} {mf : MF} {a b c : ME} {x y z : U} {r : Out U} (hk : k = 3) (ha : a env S = Out.ok x S) (hb : b env S = Out.ok y S) (hc : c env S = Out.ok z S1) (h : mf [x, y, z] S1 = r) : eCall k mf [] (aCons a (aCons b (aCons c aNil))) env S = r := by
  subst hk
  simp only [eCall, aCons, aNil, ha, hb, hc, ob, List.append_nil]
  exact (if_pos rfl).trans h
theorem and_to {a b : ME} (h1 : a env S = Out.ok (.bl true) S1) (h2 : b env S1 = Out.ok (.bl true) S1) : eAnd a b env S = Out.ok (.bl true) S1 := by
  unfold eAnd
  rw [h1, ob]
  exact h2
theorem law_loop {e0 e1 e2 e3 e4 e5 e6 e7 e8 e9 e10 e11 e12 e13 e14 : Option U} : ∀ (ps : List (Ent × Ent)) (e15 : Option U), (∀ p ∈ ps, Gw p.1 ∧ Gw p.2) → ∃ e15', NK.forM (fun _ => True) (gN 15) l_law_1 (ps.map prU) [e0, e1, e2, e3, e4, e5, e6, e7, e8, e9, e10, e11, e12, e13, e14, e15] S = SO.next [e0, e1, e2, e3, e4, e5, e6, e7, e8, e9, e10, e11, e12, e13, e14, e15'] S
  | [], e15, _ => ⟨e15, forM_nil True.intro⟩
  | p :: ps, e15, hp => by
    obtain ⟨e15', ih⟩ := law_loop (e0 := e0) (e1 := e1) (e2 := e2) (e3 := e3) (e4 := e4) (e5 := e5) (e6 := e6) (e7 := e7) (e8 := e8) (e9 := e9) (e10 := e10) (e11 := e11) (e12 := e12) (e13 := e13) (e14 := e14) ps (some (prU p)) (fun q hq => hp q (List.mem_cons_of_mem _ hq))
    obtain ⟨g1, g2⟩ := hp p List.mem_cons_self
    refine ⟨e15', (forM_n True.intro rfl ?_).trans ih⟩
    show l_law_1 [e0, e1, e2, e3, e4, e5, e6, e7, e8, e9, e10, e11, e12, e13, e14, some (prU p)] S = SO.next [e0, e1, e2, e3, e4, e5, e6, e7, e8, e9, e10, e11, e12, e13, e14, some (prU p)] S
    have i0 : eOp fIx (eVar 15) (eC (.int 0)) [e0, e1, e2, e3, e4, e5, e6, e7, e8, e9, e10, e11, e12, e13, e14, some (prU p)] S = Out.ok (.lst (esU p.1)) S := ixA (us := [.lst (esU p.1), .lst (esU p.2)]) (v_at (i := 15) rfl) rfl (i := 0) rfl rfl
    have i1 : eOp fIx (eVar 15) (eC (.int 1)) [e0, e1, e2, e3, e4, e5, e6, e7, e8, e9, e10, e11, e12, e13, e14, some (prU p)] S = Out.ok (.lst (esU p.2)) S := ixA (us := [.lst (esU p.1), .lst (esU p.2)]) (v_at (i := 15) rfl) rfl (i := 1) rfl rfl
    unfold l_law_1
    exact if_f (notK (b := true) (truK (call2 rfl i0 i1 (rr_ok g1.1 g2.1 g1.2 g2.2)))) rfl
end
theorem law_true (ns : List Int) (hl : ns.length ≤ 63) : m_law [.scr (ns.map U.int)] [] = .ok (.bl true) [] := by
  obtain ⟨h0, H0, k0⟩ := hand_ok ns hl
  obtain ⟨n, h1, H1, l1, k1⟩ := size_ok (st := []) H0
  obtain ⟨c0, h2, H2, _, k2⟩ := draw_at (st := []) (env := [some (.scr (ns.map U.int)), some (.loc 0), some (.int (n : Nat)), none, none, none, none, none, none, none, none, none, none, none, none, none]) (j := 1) (k := 2) H1 rfl (by decide) (by decide)
  obtain ⟨es, h3, H3, ce, le, k3⟩ := entries_ok (st := []) (n := n) (g := decide (((c0 : Nat) : Int) = 0)) H2 l1
  obtain ⟨P, h4, H4, lP, ndP, bP, k4⟩ := pool_ok (st := []) H3
  obtain ⟨Q, h5, H5, lQ, ndQ, bQ, k5⟩ := pool_ok (st := []) H4
  have rl := run_le_len es 0
  have rP : run 0 es ≤ P.length := by omega
  have rQ : run 0 es ≤ Q.length := by omega
  have nmP : Nms (rowE es P) := nms_row ce rP bP
  have nmQ : Nms (rowE es Q) := nms_row ce rQ bQ
  have v0 : eVar 0 [some (.scr (ns.map U.int)), none, none, none, none, none, none, none, none, none, none, none, none, none, none, none] [] = Out.ok (.scr (ns.map U.int)) [] := v_at (i := 0) rfl
  have s0 : sAsg (eCall 1 m_u_law_hand [] (aCons (eVar 0) aNil)) (gN 1) [some (.scr (ns.map U.int)), none, none, none, none, none, none, none, none, none, none, none, none, none, none, none] [] = SO.next [some (.scr (ns.map U.int)), some (.loc 0), none, none, none, none, none, none, none, none, none, none, none, none, none, none] [h0] := asg_ok (call1 rfl v0 k0)
  have v1 : eVar 1 [some (.scr (ns.map U.int)), some (.loc 0), none, none, none, none, none, none, none, none, none, none, none, none, none, none] [h0] = Out.ok (.loc 0) [h0] := v_at (i := 1) rfl
  have s1 : sAsg (eCall 1 m_u_law_size [] (aCons (eVar 1) aNil)) (gN 2) [some (.scr (ns.map U.int)), some (.loc 0), none, none, none, none, none, none, none, none, none, none, none, none, none, none] [h0] = SO.next [some (.scr (ns.map U.int)), some (.loc 0), some (.int (n : Nat)), none, none, none, none, none, none, none, none, none, none, none, none, none] [h1] := asg_ok (call1 rfl v1 k1)
  have e2 : (eOp fEq (eCall 2 m_u_law_draw [] (aCons (eVar 1) (aCons (eC (.int 2)) aNil))) (eC (.int 0))) [some (.scr (ns.map U.int)), some (.loc 0), some (.int (n : Nat)), none, none, none, none, none, none, none, none, none, none, none, none, none] [h1] = Out.ok (.bl (decide (((c0 : Nat) : Int) = 0))) [h2] := op2 (b := .int 0) k2 rfl fEq_int
  have c2 : (eCall 3 m_u_law_entries [] (aCons (eVar 1) (aCons (eVar 2) (aCons (eOp fEq (eCall 2 m_u_law_draw [] (aCons (eVar 1) (aCons (eC (.int 2)) aNil))) (eC (.int 0))) aNil)))) [some (.scr (ns.map U.int)), some (.loc 0), some (.int (n : Nat)), none, none, none, none, none, none, none, none, none, none, none, none, none] [h1] = Out.ok (.lst (esU es)) [h3] := call3m rfl (v_at (i := 1) rfl) (v_at (i := 2) rfl) e2 k3
  have s2 : sAsg (eCall 3 m_u_law_entries [] (aCons (eVar 1) (aCons (eVar 2) (aCons (eOp fEq (eCall 2 m_u_law_draw [] (aCons (eVar 1) (aCons (eC (.int 2)) aNil))) (eC (.int 0))) aNil)))) (gN 3) [some (.scr (ns.map U.int)), some (.loc 0), some (.int (n : Nat)), none, none, none, none, none, none, none, none, none, none, none, none, none] [h1] = SO.next [some (.scr (ns.map U.int)), some (.loc 0), some (.int (n : Nat)), some (.lst (esU es)), none, none, none, none, none, none, none, none, none, none, none, none] [h3] := asg_ok c2
  have p3 : (eScope (eMake 5 2 m_Pattern___init [] (aCons (eVar 3) aNil))) [some (.scr (ns.map U.int)), some (.loc 0), some (.int (n : Nat)), some (.lst (esU es)), none, none, none, none, none, none, none, none, none, none, none, none] [h3] = Out.ok (patI es) [h3] := make_at (.l es) ce (by omega) (v_at (i := 3) rfl)
  have p4 : (eCall 2 m_u_law_pool [] (aCons (eVar 1) (aCons (eC (.int 40)) aNil))) [some (.scr (ns.map U.int)), some (.loc 0), some (.int (n : Nat)), some (.lst (esU es)), none, none, none, none, none, none, none, none, none, none, none, none] [h3] = Out.ok (.lst (nU P)) [h4] := call2 (y := .int 40) rfl (v_at (i := 1) rfl) rfl k4
  have p5 : (eCall 2 m_u_law_pool [] (aCons (eVar 1) (aCons (eC (.int 40)) aNil))) [some (.scr (ns.map U.int)), some (.loc 0), some (.int (n : Nat)), some (.lst (esU es)), none, none, none, none, none, none, none, none, none, none, none, none] [h4] = Out.ok (.lst (nU Q)) [h5] := call2 (y := .int 40) rfl (v_at (i := 1) rfl) rfl k5
  have p6 := ac1 p5
  have p7 := acN p4 p6
  have p8 := acN p3 p7
  have s3 : sPar3 4 5 6 (aCons (eScope (eMake 5 2 m_Pattern___init [] (aCons (eVar 3) aNil))) (aCons (eCall 2 m_u_law_pool [] (aCons (eVar 1) (aCons (eC (.int 40)) aNil))) (aCons (eCall 2 m_u_law_pool [] (aCons (eVar 1) (aCons (eC (.int 40)) aNil))) aNil))) [some (.scr (ns.map U.int)), some (.loc 0), some (.int (n : Nat)), some (.lst (esU es)), none, none, none, none, none, none, none, none, none, none, none, none] [h3] = SO.next [some (.scr (ns.map U.int)), some (.loc 0), some (.int (n : Nat)), some (.lst (esU es)), some (patI es), some (.lst (nU P)), some (.lst (nU Q)), none, none, none, none, none, none, none, none, none] [h5] := par3_ok p8
  have c4 : (eCall 2 m_u_law_row [] (aCons (eVar 3) (aCons (eVar 5) aNil))) [some (.scr (ns.map U.int)), some (.loc 0), some (.int (n : Nat)), some (.lst (esU es)), some (patI es), some (.lst (nU P)), some (.lst (nU Q)), none, none, none, none, none, none, none, none, none] [h5] = Out.ok (.lst (esU (rowE es P))) [h5] := call2 rfl (v_at (i := 3) rfl) (v_at (i := 5) rfl) (row_ok ce (by omega) rP)
  have s4 : sAsg (eCall 2 m_u_law_row [] (aCons (eVar 3) (aCons (eVar 5) aNil))) (gN 7) [some (.scr (ns.map U.int)), some (.loc 0), some (.int (n : Nat)), some (.lst (esU es)), some (patI es), some (.lst (nU P)), some (.lst (nU Q)), none, none, none, none, none, none, none, none, none] [h5] = SO.next [some (.scr (ns.map U.int)), some (.loc 0), some (.int (n : Nat)), some (.lst (esU es)), some (patI es), some (.lst (nU P)), some (.lst (nU Q)), some (.lst (esU (rowE es P))), none, none, none, none, none, none, none, none] [h5] := asg_ok c4
  have n5 : eCall 1 m_u_law_count [] (aCons (eVar 3) aNil) [some (.scr (ns.map U.int)), some (.loc 0), some (.int (n : Nat)), some (.lst (esU es)), some (patI es), some (.lst (nU P)), some (.lst (nU Q)), some (.lst (esU (rowE es P))), none, none, none, none, none, none, none, none] [h5] = Out.ok (.int (run 0 es : Nat)) [h5] := call1 rfl (v_at (i := 3) rfl) (lcount_ok ce (by omega))
  have m5 : (eOp fSub (eC (.int 41)) (eCall 1 m_u_law_count [] (aCons (eVar 3) aNil))) [some (.scr (ns.map U.int)), some (.loc 0), some (.int (n : Nat)), some (.lst (esU es)), some (patI es), some (.lst (nU P)), some (.lst (nU Q)), some (.lst (esU (rowE es P))), none, none, none, none, none, none, none, none] [h5] = Out.ok (.int ((41 - run 0 es : Nat) : Int)) [h5] := op2 (a := .int 41) rfl n5 (by rw [fSub_i]; exact congrArg (fun i => Out.ok (U.int i) [h5]) (by omega))
  obtain ⟨d6, h6, H6, l6, k6⟩ := draw_m (st := []) (j := 1) H5 rfl m5 (by omega) (by unfold BIG; omega)
  obtain ⟨k, ek⟩ : ∃ k, k = run 0 es + d6 := ⟨_, rfl⟩
  have a5 : (eOp fAdd (eCall 1 m_u_law_count [] (aCons (eVar 3) aNil)) (eCall 2 m_u_law_draw [] (aCons (eVar 1) (aCons (eOp fSub (eC (.int 41)) (eCall 1 m_u_law_count [] (aCons (eVar 3) aNil))) aNil)))) [some (.scr (ns.map U.int)), some (.loc 0), some (.int (n : Nat)), some (.lst (esU es)), some (patI es), some (.lst (nU P)), some (.lst (nU Q)), some (.lst (esU (rowE es P))), none, none, none, none, none, none, none, none] [h5] = Out.ok (.int (k : Nat)) [h6] := op2 n5 k6 (by rw [fAdd_i]; exact congrArg (fun i => Out.ok (U.int i) [h6]) (by omega))
  have s5 : sAsg (eOp fAdd (eCall 1 m_u_law_count [] (aCons (eVar 3) aNil)) (eCall 2 m_u_law_draw [] (aCons (eVar 1) (aCons (eOp fSub (eC (.int 41)) (eCall 1 m_u_law_count [] (aCons (eVar 3) aNil))) aNil)))) (gN 8) [some (.scr (ns.map U.int)), some (.loc 0), some (.int (n : Nat)), some (.lst (esU es)), some (patI es), some (.lst (nU P)), some (.lst (nU Q)), some (.lst (esU (rowE es P))), none, none, none, none, none, none, none, none] [h5] = SO.next [some (.scr (ns.map U.int)), some (.loc 0), some (.int (n : Nat)), some (.lst (esU es)), some (patI es), some (.lst (nU P)), some (.lst (nU Q)), some (.lst (esU (rowE es P))), some (.int (k : Nat)), none, none, none, none, none, none, none] [h6] := asg_ok a5
  have w6 := cut_sc (S := [h6]) (S' := [h6]) (env := [some (.scr (ns.map U.int)), some (.loc 0), some (.int (n : Nat)), some (.lst (esU es)), some (patI es), some (.lst (nU P)), some (.lst (nU Q)), some (.lst (esU (rowE es P))), some (.int (k : Nat)), none, none, none, none, none, none, none]) (m := eVar 5) (us := nU P) (d := k) (mh := eVar 8) (v_at (i := 5) rfl) (v_at (i := 8) rfl) (Old.refl _) (by rw [take_nU]; exact nU_und _)
  rw [take_nU P k] at w6
  have w7 := cut_sc (S := [h6]) (S' := [h6]) (env := [some (.scr (ns.map U.int)), some (.loc 0), some (.int (n : Nat)), some (.lst (esU es)), some (patI es), some (.lst (nU P)), some (.lst (nU Q)), some (.lst (esU (rowE es P))), some (.int (k : Nat)), some (.lst (nU (P.take k))), none, none, none, none, none, none]) (m := eVar 5) (us := nU P) (d := k) (mh := eVar 8) (v_at (i := 5) rfl) (v_at (i := 8) rfl) (Old.refl _) (by rw [take_nU]; exact nU_und _)
  rw [take_nU P k] at w7
  have s6 : sAsg (eScope (eSl (eVar 5) none (some (eVar 8)))) (gN 9) [some (.scr (ns.map U.int)), some (.loc 0), some (.int (n : Nat)), some (.lst (esU es)), some (patI es), some (.lst (nU P)), some (.lst (nU Q)), some (.lst (esU (rowE es P))), some (.int (k : Nat)), none, none, none, none, none, none, none] [h6] = SO.next [some (.scr (ns.map U.int)), some (.loc 0), some (.int (n : Nat)), some (.lst (esU es)), some (patI es), some (.lst (nU P)), some (.lst (nU Q)), some (.lst (esU (rowE es P))), some (.int (k : Nat)), some (.lst (nU (P.take k))), none, none, none, none, none, none] [h6] := asg_ok w6
  have f7 : (eCall 2 m_names_for [] (aCons (eVar 4) (aCons (eVar 9) aNil))) [some (.scr (ns.map U.int)), some (.loc 0), some (.int (n : Nat)), some (.lst (esU es)), some (patI es), some (.lst (nU P)), some (.lst (nU Q)), some (.lst (esU (rowE es P))), some (.int (k : Nat)), some (.lst (nU (P.take k))), none, none, none, none, none, none] [h6] = Out.ok (.tup (esU (rowE es P))) [h6] := by
    have f := for_ok (S := [h6]) (es := es) (ns := P.take k) ce (by omega) (ndP.sublist (List.take_sublist _ _)) (fun n hn => bP n (List.mem_of_mem_take hn)) (by rw [List.length_take]; omega) (by rw [List.length_take]; omega)
    rw [row_take ce (by omega) (by omega)] at f
    exact call2 rfl (v_at (i := 4) rfl) (v_at (i := 9) rfl) f
  have t7 : (eCB fTuple (aCons (eVar 7) aNil)) [some (.scr (ns.map U.int)), some (.loc 0), some (.int (n : Nat)), some (.lst (esU es)), some (patI es), some (.lst (nU P)), some (.lst (nU Q)), some (.lst (esU (rowE es P))), some (.int (k : Nat)), some (.lst (nU (P.take k))), none, none, none, none, none, none] [h6] = Out.ok (.tup (esU (rowE es P))) [h6] := cb1 (S1 := [h6]) (a := .lst (esU (rowE es P))) (v_at (i := 7) rfl) rfl
  have v9 : eVar 9 [some (.scr (ns.map U.int)), some (.loc 0), some (.int (n : Nat)), some (.lst (esU es)), some (patI es), some (.lst (nU P)), some (.lst (nU Q)), some (.lst (esU (rowE es P))), some (.int (k : Nat)), some (.lst (nU (P.take k))), none, none, none, none, none, none] [h6] = Out.ok (.lst (nU (P.take k))) [h6] := v_at (i := 9) rfl
  have s7 : sIf (NK.tOr (NK.tB (eOp fNe (eCall 2 m_names_for [] (aCons (eVar 4) (aCons (eVar 9) aNil))) (eCB fTuple (aCons (eVar 7) aNil)))) (NK.tB (eOp fNe (eVar 9) (eScope (eSl (eVar 5) none (some (eVar 8))))))) (sRet (eC (.bl false))) sNext [some (.scr (ns.map U.int)), some (.loc 0), some (.int (n : Nat)), some (.lst (esU es)), some (patI es), some (.lst (nU P)), some (.lst (nU Q)), some (.lst (esU (rowE es P))), some (.int (k : Nat)), some (.lst (nU (P.take k))), none, none, none, none, none, none] [h6] = SO.next [some (.scr (ns.map U.int)), some (.loc 0), some (.int (n : Nat)), some (.lst (esU es)), some (patI es), some (.lst (nU P)), some (.lst (nU Q)), some (.lst (esU (rowE es P))), some (.int (k : Nat)), some (.lst (nU (P.take k))), none, none, none, none, none, none] [h6] := if_f (or_ff (tB_of (op2 f7 t7 (ne_same (te_ok _)))) (tB_of (op2 v9 w7 (ne_same (nu_ok _))))) rfl
  have fdN : ∀ {u : U} (X : Sto), SqE u (rowE es P) → m_first_difference [patI es, u] X = Out.ok .non X := fun {u} X q => by
    have f := fdiff_ok (S := X) (es := es) q (by rw [rowE_len]; omega) nmP rowE_len
    rw [row_num ce ndP rP, fd_same] at f
    exact f
  have f8 : (eCall 2 m_first_difference [] (aCons (eVar 4) (aCons (eVar 7) aNil))) [some (.scr (ns.map U.int)), some (.loc 0), some (.int (n : Nat)), some (.lst (esU es)), some (patI es), some (.lst (nU P)), some (.lst (nU Q)), some (.lst (esU (rowE es P))), some (.int (k : Nat)), some (.lst (nU (P.take k))), none, none, none, none, none, none] [h6] = Out.ok (.non) [h6] := call2 rfl (v_at (i := 4) rfl) (v_at (i := 7) rfl) (fdN _ (.l _))
  have t8 : (eCB fTuple (aCons (eVar 7) aNil)) [some (.scr (ns.map U.int)), some (.loc 0), some (.int (n : Nat)), some (.lst (esU es)), some (patI es), some (.lst (nU P)), some (.lst (nU Q)), some (.lst (esU (rowE es P))), some (.int (k : Nat)), some (.lst (nU (P.take k))), none, none, none, none, none, none] [h6] = Out.ok (.tup (esU (rowE es P))) [h6] := cb1 (S1 := [h6]) (a := .lst (esU (rowE es P))) (v_at (i := 7) rfl) rfl
  have g8 : (eCall 2 m_first_difference [] (aCons (eVar 4) (aCons (eCB fTuple (aCons (eVar 7) aNil)) aNil))) [some (.scr (ns.map U.int)), some (.loc 0), some (.int (n : Nat)), some (.lst (esU es)), some (patI es), some (.lst (nU P)), some (.lst (nU Q)), some (.lst (esU (rowE es P))), some (.int (k : Nat)), some (.lst (nU (P.take k))), none, none, none, none, none, none] [h6] = Out.ok (.non) [h6] := call2 rfl (v_at (i := 4) rfl) t8 (fdN _ (.t _))
  have s8 : sIf (NK.tOr (NK.tB (eOp fNotN (eCall 2 m_first_difference [] (aCons (eVar 4) (aCons (eVar 7) aNil))) (eC .non))) (NK.tB (eOp fNotN (eCall 2 m_first_difference [] (aCons (eVar 4) (aCons (eCB fTuple (aCons (eVar 7) aNil)) aNil))) (eC .non)))) (sRet (eC (.bl false))) sNext [some (.scr (ns.map U.int)), some (.loc 0), some (.int (n : Nat)), some (.lst (esU es)), some (patI es), some (.lst (nU P)), some (.lst (nU Q)), some (.lst (esU (rowE es P))), some (.int (k : Nat)), some (.lst (nU (P.take k))), none, none, none, none, none, none] [h6] = SO.next [some (.scr (ns.map U.int)), some (.loc 0), some (.int (n : Nat)), some (.lst (esU es)), some (patI es), some (.lst (nU P)), some (.lst (nU Q)), some (.lst (esU (rowE es P))), some (.int (k : Nat)), some (.lst (nU (P.take k))), none, none, none, none, none, none] [h6] := if_f (or_ff (tB_of (op2 (b := .non) (S1 := [h6]) f8 rfl rfl)) (tB_of (op2 (b := .non) (S1 := [h6]) g8 rfl rfl))) rfl
  have w9 := cut_sc (S := [h6]) (S' := [h6]) (env := [some (.scr (ns.map U.int)), some (.loc 0), some (.int (n : Nat)), some (.lst (esU es)), some (patI es), some (.lst (nU P)), some (.lst (nU Q)), some (.lst (esU (rowE es P))), some (.int (k : Nat)), some (.lst (nU (P.take k))), none, none, none, none, none, none]) (m := eVar 5) (us := nU P) (d := 4) (mh := eC (.int 4)) (v_at (i := 5) rfl) rfl (Old.refl _) (by rw [take_nU]; exact nU_und _)
  rw [take_nU P 4] at w9
  obtain ⟨r, h7, H7, l7, n7, k7⟩ := spoilt_ok (st := []) (r := rowE es P) (ns := P.take 4) H6 (by rw [rowE_len]; omega) (by rw [List.length_take]; omega) nmP (fun n hn => bP n (List.mem_of_mem_take hn))
  rw [rowE_len] at l7
  have c9 : (eCall 3 m_u_law_spoilt [] (aCons (eVar 1) (aCons (eVar 7) (aCons (eScope (eSl (eVar 5) none (some (eC (.int 4))))) aNil)))) [some (.scr (ns.map U.int)), some (.loc 0), some (.int (n : Nat)), some (.lst (esU es)), some (patI es), some (.lst (nU P)), some (.lst (nU Q)), some (.lst (esU (rowE es P))), some (.int (k : Nat)), some (.lst (nU (P.take k))), none, none, none, none, none, none] [h6] = Out.ok (.lst (esU r)) [h7] := call3 rfl (v_at (i := 1) rfl) (v_at (i := 7) rfl) w9 k7
  have s9 : sAsg (eCall 3 m_u_law_spoilt [] (aCons (eVar 1) (aCons (eVar 7) (aCons (eScope (eSl (eVar 5) none (some (eC (.int 4))))) aNil)))) (gN 10) [some (.scr (ns.map U.int)), some (.loc 0), some (.int (n : Nat)), some (.lst (esU es)), some (patI es), some (.lst (nU P)), some (.lst (nU Q)), some (.lst (esU (rowE es P))), some (.int (k : Nat)), some (.lst (nU (P.take k))), none, none, none, none, none, none] [h6] = SO.next [some (.scr (ns.map U.int)), some (.loc 0), some (.int (n : Nat)), some (.lst (esU es)), some (patI es), some (.lst (nU P)), some (.lst (nU Q)), some (.lst (esU (rowE es P))), some (.int (k : Nat)), some (.lst (nU (P.take k))), some (.lst (esU r)), none, none, none, none, none] [h7] := asg_ok c9
  obtain ⟨D, eD⟩ : ∃ D, D = fd 0 (num r) es := ⟨_, rfl⟩
  have f10 : (eCall 2 m_first_difference [] (aCons (eVar 4) (aCons (eVar 10) aNil))) [some (.scr (ns.map U.int)), some (.loc 0), some (.int (n : Nat)), some (.lst (esU es)), some (patI es), some (.lst (nU P)), some (.lst (nU Q)), some (.lst (esU (rowE es P))), some (.int (k : Nat)), some (.lst (nU (P.take k))), some (.lst (esU r)), none, none, none, none, none] [h7] = Out.ok (eU D) [h7] := by
    have f := fdiff_ok (S := [h7]) (es := es) (.l r) (by omega) n7 l7
    rw [← eD] at f
    exact call2 rfl (v_at (i := 4) rfl) (v_at (i := 10) rfl) f
  have g10 : (eCall 2 m_u_law_differs [] (aCons (eVar 3) (aCons (eVar 10) aNil))) [some (.scr (ns.map U.int)), some (.loc 0), some (.int (n : Nat)), some (.lst (esU es)), some (patI es), some (.lst (nU P)), some (.lst (nU Q)), some (.lst (esU (rowE es P))), some (.int (k : Nat)), some (.lst (nU (P.take k))), some (.lst (esU r)), none, none, none, none, none] [h7] = Out.ok (eU D) [h7] := by
    have f := differs_ok (S := [h7]) (A := es) (B := r) l7.symm (by omega)
    rw [num_self ce, fd_symm, ← eD] at f
    exact call2 rfl (v_at (i := 3) rfl) (v_at (i := 10) rfl) f
  have a10 := ac1 g10
  have b10 := acN f10 a10
  have s10 : sPar 11 12 (aCons (eCall 2 m_first_difference [] (aCons (eVar 4) (aCons (eVar 10) aNil))) (aCons (eCall 2 m_u_law_differs [] (aCons (eVar 3) (aCons (eVar 10) aNil))) aNil)) [some (.scr (ns.map U.int)), some (.loc 0), some (.int (n : Nat)), some (.lst (esU es)), some (patI es), some (.lst (nU P)), some (.lst (nU Q)), some (.lst (esU (rowE es P))), some (.int (k : Nat)), some (.lst (nU (P.take k))), some (.lst (esU r)), none, none, none, none, none] [h7] = SO.next [some (.scr (ns.map U.int)), some (.loc 0), some (.int (n : Nat)), some (.lst (esU es)), some (patI es), some (.lst (nU P)), some (.lst (nU Q)), some (.lst (esU (rowE es P))), some (.int (k : Nat)), some (.lst (nU (P.take k))), some (.lst (esU r)), some (eU D), some (eU D), none, none, none] [h7] := par_ok b10
  have v11 : eVar 11 [some (.scr (ns.map U.int)), some (.loc 0), some (.int (n : Nat)), some (.lst (esU es)), some (patI es), some (.lst (nU P)), some (.lst (nU Q)), some (.lst (esU (rowE es P))), some (.int (k : Nat)), some (.lst (nU (P.take k))), some (.lst (esU r)), some (eU D), some (eU D), none, none, none] [h7] = Out.ok (eU D) [h7] := v_at (i := 11) rfl
  have v12 : eVar 12 [some (.scr (ns.map U.int)), some (.loc 0), some (.int (n : Nat)), some (.lst (esU es)), some (patI es), some (.lst (nU P)), some (.lst (nU Q)), some (.lst (esU (rowE es P))), some (.int (k : Nat)), some (.lst (nU (P.take k))), some (.lst (esU r)), some (eU D), some (eU D), none, none, none] [h7] = Out.ok (eU D) [h7] := v_at (i := 12) rfl
  have i11 : (eOp fIsN (eVar 11) (eC .non)) [some (.scr (ns.map U.int)), some (.loc 0), some (.int (n : Nat)), some (.lst (esU es)), some (patI es), some (.lst (nU P)), some (.lst (nU Q)), some (.lst (esU (rowE es P))), some (.int (k : Nat)), some (.lst (nU (P.take k))), some (.lst (esU r)), some (eU D), some (eU D), none, none, none] [h7] = Out.ok (.bl (eU D).isNon) [h7] := op2 (b := .non) v11 rfl fIsN_n
  have i12 : (eOp fIsN (eVar 12) (eC .non)) [some (.scr (ns.map U.int)), some (.loc 0), some (.int (n : Nat)), some (.lst (esU es)), some (patI es), some (.lst (nU P)), some (.lst (nU Q)), some (.lst (esU (rowE es P))), some (.int (k : Nat)), some (.lst (nU (P.take k))), some (.lst (esU r)), some (eU D), some (eU D), none, none, none] [h7] = Out.ok (.bl (eU D).isNon) [h7] := op2 (b := .non) v12 rfl fIsN_n
  have b11 : (eIsi isl [(.b .bool)] (eVar 11)) [some (.scr (ns.map U.int)), some (.loc 0), some (.int (n : Nat)), some (.lst (esU es)), some (patI es), some (.lst (nU P)), some (.lst (nU Q)), some (.lst (esU (rowE es P))), some (.int (k : Nat)), some (.lst (nU (P.take k))), some (.lst (esU r)), some (eU D), some (eU D), none, none, none] [h7] = Out.ok (.bl false) [h7] := by
    cases D with
    | none => exact isi_at (i := 11) (t := .b .none) rfl rfl rfl
    | some x => exact isi_at (i := 11) (t := .b .int) rfl rfl rfl
  have s11 : sIf (NK.tOr (NK.tB (eOp fNe (eVar 11) (eVar 12))) (NK.tOr (NK.tB (eOp fNe (eOp fIsN (eVar 11) (eC .non)) (eOp fIsN (eVar 12) (eC .non)))) (NK.tTru (eIsi isl [(.b .bool)] (eVar 11))))) (sRet (eC (.bl false))) sNext [some (.scr (ns.map U.int)), some (.loc 0), some (.int (n : Nat)), some (.lst (esU es)), some (patI es), some (.lst (nU P)), some (.lst (nU Q)), some (.lst (esU (rowE es P))), some (.int (k : Nat)), some (.lst (nU (P.take k))), some (.lst (esU r)), some (eU D), some (eU D), none, none, none] [h7] = SO.next [some (.scr (ns.map U.int)), some (.loc 0), some (.int (n : Nat)), some (.lst (esU es)), some (patI es), some (.lst (nU P)), some (.lst (nU Q)), some (.lst (esU (rowE es P))), some (.int (k : Nat)), some (.lst (nU (P.take k))), some (.lst (esU r)), some (eU D), some (eU D), none, none, none] [h7] := if_f (or_ff (tB_of (op2 v11 v12 (ne_same (eU_ok D)))) (or_ff (tB_of (bne i11 i12 rfl)) (truK b11))) rfl
  have c12 : (eCall 2 m_u_law_row [] (aCons (eVar 3) (aCons (eVar 6) aNil))) [some (.scr (ns.map U.int)), some (.loc 0), some (.int (n : Nat)), some (.lst (esU es)), some (patI es), some (.lst (nU P)), some (.lst (nU Q)), some (.lst (esU (rowE es P))), some (.int (k : Nat)), some (.lst (nU (P.take k))), some (.lst (esU r)), some (eU D), some (eU D), none, none, none] [h7] = Out.ok (.lst (esU (rowE es Q))) [h7] := call2 rfl (v_at (i := 3) rfl) (v_at (i := 6) rfl) (row_ok ce (by omega) rQ)
  have s12 : sAsg (eCall 2 m_u_law_row [] (aCons (eVar 3) (aCons (eVar 6) aNil))) (gN 13) [some (.scr (ns.map U.int)), some (.loc 0), some (.int (n : Nat)), some (.lst (esU es)), some (patI es), some (.lst (nU P)), some (.lst (nU Q)), some (.lst (esU (rowE es P))), some (.int (k : Nat)), some (.lst (nU (P.take k))), some (.lst (esU r)), some (eU D), some (eU D), none, none, none] [h7] = SO.next [some (.scr (ns.map U.int)), some (.loc 0), some (.int (n : Nat)), some (.lst (esU es)), some (patI es), some (.lst (nU P)), some (.lst (nU Q)), some (.lst (esU (rowE es P))), some (.int (k : Nat)), some (.lst (nU (P.take k))), some (.lst (esU r)), some (eU D), some (eU D), some (.lst (esU (rowE es Q))), none, none] [h7] := asg_ok c12
  have a13 : (eOp fAdd (eVar 2) (eC (.int 1))) [some (.scr (ns.map U.int)), some (.loc 0), some (.int (n : Nat)), some (.lst (esU es)), some (patI es), some (.lst (nU P)), some (.lst (nU Q)), some (.lst (esU (rowE es P))), some (.int (k : Nat)), some (.lst (nU (P.take k))), some (.lst (esU r)), some (eU D), some (eU D), some (.lst (esU (rowE es Q))), none, none] [h7] = Out.ok (.int ((n + 1 : Nat) : Int)) [h7] := op2 (b := .int 1) (v_at (i := 2) rfl) rfl rfl
  obtain ⟨d, h8, H8, l8, k8⟩ := draw_m (st := []) (j := 1) H7 rfl a13 (by omega) (by unfold BIG; omega)
  have v13 : eVar 13 [some (.scr (ns.map U.int)), some (.loc 0), some (.int (n : Nat)), some (.lst (esU es)), some (patI es), some (.lst (nU P)), some (.lst (nU Q)), some (.lst (esU (rowE es P))), some (.int (k : Nat)), some (.lst (nU (P.take k))), some (.lst (esU r)), some (eU D), some (eU D), some (.lst (esU (rowE es Q))), none, none] [h7] = Out.ok (.lst (esU (rowE es Q))) [h7] := v_at (i := 13) rfl
  have c13 := cut_sc v13 k8 (Old.hand H8.under) (by rw [take_esU]; exact esU_und _)
  rw [take_esU (rowE es Q) d] at c13
  have s13 : sAsg (eScope (eSl (eVar 13) none (some (eCall 2 m_u_law_draw [] (aCons (eVar 1) (aCons (eOp fAdd (eVar 2) (eC (.int 1))) aNil)))))) (gN 14) [some (.scr (ns.map U.int)), some (.loc 0), some (.int (n : Nat)), some (.lst (esU es)), some (patI es), some (.lst (nU P)), some (.lst (nU Q)), some (.lst (esU (rowE es P))), some (.int (k : Nat)), some (.lst (nU (P.take k))), some (.lst (esU r)), some (eU D), some (eU D), some (.lst (esU (rowE es Q))), none, none] [h7] = SO.next [some (.scr (ns.map U.int)), some (.loc 0), some (.int (n : Nat)), some (.lst (esU es)), some (patI es), some (.lst (nU P)), some (.lst (nU Q)), some (.lst (esU (rowE es P))), some (.int (k : Nat)), some (.lst (nU (P.take k))), some (.lst (esU r)), some (eU D), some (eU D), some (.lst (esU (rowE es Q))), some (.lst (esU ((rowE es Q).take d))), none] [h8] := asg_ok c13
  have x7 : eVar 7 [some (.scr (ns.map U.int)), some (.loc 0), some (.int (n : Nat)), some (.lst (esU es)), some (patI es), some (.lst (nU P)), some (.lst (nU Q)), some (.lst (esU (rowE es P))), some (.int (k : Nat)), some (.lst (nU (P.take k))), some (.lst (esU r)), some (eU D), some (eU D), some (.lst (esU (rowE es Q))), some (.lst (esU ((rowE es Q).take d))), none] [h8] = Out.ok (.lst (esU (rowE es P))) [h8] := v_at (i := 7) rfl
  have x10 : eVar 10 [some (.scr (ns.map U.int)), some (.loc 0), some (.int (n : Nat)), some (.lst (esU es)), some (patI es), some (.lst (nU P)), some (.lst (nU Q)), some (.lst (esU (rowE es P))), some (.int (k : Nat)), some (.lst (nU (P.take k))), some (.lst (esU r)), some (eU D), some (eU D), some (.lst (esU (rowE es Q))), some (.lst (esU ((rowE es Q).take d))), none] [h8] = Out.ok (.lst (esU r)) [h8] := v_at (i := 10) rfl
  have x13 : eVar 13 [some (.scr (ns.map U.int)), some (.loc 0), some (.int (n : Nat)), some (.lst (esU es)), some (patI es), some (.lst (nU P)), some (.lst (nU Q)), some (.lst (esU (rowE es P))), some (.int (k : Nat)), some (.lst (nU (P.take k))), some (.lst (esU r)), some (eU D), some (eU D), some (.lst (esU (rowE es Q))), some (.lst (esU ((rowE es Q).take d))), none] [h8] = Out.ok (.lst (esU (rowE es Q))) [h8] := v_at (i := 13) rfl
  have x14 : eVar 14 [some (.scr (ns.map U.int)), some (.loc 0), some (.int (n : Nat)), some (.lst (esU es)), some (patI es), some (.lst (nU P)), some (.lst (nU Q)), some (.lst (esU (rowE es P))), some (.int (k : Nat)), some (.lst (nU (P.take k))), some (.lst (esU r)), some (eU D), some (eU D), some (.lst (esU (rowE es Q))), some (.lst (esU ((rowE es Q).take d))), none] [h8] = Out.ok (.lst (esU ((rowE es Q).take d))) [h8] := v_at (i := 14) rfl
  have y0 : (eTup (aCons (eVar 7) (aCons (eVar 13) aNil))) [some (.scr (ns.map U.int)), some (.loc 0), some (.int (n : Nat)), some (.lst (esU es)), some (patI es), some (.lst (nU P)), some (.lst (nU Q)), some (.lst (esU (rowE es P))), some (.int (k : Nat)), some (.lst (nU (P.take k))), some (.lst (esU r)), some (eU D), some (eU D), some (.lst (esU (rowE es Q))), some (.lst (esU ((rowE es Q).take d))), none] [h8] = Out.ok (.tup [.lst (esU (rowE es P)), .lst (esU (rowE es Q))]) [h8] := tup2 x7 x13
  have y1 : (eTup (aCons (eVar 7) (aCons (eVar 10) aNil))) [some (.scr (ns.map U.int)), some (.loc 0), some (.int (n : Nat)), some (.lst (esU es)), some (patI es), some (.lst (nU P)), some (.lst (nU Q)), some (.lst (esU (rowE es P))), some (.int (k : Nat)), some (.lst (nU (P.take k))), some (.lst (esU r)), some (eU D), some (eU D), some (.lst (esU (rowE es Q))), some (.lst (esU ((rowE es Q).take d))), none] [h8] = Out.ok (.tup [.lst (esU (rowE es P)), .lst (esU r)]) [h8] := tup2 x7 x10
  have y2 : (eTup (aCons (eVar 10) (aCons (eVar 13) aNil))) [some (.scr (ns.map U.int)), some (.loc 0), some (.int (n : Nat)), some (.lst (esU es)), some (patI es), some (.lst (nU P)), some (.lst (nU Q)), some (.lst (esU (rowE es P))), some (.int (k : Nat)), some (.lst (nU (P.take k))), some (.lst (esU r)), some (eU D), some (eU D), some (.lst (esU (rowE es Q))), some (.lst (esU ((rowE es Q).take d))), none] [h8] = Out.ok (.tup [.lst (esU r), .lst (esU (rowE es Q))]) [h8] := tup2 x10 x13
  have y3 : (eTup (aCons (eVar 7) (aCons (eVar 14) aNil))) [some (.scr (ns.map U.int)), some (.loc 0), some (.int (n : Nat)), some (.lst (esU es)), some (patI es), some (.lst (nU P)), some (.lst (nU Q)), some (.lst (esU (rowE es P))), some (.int (k : Nat)), some (.lst (nU (P.take k))), some (.lst (esU r)), some (eU D), some (eU D), some (.lst (esU (rowE es Q))), some (.lst (esU ((rowE es Q).take d))), none] [h8] = Out.ok (.tup [.lst (esU (rowE es P)), .lst (esU ((rowE es Q).take d))]) [h8] := tup2 x7 x14
  have y4 : (eTup (aCons (eVar 14) (aCons (eVar 7) aNil))) [some (.scr (ns.map U.int)), some (.loc 0), some (.int (n : Nat)), some (.lst (esU es)), some (patI es), some (.lst (nU P)), some (.lst (nU Q)), some (.lst (esU (rowE es P))), some (.int (k : Nat)), some (.lst (nU (P.take k))), some (.lst (esU r)), some (eU D), some (eU D), some (.lst (esU (rowE es Q))), some (.lst (esU ((rowE es Q).take d))), none] [h8] = Out.ok (.tup [.lst (esU ((rowE es Q).take d)), .lst (esU (rowE es P))]) [h8] := tup2 x14 x7
  have y5 : (eTup (aCons (eVar 13) (aCons (eVar 7) aNil))) [some (.scr (ns.map U.int)), some (.loc 0), some (.int (n : Nat)), some (.lst (esU es)), some (patI es), some (.lst (nU P)), some (.lst (nU Q)), some (.lst (esU (rowE es P))), some (.int (k : Nat)), some (.lst (nU (P.take k))), some (.lst (esU r)), some (eU D), some (eU D), some (.lst (esU (rowE es Q))), some (.lst (esU ((rowE es Q).take d))), none] [h8] = Out.ok (.tup [.lst (esU (rowE es Q)), .lst (esU (rowE es P))]) [h8] := tup2 x13 x7
  have y6 : (eTup (aCons (eVar 10) (aCons (eVar 10) aNil))) [some (.scr (ns.map U.int)), some (.loc 0), some (.int (n : Nat)), some (.lst (esU es)), some (patI es), some (.lst (nU P)), some (.lst (nU Q)), some (.lst (esU (rowE es P))), some (.int (k : Nat)), some (.lst (nU (P.take k))), some (.lst (esU r)), some (eU D), some (eU D), some (.lst (esU (rowE es Q))), some (.lst (esU ((rowE es Q).take d))), none] [h8] = Out.ok (.tup [.lst (esU r), .lst (esU r)]) [h8] := tup2 x10 x10
  have z6 := ac1 y6
  have z5 := acN y5 z6
  have z4 := acN y4 z5
  have z3 := acN y3 z4
  have z2 := acN y2 z3
  have z1 := acN y1 z2
  have z0 := acN y0 z1
  have L : eScope (eLst (aCons (eTup (aCons (eVar 7) (aCons (eVar 13) aNil))) (aCons (eTup (aCons (eVar 7) (aCons (eVar 10) aNil))) (aCons (eTup (aCons (eVar 10) (aCons (eVar 13) aNil))) (aCons (eTup (aCons (eVar 7) (aCons (eVar 14) aNil))) (aCons (eTup (aCons (eVar 14) (aCons (eVar 7) aNil))) (aCons (eTup (aCons (eVar 13) (aCons (eVar 7) aNil))) (aCons (eTup (aCons (eVar 10) (aCons (eVar 10) aNil))) aNil)))))))) [some (.scr (ns.map U.int)), some (.loc 0), some (.int (n : Nat)), some (.lst (esU es)), some (patI es), some (.lst (nU P)), some (.lst (nU Q)), some (.lst (esU (rowE es P))), some (.int (k : Nat)), some (.lst (nU (P.take k))), some (.lst (esU r)), some (eU D), some (eU D), some (.lst (esU (rowE es Q))), some (.lst (esU ((rowE es Q).take d))), none] [h8] = Out.ok (.lst (([((rowE es P), (rowE es Q)), ((rowE es P), r), (r, (rowE es Q)), ((rowE es P), ((rowE es Q).take d)), (((rowE es Q).take d), (rowE es P)), ((rowE es Q), (rowE es P)), (r, r)] : List (Ent × Ent)).map prU)) [h8] := lit_drw z0 (Old.refl _) (by show 7 ≤ 1000; decide) (prs_und [((rowE es P), (rowE es Q)), ((rowE es P), r), (r, (rowE es Q)), ((rowE es P), ((rowE es Q).take d)), (((rowE es Q).take d), (rowE es P)), ((rowE es Q), (rowE es P)), (r, r)])
  have GP : Gw (rowE es P) := ⟨by rw [rowE_len]; omega, nmP⟩
  have GQ : Gw (rowE es Q) := ⟨by rw [rowE_len]; omega, nmQ⟩
  have GR : Gw r := ⟨by omega, n7⟩
  have GD : Gw ((rowE es Q).take d) := ⟨by rw [List.length_take]; have := GQ.1; omega, nms_take nmQ d⟩
  obtain ⟨e15, lp⟩ := law_loop (S := [h8]) (e0 := some (.scr (ns.map U.int))) (e1 := some (.loc 0)) (e2 := some (.int (n : Nat))) (e3 := some (.lst (esU es))) (e4 := some (patI es)) (e5 := some (.lst (nU P))) (e6 := some (.lst (nU Q))) (e7 := some (.lst (esU (rowE es P)))) (e8 := some (.int (k : Nat))) (e9 := some (.lst (nU (P.take k)))) (e10 := some (.lst (esU r))) (e11 := some (eU D)) (e12 := some (eU D)) (e13 := some (.lst (esU (rowE es Q)))) (e14 := some (.lst (esU ((rowE es Q).take d)))) [((rowE es P), (rowE es Q)), ((rowE es P), r), (r, (rowE es Q)), ((rowE es P), ((rowE es Q).take d)), (((rowE es Q).take d), (rowE es P)), ((rowE es Q), (rowE es P)), (r, r)] none (fun p hp => by
    simp only [List.mem_cons, List.not_mem_nil, or_false] at hp
    rcases hp with rfl | rfl | rfl | rfl | rfl | rfl | rfl
    · exact ⟨GP, GQ⟩
    · exact ⟨GP, GR⟩
    · exact ⟨GR, GQ⟩
    · exact ⟨GP, GD⟩
    · exact ⟨GD, GP⟩
    · exact ⟨GQ, GP⟩
    · exact ⟨GR, GR⟩)
  have it : iSeq (eScope (eLst (aCons (eTup (aCons (eVar 7) (aCons (eVar 13) aNil))) (aCons (eTup (aCons (eVar 7) (aCons (eVar 10) aNil))) (aCons (eTup (aCons (eVar 10) (aCons (eVar 13) aNil))) (aCons (eTup (aCons (eVar 7) (aCons (eVar 14) aNil))) (aCons (eTup (aCons (eVar 14) (aCons (eVar 7) aNil))) (aCons (eTup (aCons (eVar 13) (aCons (eVar 7) aNil))) (aCons (eTup (aCons (eVar 10) (aCons (eVar 10) aNil))) aNil))))))))) [some (.scr (ns.map U.int)), some (.loc 0), some (.int (n : Nat)), some (.lst (esU es)), some (patI es), some (.lst (nU P)), some (.lst (nU Q)), some (.lst (esU (rowE es P))), some (.int (k : Nat)), some (.lst (nU (P.take k))), some (.lst (esU r)), some (eU D), some (eU D), some (.lst (esU (rowE es Q))), some (.lst (esU ((rowE es Q).take d))), none] [h8] = Out.ok ⟨([((rowE es P), (rowE es Q)), ((rowE es P), r), (r, (rowE es Q)), ((rowE es P), ((rowE es Q).take d)), (((rowE es Q).take d), (rowE es P)), ((rowE es Q), (rowE es P)), (r, r)] : List (Ent × Ent)).map prU, fun _ => True⟩ [h8] := by
    unfold iSeq
    rw [L, ob]
    rfl
  have s14 : sFor (iSeq (eScope (eLst (aCons (eTup (aCons (eVar 7) (aCons (eVar 13) aNil))) (aCons (eTup (aCons (eVar 7) (aCons (eVar 10) aNil))) (aCons (eTup (aCons (eVar 10) (aCons (eVar 13) aNil))) (aCons (eTup (aCons (eVar 7) (aCons (eVar 14) aNil))) (aCons (eTup (aCons (eVar 14) (aCons (eVar 7) aNil))) (aCons (eTup (aCons (eVar 13) (aCons (eVar 7) aNil))) (aCons (eTup (aCons (eVar 10) (aCons (eVar 10) aNil))) aNil)))))))))) (gN 15) l_law_1 [some (.scr (ns.map U.int)), some (.loc 0), some (.int (n : Nat)), some (.lst (esU es)), some (patI es), some (.lst (nU P)), some (.lst (nU Q)), some (.lst (esU (rowE es P))), some (.int (k : Nat)), some (.lst (nU (P.take k))), some (.lst (esU r)), some (eU D), some (eU D), some (.lst (esU (rowE es Q))), some (.lst (esU ((rowE es Q).take d))), none] [h8] = SO.next [some (.scr (ns.map U.int)), some (.loc 0), some (.int (n : Nat)), some (.lst (esU es)), some (patI es), some (.lst (nU P)), some (.lst (nU Q)), some (.lst (esU (rowE es P))), some (.int (k : Nat)), some (.lst (nU (P.take k))), some (.lst (esU r)), some (eU D), some (eU D), some (.lst (esU (rowE es Q))), some (.lst (esU ((rowE es Q).take d))), e15] [h8] := sFor_ok it lp
  obtain ⟨h9, H9, k9⟩ := oddr_ok (st := []) (h := h8) (es := es) (ns := P) H8 ce (by omega) ndP bP lP
  have c15 : (eCall 4 m_u_law_odd_right [] (aCons (eVar 1) (aCons (eVar 4) (aCons (eVar 3) (aCons (eVar 5) aNil))))) [some (.scr (ns.map U.int)), some (.loc 0), some (.int (n : Nat)), some (.lst (esU es)), some (patI es), some (.lst (nU P)), some (.lst (nU Q)), some (.lst (esU (rowE es P))), some (.int (k : Nat)), some (.lst (nU (P.take k))), some (.lst (esU r)), some (eU D), some (eU D), some (.lst (esU (rowE es Q))), some (.lst (esU ((rowE es Q).take d))), e15] [h8] = Out.ok (.bl true) [h9] := call4 rfl (v_at (i := 1) rfl) (v_at (i := 4) rfl) (v_at (i := 3) rfl) (v_at (i := 5) rfl) k9
  have f15 : (eCall 2 m_first_difference [] (aCons (eVar 4) (aCons (eVar 7) aNil))) [some (.scr (ns.map U.int)), some (.loc 0), some (.int (n : Nat)), some (.lst (esU es)), some (patI es), some (.lst (nU P)), some (.lst (nU Q)), some (.lst (esU (rowE es P))), some (.int (k : Nat)), some (.lst (nU (P.take k))), some (.lst (esU r)), some (eU D), some (eU D), some (.lst (esU (rowE es Q))), some (.lst (esU ((rowE es Q).take d))), e15] [h9] = Out.ok .non [h9] := call2 rfl (v_at (i := 4) rfl) (v_at (i := 7) rfl) (fdN _ (.l _))
  have g15 : (eOp fIsN (eCall 2 m_first_difference [] (aCons (eVar 4) (aCons (eVar 7) aNil))) (eC .non)) [some (.scr (ns.map U.int)), some (.loc 0), some (.int (n : Nat)), some (.lst (esU es)), some (patI es), some (.lst (nU P)), some (.lst (nU Q)), some (.lst (esU (rowE es P))), some (.int (k : Nat)), some (.lst (nU (P.take k))), some (.lst (esU r)), some (eU D), some (eU D), some (.lst (esU (rowE es Q))), some (.lst (esU ((rowE es Q).take d))), e15] [h9] = Out.ok (.bl true) [h9] := op2 (b := .non) f15 rfl rfl
  refine fs_val (n := 16) (mb := b_law) (env := [some (.scr (ns.map U.int)), none, none, none, none, none, none, none, none, none, none, none, none, none, none, none]) (st2 := []) (ext := [h9]) rfl ?_ (Old.refl []) rfl
  unfold b_law
  exact seq_n s0 (seq_n s1 (seq_n s2 (seq_n s3 (seq_n s4 (seq_n s5 (seq_n s6 (seq_n s7 (seq_n s8 (seq_n s9 (seq_n s10 (seq_n s11 (seq_n s12 (seq_n s13 (seq_n s14 (ret_ok (and_to c15 g15))))))))))))))))
end G

set_option maxHeartbeats 4000000
namespace G
open PySem L2 NK
theorem lookup_mem {l : List (Str × NameKind)} {y : Str} {v : NameKind} (h : l.lookup y = some v) : (y, v) ∈ l := by
  induction l with
  | nil => cases h
  | cons p l ih =>
    obtain ⟨x, u⟩ := p
    rw [List.lookup] at h
    split at h
    · rename_i e
      cases h
      rw [beq_iff_eq.mp e]
      exact List.mem_cons_self
    · exact List.mem_cons_of_mem _ (ih h)
def spLaw (K : PySem.W.Frag) (P1 P2 : Addr) : Sp := fun vs H Q _ => ∃ (a : Addr) (ns : List Int), vs = [V.ref a] ∧ SqL K H a (ns.map V.int) ∧ ns.length ≤ 63 ∧ H P1 = some (.tbl #[]) ∧ H P2 = some (.tbl #[]) ∧ ∀ H', Q (V.bl true) H'
theorem law_spec {w : World} {K : PySem.W.Frag} {a : Ad} (vs : List V) (H : Hp) (Q : VK) (E : XK) (h : spLaw K a.p_u_law_odd_right a.p_u_law_renaming_right vs H Q E) : spOf (tb w K a) 1 m_law vs H Q E := by
  obtain ⟨b, ns, rfl, hS, hl, hP1, hP2, k⟩ := h
  refine ⟨rfl, ⟨fun _ => 0, 0, begF H b, fun _ => none⟩, _, [], beg_rh (T := tb w K a) (fun p hp => by rcases List.mem_cons.mp hp with rfl | hp; exact hP1; cases List.mem_singleton.mp hp; exact hP2), .one (.scr (beg_sq hS) (rpl_ints ns)), ?_⟩
  rw [law_true ns hl]
  intro c' v H' _ _ r
  cases r.inv_bl
  exact k H'

theorem all_mk {w : World} {K : PySem.W.Frag} {h : Heap} {mg : Str → Option Value} {fa : Addr} (X : K.In h) (G : h.Ns mainGlobals mg) (hfa : mg "law" = some (.ref fa))
    {tk_MOST_NAME : _}
    {tk_MOST_PLACES : _}
    {C_CustomError C_BadPattern C_BadNames C_BadMatch C_NoRenaming C_Pattern : Addr}
    {f_u_law_hand f_u_law_mix f_u_law_draw f_u_law_size f_u_law_entries f_u_law_row f_u_law_pick f_u_law_spoilt f_entries_fault f_BadPattern___init f_Pattern___init f_u_law_pool f_u_law_count f_is_whole f_is_name f_names_fault f_BadNames___init f_check_names f_class_numbers f_first_difference f_u_law_numbers f_u_law_differs f_u_law_odd f_u_law_told f_NoRenaming___init f_renaming_of f_check_unlike_names f_Pattern_class_count f_names_for f_u_law_odd_right f_u_law_due_pairs f_u_law_renaming_right f_law : Addr}
    {od_u_law_hand an_u_law_hand : Option Addr} {sl_u_law_hand : Array (Option Value)} {oc_u_law_hand kV_u_law_hand dc_u_law_hand pm_u_law_hand ct_u_law_hand : Value}
    {cd_u_law_hand : Value}
    {od_u_law_mix an_u_law_mix : Option Addr} {sl_u_law_mix : Array (Option Value)} {oc_u_law_mix kV_u_law_mix dc_u_law_mix pm_u_law_mix ct_u_law_mix : Value}
    {cd_u_law_mix : Value}
    {od_u_law_draw an_u_law_draw : Option Addr} {sl_u_law_draw : Array (Option Value)} {oc_u_law_draw kV_u_law_draw dc_u_law_draw pm_u_law_draw ct_u_law_draw : Value}
    {cd_u_law_draw : Value}
    {od_u_law_size an_u_law_size : Option Addr} {sl_u_law_size : Array (Option Value)} {oc_u_law_size kV_u_law_size dc_u_law_size pm_u_law_size ct_u_law_size : Value}
    {cd_u_law_size : Value}
    {od_u_law_entries an_u_law_entries : Option Addr} {sl_u_law_entries : Array (Option Value)} {oc_u_law_entries kV_u_law_entries dc_u_law_entries pm_u_law_entries ct_u_law_entries : Value}
    {cd_u_law_entries : Value}
    {od_u_law_row an_u_law_row : Option Addr} {sl_u_law_row : Array (Option Value)} {oc_u_law_row kV_u_law_row dc_u_law_row pm_u_law_row ct_u_law_row : Value}
    {cd_u_law_row : Value}
    {od_u_law_pick an_u_law_pick : Option Addr} {sl_u_law_pick : Array (Option Value)} {oc_u_law_pick kV_u_law_pick dc_u_law_pick pm_u_law_pick ct_u_law_pick : Value}
    {cd_u_law_pick : Value}
    {od_u_law_spoilt an_u_law_spoilt : Option Addr} {sl_u_law_spoilt : Array (Option Value)} {oc_u_law_spoilt kV_u_law_spoilt dc_u_law_spoilt pm_u_law_spoilt ct_u_law_spoilt : Value}
    {cd_u_law_spoilt : Value}
    {od_entries_fault an_entries_fault : Option Addr} {sl_entries_fault : Array (Option Value)} {oc_entries_fault kV_entries_fault dc_entries_fault pm_entries_fault ct_entries_fault : Value}
    {cd_entries_fault : Value}
    {od_BadPattern___init an_BadPattern___init : Option Addr} {sl_BadPattern___init : Array (Option Value)} {oc_BadPattern___init kV_BadPattern___init dc_BadPattern___init pm_BadPattern___init ct_BadPattern___init : Value}
    {cda_BadPattern cc_BadPattern : Addr}
    {ccl_BadPattern : Value} {cdd_BadPattern : Option Addr} {vs_BadPattern : Array Value} {ccs_BadPattern : Array (Option Value)} {file_BadPattern : Str} {tf_BadPattern : _} {cl_BadPattern : Value} {cld_BadPattern : Option Addr} {csl_BadPattern : Array (Option Value)}
    {nm_BadPattern q_BadPattern : Str} {N_BadPattern : Addr} {bs_BadPattern sub_BadPattern : List Value} {sn_BadPattern : List Str} {ab_BadPattern : Bool} {col_BadPattern : Option Bool} {dd_BadPattern : Option Addr} {m0_BadPattern m1_BadPattern m2_BadPattern m3_BadPattern m5_BadPattern : Option Value}
    {od_Pattern___init an_Pattern___init : Option Addr} {sl_Pattern___init : Array (Option Value)} {oc_Pattern___init kV_Pattern___init dc_Pattern___init pm_Pattern___init ct_Pattern___init : Value}
    {cd_Pattern___init : Value}
    {od_u_law_pool an_u_law_pool : Option Addr} {sl_u_law_pool : Array (Option Value)} {oc_u_law_pool kV_u_law_pool dc_u_law_pool pm_u_law_pool ct_u_law_pool : Value}
    {cd_u_law_pool : Value}
    {od_u_law_count an_u_law_count : Option Addr} {sl_u_law_count : Array (Option Value)} {oc_u_law_count kV_u_law_count dc_u_law_count pm_u_law_count ct_u_law_count : Value}
    {cd_u_law_count : Value}
    {od_is_whole an_is_whole : Option Addr} {sl_is_whole : Array (Option Value)} {oc_is_whole kV_is_whole dc_is_whole pm_is_whole ct_is_whole : Value}
    {cd_is_whole : Value}
    {od_is_name an_is_name : Option Addr} {sl_is_name : Array (Option Value)} {oc_is_name kV_is_name dc_is_name pm_is_name ct_is_name : Value}
    {cd_is_name : Value}
    {od_names_fault an_names_fault : Option Addr} {sl_names_fault : Array (Option Value)} {oc_names_fault kV_names_fault dc_names_fault pm_names_fault ct_names_fault : Value}
    {cd_names_fault : Value}
    {od_BadNames___init an_BadNames___init : Option Addr} {sl_BadNames___init : Array (Option Value)} {oc_BadNames___init kV_BadNames___init dc_BadNames___init pm_BadNames___init ct_BadNames___init : Value}
    {cda_BadNames cc_BadNames : Addr}
    {ccl_BadNames : Value} {cdd_BadNames : Option Addr} {vs_BadNames : Array Value} {ccs_BadNames : Array (Option Value)} {file_BadNames : Str} {tf_BadNames : _} {cl_BadNames : Value} {cld_BadNames : Option Addr} {csl_BadNames : Array (Option Value)}
    {nm_BadNames q_BadNames : Str} {N_BadNames : Addr} {bs_BadNames sub_BadNames : List Value} {sn_BadNames : List Str} {ab_BadNames : Bool} {col_BadNames : Option Bool} {dd_BadNames : Option Addr} {m0_BadNames m1_BadNames m2_BadNames m3_BadNames m5_BadNames : Option Value}
    {od_check_names an_check_names : Option Addr} {sl_check_names : Array (Option Value)} {oc_check_names kV_check_names dc_check_names pm_check_names ct_check_names : Value}
    {cd_check_names : Value}
    {od_class_numbers an_class_numbers : Option Addr} {sl_class_numbers : Array (Option Value)} {oc_class_numbers kV_class_numbers dc_class_numbers pm_class_numbers ct_class_numbers : Value}
    {cd_class_numbers : Value}
    {od_first_difference an_first_difference : Option Addr} {sl_first_difference : Array (Option Value)} {oc_first_difference kV_first_difference dc_first_difference pm_first_difference ct_first_difference : Value}
    {cd_first_difference : Value}
    {od_u_law_numbers an_u_law_numbers : Option Addr} {sl_u_law_numbers : Array (Option Value)} {oc_u_law_numbers kV_u_law_numbers dc_u_law_numbers pm_u_law_numbers ct_u_law_numbers : Value}
    {cd_u_law_numbers : Value}
    {od_u_law_differs an_u_law_differs : Option Addr} {sl_u_law_differs : Array (Option Value)} {oc_u_law_differs kV_u_law_differs dc_u_law_differs pm_u_law_differs ct_u_law_differs : Value}
    {cd_u_law_differs : Value}
    {od_u_law_odd an_u_law_odd : Option Addr} {sl_u_law_odd : Array (Option Value)} {oc_u_law_odd kV_u_law_odd dc_u_law_odd pm_u_law_odd ct_u_law_odd : Value}
    {cd_u_law_odd : Value}
    {od_u_law_told an_u_law_told : Option Addr} {sl_u_law_told : Array (Option Value)} {oc_u_law_told kV_u_law_told dc_u_law_told pm_u_law_told ct_u_law_told : Value}
    {cd_u_law_told : Value}
    {od_NoRenaming___init an_NoRenaming___init : Option Addr} {sl_NoRenaming___init : Array (Option Value)} {oc_NoRenaming___init kV_NoRenaming___init dc_NoRenaming___init pm_NoRenaming___init ct_NoRenaming___init : Value}
    {cda_NoRenaming cc_NoRenaming : Addr}
    {ccl_NoRenaming : Value} {cdd_NoRenaming : Option Addr} {vs_NoRenaming : Array Value} {ccs_NoRenaming : Array (Option Value)} {file_NoRenaming : Str} {tf_NoRenaming : _} {cl_NoRenaming : Value} {cld_NoRenaming : Option Addr} {csl_NoRenaming : Array (Option Value)}
    {nm_NoRenaming q_NoRenaming : Str} {N_NoRenaming : Addr} {bs_NoRenaming sub_NoRenaming : List Value} {sn_NoRenaming : List Str} {ab_NoRenaming : Bool} {col_NoRenaming : Option Bool} {dd_NoRenaming : Option Addr} {m0_NoRenaming m1_NoRenaming m2_NoRenaming m3_NoRenaming m5_NoRenaming : Option Value}
    {od_renaming_of an_renaming_of : Option Addr} {sl_renaming_of : Array (Option Value)} {oc_renaming_of kV_renaming_of dc_renaming_of pm_renaming_of ct_renaming_of : Value}
    {cd_renaming_of : Value}
    {od_check_unlike_names an_check_unlike_names : Option Addr} {sl_check_unlike_names : Array (Option Value)} {oc_check_unlike_names kV_check_unlike_names dc_check_unlike_names pm_check_unlike_names ct_check_unlike_names : Value}
    {cd_check_unlike_names : Value}
    {od_Pattern_class_count an_Pattern_class_count : Option Addr} {sl_Pattern_class_count : Array (Option Value)} {oc_Pattern_class_count kV_Pattern_class_count dc_Pattern_class_count pm_Pattern_class_count ct_Pattern_class_count : Value}
    {pp_Pattern_class_count : Addr} {pr_Pattern_class_count : List Value}
    {cd_Pattern_class_count : Value}
    {od_names_for an_names_for : Option Addr} {sl_names_for : Array (Option Value)} {oc_names_for kV_names_for dc_names_for pm_names_for ct_names_for : Value}
    {cd_names_for : Value}
    {od_u_law_odd_right an_u_law_odd_right : Option Addr} {sl_u_law_odd_right : Array (Option Value)} {oc_u_law_odd_right kV_u_law_odd_right dc_u_law_odd_right pm_u_law_odd_right ct_u_law_odd_right : Value}
    {q_u_law_odd_right p_u_law_odd_right : Addr}
    {kc_u_law_odd_right : Value} {kd_u_law_odd_right : Option Addr} {kv_u_law_odd_right : Array Value} {ks_u_law_odd_right : Array (Option Value)}
    {od_u_law_due_pairs an_u_law_due_pairs : Option Addr} {sl_u_law_due_pairs : Array (Option Value)} {oc_u_law_due_pairs kV_u_law_due_pairs dc_u_law_due_pairs pm_u_law_due_pairs ct_u_law_due_pairs : Value}
    {cd_u_law_due_pairs : Value}
    {od_u_law_renaming_right an_u_law_renaming_right : Option Addr} {sl_u_law_renaming_right : Array (Option Value)} {oc_u_law_renaming_right kV_u_law_renaming_right dc_u_law_renaming_right pm_u_law_renaming_right ct_u_law_renaming_right : Value}
    {q_u_law_renaming_right p_u_law_renaming_right : Addr}
    {kc_u_law_renaming_right : Value} {kd_u_law_renaming_right : Option Addr} {kv_u_law_renaming_right : Array Value} {ks_u_law_renaming_right : Array (Option Value)}
    {od_law an_law : Option Addr} {sl_law : Array (Option Value)} {oc_law kV_law dc_law pm_law ct_law : Value}
    {cd_law : Value}
    (z_abs : PySem.W.nsIn K mainGlobals "abs" = some none)
    (z_bool : PySem.W.nsIn K mainGlobals "bool" = some none)
    (z_enumerate : PySem.W.nsIn K mainGlobals "enumerate" = some none)
    (z_int : PySem.W.nsIn K mainGlobals "int" = some none)
    (z_isinstance : PySem.W.nsIn K mainGlobals "isinstance" = some none)
    (z_len : PySem.W.nsIn K mainGlobals "len" = some none)
    (z_list : PySem.W.nsIn K mainGlobals "list" = some none)
    (z_max : PySem.W.nsIn K mainGlobals "max" = some none)
    (z_min : PySem.W.nsIn K mainGlobals "min" = some none)
    (z_range : PySem.W.nsIn K mainGlobals "range" = some none)
    (z_repr : PySem.W.nsIn K mainGlobals "repr" = some none)
    (z_super : PySem.W.nsIn K mainGlobals "super" = some none)
    (z_tuple : PySem.W.nsIn K mainGlobals "tuple" = some none)
    (g_MOST_NAME : PySem.W.nsIn K mainGlobals "MOST_NAME" = some (some (.int 1000000000000000000000000000000 tk_MOST_NAME)))
    (g_MOST_PLACES : PySem.W.nsIn K mainGlobals "MOST_PLACES" = some (some (.int 40 tk_MOST_PLACES)))
    (a_CustomError : PySem.W.nsIn K mainGlobals "CustomError" = some (some (.ref C_CustomError)))
    (a_BadPattern : PySem.W.nsIn K mainGlobals "BadPattern" = some (some (.ref C_BadPattern)))
    (a_BadNames : PySem.W.nsIn K mainGlobals "BadNames" = some (some (.ref C_BadNames)))
    (a_BadMatch : PySem.W.nsIn K mainGlobals "BadMatch" = some (some (.ref C_BadMatch)))
    (a_NoRenaming : PySem.W.nsIn K mainGlobals "NoRenaming" = some (some (.ref C_NoRenaming)))
    (a_Pattern : PySem.W.nsIn K mainGlobals "Pattern" = some (some (.ref C_Pattern)))
    (a_u_law_hand : PySem.W.nsIn K mainGlobals "_law_hand" = some (some (.ref f_u_law_hand)))
    (l_u_law_hand : K.lookup f_u_law_hand = some ⟨oc_u_law_hand, od_u_law_hand, .func (PySem.W.fnOf "_law_hand" "_law_hand" (defArgs s_u_law_hand) (defBody s_u_law_hand) (defScope s_u_law_hand) .none kV_u_law_hand dc_u_law_hand pm_u_law_hand an_u_law_hand cd_u_law_hand ct_u_law_hand), sl_u_law_hand⟩)
    (c_u_law_hand : PySem.W.codeIn K cd_u_law_hand "_law_hand" = true)
    (k_u_law_hand : PySem.W.keepIn K (.ref f_u_law_hand) = true)
    (a_u_law_mix : PySem.W.nsIn K mainGlobals "_law_mix" = some (some (.ref f_u_law_mix)))
    (l_u_law_mix : K.lookup f_u_law_mix = some ⟨oc_u_law_mix, od_u_law_mix, .func (PySem.W.fnOf "_law_mix" "_law_mix" (defArgs s_u_law_mix) (defBody s_u_law_mix) (defScope s_u_law_mix) .none kV_u_law_mix dc_u_law_mix pm_u_law_mix an_u_law_mix cd_u_law_mix ct_u_law_mix), sl_u_law_mix⟩)
    (c_u_law_mix : PySem.W.codeIn K cd_u_law_mix "_law_mix" = true)
    (k_u_law_mix : PySem.W.keepIn K (.ref f_u_law_mix) = true)
    (a_u_law_draw : PySem.W.nsIn K mainGlobals "_law_draw" = some (some (.ref f_u_law_draw)))
    (l_u_law_draw : K.lookup f_u_law_draw = some ⟨oc_u_law_draw, od_u_law_draw, .func (PySem.W.fnOf "_law_draw" "_law_draw" (defArgs s_u_law_draw) (defBody s_u_law_draw) (defScope s_u_law_draw) .none kV_u_law_draw dc_u_law_draw pm_u_law_draw an_u_law_draw cd_u_law_draw ct_u_law_draw), sl_u_law_draw⟩)
    (c_u_law_draw : PySem.W.codeIn K cd_u_law_draw "_law_draw" = true)
    (k_u_law_draw : PySem.W.keepIn K (.ref f_u_law_draw) = true)
    (a_u_law_size : PySem.W.nsIn K mainGlobals "_law_size" = some (some (.ref f_u_law_size)))
    (l_u_law_size : K.lookup f_u_law_size = some ⟨oc_u_law_size, od_u_law_size, .func (PySem.W.fnOf "_law_size" "_law_size" (defArgs s_u_law_size) (defBody s_u_law_size) (defScope s_u_law_size) .none kV_u_law_size dc_u_law_size pm_u_law_size an_u_law_size cd_u_law_size ct_u_law_size), sl_u_law_size⟩)
    (c_u_law_size : PySem.W.codeIn K cd_u_law_size "_law_size" = true)
    (k_u_law_size : PySem.W.keepIn K (.ref f_u_law_size) = true)
    (a_u_law_entries : PySem.W.nsIn K mainGlobals "_law_entries" = some (some (.ref f_u_law_entries)))
    (l_u_law_entries : K.lookup f_u_law_entries = some ⟨oc_u_law_entries, od_u_law_entries, .func (PySem.W.fnOf "_law_entries" "_law_entries" (defArgs s_u_law_entries) (defBody s_u_law_entries) (defScope s_u_law_entries) .none kV_u_law_entries dc_u_law_entries pm_u_law_entries an_u_law_entries cd_u_law_entries ct_u_law_entries), sl_u_law_entries⟩)
    (c_u_law_entries : PySem.W.codeIn K cd_u_law_entries "_law_entries" = true)
    (k_u_law_entries : PySem.W.keepIn K (.ref f_u_law_entries) = true)
    (a_u_law_row : PySem.W.nsIn K mainGlobals "_law_row" = some (some (.ref f_u_law_row)))
    (l_u_law_row : K.lookup f_u_law_row = some ⟨oc_u_law_row, od_u_law_row, .func (PySem.W.fnOf "_law_row" "_law_row" (defArgs s_u_law_row) (defBody s_u_law_row) (defScope s_u_law_row) .none kV_u_law_row dc_u_law_row pm_u_law_row an_u_law_row cd_u_law_row ct_u_law_row), sl_u_law_row⟩)
    (c_u_law_row : PySem.W.codeIn K cd_u_law_row "_law_row" = true)
    (k_u_law_row : PySem.W.keepIn K (.ref f_u_law_row) = true)
    (a_u_law_pick : PySem.W.nsIn K mainGlobals "_law_pick" = some (some (.ref f_u_law_pick)))
    (l_u_law_pick : K.lookup f_u_law_pick = some ⟨oc_u_law_pick, od_u_law_pick, .func (PySem.W.fnOf "_law_pick" "_law_pick" (defArgs s_u_law_pick) (defBody s_u_law_pick) (defScope s_u_law_pick) .none kV_u_law_pick dc_u_law_pick pm_u_law_pick an_u_law_pick cd_u_law_pick ct_u_law_pick), sl_u_law_pick⟩)
    (c_u_law_pick : PySem.W.codeIn K cd_u_law_pick "_law_pick" = true)
    (k_u_law_pick : PySem.W.keepIn K (.ref f_u_law_pick) = true)
    (a_u_law_spoilt : PySem.W.nsIn K mainGlobals "_law_spoilt" = some (some (.ref f_u_law_spoilt)))
    (l_u_law_spoilt : K.lookup f_u_law_spoilt = some ⟨oc_u_law_spoilt, od_u_law_spoilt, .func (PySem.W.fnOf "_law_spoilt" "_law_spoilt" (defArgs s_u_law_spoilt) (defBody s_u_law_spoilt) (defScope s_u_law_spoilt) .none kV_u_law_spoilt dc_u_law_spoilt pm_u_law_spoilt an_u_law_spoilt cd_u_law_spoilt ct_u_law_spoilt), sl_u_law_spoilt⟩)
    (c_u_law_spoilt : PySem.W.codeIn K cd_u_law_spoilt "_law_spoilt" = true)
    (k_u_law_spoilt : PySem.W.keepIn K (.ref f_u_law_spoilt) = true)
    (a_entries_fault : PySem.W.nsIn K mainGlobals "entries_fault" = some (some (.ref f_entries_fault)))
    (l_entries_fault : K.lookup f_entries_fault = some ⟨oc_entries_fault, od_entries_fault, .func (PySem.W.fnOf "entries_fault" "entries_fault" (defArgs s_entries_fault) (defBody s_entries_fault) (defScope s_entries_fault) .none kV_entries_fault dc_entries_fault pm_entries_fault an_entries_fault cd_entries_fault ct_entries_fault), sl_entries_fault⟩)
    (c_entries_fault : PySem.W.codeIn K cd_entries_fault "entries_fault" = true)
    (k_entries_fault : PySem.W.keepIn K (.ref f_entries_fault) = true)
    (a_BadPattern___init : PySem.W.findIn K (.ref C_BadPattern) "__init__" = some (some (.ref f_BadPattern___init)))
    (t_BadPattern___init : PySem.W.typeIn K (.ref f_BadPattern___init) = some (.type "function"))
    (l_BadPattern___init : K.lookup f_BadPattern___init = some ⟨oc_BadPattern___init, od_BadPattern___init, .func (PySem.W.ksFn "__init__" "BadPattern.__init__" (defArgs s_BadPattern___init) (defBody s_BadPattern___init) (defScope s_BadPattern___init) .none kV_BadPattern___init dc_BadPattern___init pm_BadPattern___init an_BadPattern___init (.ref cda_BadPattern) ct_BadPattern___init cc_BadPattern), sl_BadPattern___init⟩)
    (c_BadPattern___init : PySem.W.codeIn K (.ref cda_BadPattern) "BadPattern.__init__" = true)
    (k1_BadPattern : K.lookup cda_BadPattern = some ⟨ccl_BadPattern, cdd_BadPattern, .fields vs_BadPattern, ccs_BadPattern⟩)
    (k2_BadPattern : vs_BadPattern[2]? = some (.str file_BadPattern tf_BadPattern))
    (k3_BadPattern : ((PW.main.file : Str) == file_BadPattern) = true)
    (k4_BadPattern : K.lookup cc_BadPattern = some ⟨cl_BadPattern, cld_BadPattern, .cell (some (.ref C_BadPattern)), csl_BadPattern⟩)
    (x_BadPattern : K.lookup C_BadPattern = some (excClassObj nm_BadPattern q_BadPattern C_BadPattern N_BadPattern bs_BadPattern [.ref C_CustomError, .type "ValueError", .type "Exception", .type "BaseException", .type "object"] true sn_BadPattern sub_BadPattern ab_BadPattern col_BadPattern dd_BadPattern m0_BadPattern m1_BadPattern m2_BadPattern m3_BadPattern m5_BadPattern "ValueError.__new__"))
    (sa_BadPattern : PySem.W.findIn K (.ref C_BadPattern) "__setattr__" = some (some (.builtin "object.__setattr__")))
    (ex_BadPattern : PySem.W.subIn K (.ref C_BadPattern) (.type "BaseException") = some true)
    (ty_BadPattern : PySem.W.typeIn K (.ref C_BadPattern) = some (.type "type"))
    (kc_BadPattern : PySem.W.keepIn K (.ref C_BadPattern) = true)
    (ga_BadPattern : PySem.W.findIn K (.ref C_BadPattern) "__getattribute__" = some (some (.builtin "BaseException.__getattribute__")))
    (gg_BadPattern : PySem.W.findIn K (.ref C_BadPattern) "__getattr__" = some none)
    (hd_BadPattern : PySem.W.hasDictIn K C_BadPattern = true)
    (su_BadPattern : PySem.W.ks_superIn K C_BadPattern C_BadPattern "__init__" = some (some (.builtin "ValueError.__init__")))
    (iv_BadPattern : PySem.W.subIn K (.ref C_BadPattern) (.type "ValueError") = some true)
    (se_BadPattern : PySem.W.mroIn K C_BadPattern (.ref C_BadPattern) = some true)
    (opq : PySem.W.nsIn K cStatics "thirdparty.any" = some none)
    (u_BadPattern : (PW.main.scope.names.lookup ("super" : Str)).isSome = false)
    (n_BadPattern_index : PySem.W.findIn K (.ref C_BadPattern) "index" = some none)
    (n_BadPattern_what : PySem.W.findIn K (.ref C_BadPattern) "what" = some none)
    (a_Pattern___init : PySem.W.findIn K (.ref C_Pattern) "__init__" = some (some (.ref f_Pattern___init)))
    (l_Pattern___init : K.lookup f_Pattern___init = some ⟨oc_Pattern___init, od_Pattern___init, .func (PySem.W.fnOf "__init__" "Pattern.__init__" (defArgs s_Pattern___init) (defBody s_Pattern___init) (defScope s_Pattern___init) .none kV_Pattern___init dc_Pattern___init pm_Pattern___init an_Pattern___init cd_Pattern___init ct_Pattern___init), sl_Pattern___init⟩)
    (c_Pattern___init : PySem.W.codeIn K cd_Pattern___init "Pattern.__init__" = true)
    (k_Pattern___init : PySem.W.keepIn K (.ref f_Pattern___init) = true)
    (i_Pattern___init : PySem.W.isFn K (.ref f_Pattern___init) = true)
    (a_u_law_pool : PySem.W.nsIn K mainGlobals "_law_pool" = some (some (.ref f_u_law_pool)))
    (l_u_law_pool : K.lookup f_u_law_pool = some ⟨oc_u_law_pool, od_u_law_pool, .func (PySem.W.fnOf "_law_pool" "_law_pool" (defArgs s_u_law_pool) (defBody s_u_law_pool) (defScope s_u_law_pool) .none kV_u_law_pool dc_u_law_pool pm_u_law_pool an_u_law_pool cd_u_law_pool ct_u_law_pool), sl_u_law_pool⟩)
    (c_u_law_pool : PySem.W.codeIn K cd_u_law_pool "_law_pool" = true)
    (k_u_law_pool : PySem.W.keepIn K (.ref f_u_law_pool) = true)
    (a_u_law_count : PySem.W.nsIn K mainGlobals "_law_count" = some (some (.ref f_u_law_count)))
    (l_u_law_count : K.lookup f_u_law_count = some ⟨oc_u_law_count, od_u_law_count, .func (PySem.W.fnOf "_law_count" "_law_count" (defArgs s_u_law_count) (defBody s_u_law_count) (defScope s_u_law_count) .none kV_u_law_count dc_u_law_count pm_u_law_count an_u_law_count cd_u_law_count ct_u_law_count), sl_u_law_count⟩)
    (c_u_law_count : PySem.W.codeIn K cd_u_law_count "_law_count" = true)
    (k_u_law_count : PySem.W.keepIn K (.ref f_u_law_count) = true)
    (a_is_whole : PySem.W.nsIn K mainGlobals "is_whole" = some (some (.ref f_is_whole)))
    (l_is_whole : K.lookup f_is_whole = some ⟨oc_is_whole, od_is_whole, .func (PySem.W.fnOf "is_whole" "is_whole" (defArgs s_is_whole) (defBody s_is_whole) (defScope s_is_whole) .none kV_is_whole dc_is_whole pm_is_whole an_is_whole cd_is_whole ct_is_whole), sl_is_whole⟩)
    (c_is_whole : PySem.W.codeIn K cd_is_whole "is_whole" = true)
    (k_is_whole : PySem.W.keepIn K (.ref f_is_whole) = true)
    (a_is_name : PySem.W.nsIn K mainGlobals "is_name" = some (some (.ref f_is_name)))
    (l_is_name : K.lookup f_is_name = some ⟨oc_is_name, od_is_name, .func (PySem.W.fnOf "is_name" "is_name" (defArgs s_is_name) (defBody s_is_name) (defScope s_is_name) .none kV_is_name dc_is_name pm_is_name an_is_name cd_is_name ct_is_name), sl_is_name⟩)
    (c_is_name : PySem.W.codeIn K cd_is_name "is_name" = true)
    (k_is_name : PySem.W.keepIn K (.ref f_is_name) = true)
    (a_names_fault : PySem.W.nsIn K mainGlobals "names_fault" = some (some (.ref f_names_fault)))
    (l_names_fault : K.lookup f_names_fault = some ⟨oc_names_fault, od_names_fault, .func (PySem.W.fnOf "names_fault" "names_fault" (defArgs s_names_fault) (defBody s_names_fault) (defScope s_names_fault) .none kV_names_fault dc_names_fault pm_names_fault an_names_fault cd_names_fault ct_names_fault), sl_names_fault⟩)
    (c_names_fault : PySem.W.codeIn K cd_names_fault "names_fault" = true)
    (k_names_fault : PySem.W.keepIn K (.ref f_names_fault) = true)
    (a_BadNames___init : PySem.W.findIn K (.ref C_BadNames) "__init__" = some (some (.ref f_BadNames___init)))
    (t_BadNames___init : PySem.W.typeIn K (.ref f_BadNames___init) = some (.type "function"))
    (l_BadNames___init : K.lookup f_BadNames___init = some ⟨oc_BadNames___init, od_BadNames___init, .func (PySem.W.ksFn "__init__" "BadNames.__init__" (defArgs s_BadNames___init) (defBody s_BadNames___init) (defScope s_BadNames___init) .none kV_BadNames___init dc_BadNames___init pm_BadNames___init an_BadNames___init (.ref cda_BadNames) ct_BadNames___init cc_BadNames), sl_BadNames___init⟩)
    (c_BadNames___init : PySem.W.codeIn K (.ref cda_BadNames) "BadNames.__init__" = true)
    (k1_BadNames : K.lookup cda_BadNames = some ⟨ccl_BadNames, cdd_BadNames, .fields vs_BadNames, ccs_BadNames⟩)
    (k2_BadNames : vs_BadNames[2]? = some (.str file_BadNames tf_BadNames))
    (k3_BadNames : ((PW.main.file : Str) == file_BadNames) = true)
    (k4_BadNames : K.lookup cc_BadNames = some ⟨cl_BadNames, cld_BadNames, .cell (some (.ref C_BadNames)), csl_BadNames⟩)
    (x_BadNames : K.lookup C_BadNames = some (excClassObj nm_BadNames q_BadNames C_BadNames N_BadNames bs_BadNames [.ref C_CustomError, .type "ValueError", .type "Exception", .type "BaseException", .type "object"] true sn_BadNames sub_BadNames ab_BadNames col_BadNames dd_BadNames m0_BadNames m1_BadNames m2_BadNames m3_BadNames m5_BadNames "ValueError.__new__"))
    (sa_BadNames : PySem.W.findIn K (.ref C_BadNames) "__setattr__" = some (some (.builtin "object.__setattr__")))
    (ex_BadNames : PySem.W.subIn K (.ref C_BadNames) (.type "BaseException") = some true)
    (ty_BadNames : PySem.W.typeIn K (.ref C_BadNames) = some (.type "type"))
    (kc_BadNames : PySem.W.keepIn K (.ref C_BadNames) = true)
    (ga_BadNames : PySem.W.findIn K (.ref C_BadNames) "__getattribute__" = some (some (.builtin "BaseException.__getattribute__")))
    (gg_BadNames : PySem.W.findIn K (.ref C_BadNames) "__getattr__" = some none)
    (hd_BadNames : PySem.W.hasDictIn K C_BadNames = true)
    (su_BadNames : PySem.W.ks_superIn K C_BadNames C_BadNames "__init__" = some (some (.builtin "ValueError.__init__")))
    (iv_BadNames : PySem.W.subIn K (.ref C_BadNames) (.type "ValueError") = some true)
    (se_BadNames : PySem.W.mroIn K C_BadNames (.ref C_BadNames) = some true)
    (u_BadNames : (PW.main.scope.names.lookup ("super" : Str)).isSome = false)
    (n_BadNames_index : PySem.W.findIn K (.ref C_BadNames) "index" = some none)
    (n_BadNames_what : PySem.W.findIn K (.ref C_BadNames) "what" = some none)
    (a_check_names : PySem.W.nsIn K mainGlobals "check_names" = some (some (.ref f_check_names)))
    (l_check_names : K.lookup f_check_names = some ⟨oc_check_names, od_check_names, .func (PySem.W.fnOf "check_names" "check_names" (defArgs s_check_names) (defBody s_check_names) (defScope s_check_names) .none kV_check_names dc_check_names pm_check_names an_check_names cd_check_names ct_check_names), sl_check_names⟩)
    (c_check_names : PySem.W.codeIn K cd_check_names "check_names" = true)
    (k_check_names : PySem.W.keepIn K (.ref f_check_names) = true)
    (a_class_numbers : PySem.W.nsIn K mainGlobals "class_numbers" = some (some (.ref f_class_numbers)))
    (l_class_numbers : K.lookup f_class_numbers = some ⟨oc_class_numbers, od_class_numbers, .func (PySem.W.fnOf "class_numbers" "class_numbers" (defArgs s_class_numbers) (defBody s_class_numbers) (defScope s_class_numbers) .none kV_class_numbers dc_class_numbers pm_class_numbers an_class_numbers cd_class_numbers ct_class_numbers), sl_class_numbers⟩)
    (c_class_numbers : PySem.W.codeIn K cd_class_numbers "class_numbers" = true)
    (k_class_numbers : PySem.W.keepIn K (.ref f_class_numbers) = true)
    (a_first_difference : PySem.W.nsIn K mainGlobals "first_difference" = some (some (.ref f_first_difference)))
    (l_first_difference : K.lookup f_first_difference = some ⟨oc_first_difference, od_first_difference, .func (PySem.W.fnOf "first_difference" "first_difference" (defArgs s_first_difference) (defBody s_first_difference) (defScope s_first_difference) .none kV_first_difference dc_first_difference pm_first_difference an_first_difference cd_first_difference ct_first_difference), sl_first_difference⟩)
    (c_first_difference : PySem.W.codeIn K cd_first_difference "first_difference" = true)
    (k_first_difference : PySem.W.keepIn K (.ref f_first_difference) = true)
    (a_u_law_numbers : PySem.W.nsIn K mainGlobals "_law_numbers" = some (some (.ref f_u_law_numbers)))
    (l_u_law_numbers : K.lookup f_u_law_numbers = some ⟨oc_u_law_numbers, od_u_law_numbers, .func (PySem.W.fnOf "_law_numbers" "_law_numbers" (defArgs s_u_law_numbers) (defBody s_u_law_numbers) (defScope s_u_law_numbers) .none kV_u_law_numbers dc_u_law_numbers pm_u_law_numbers an_u_law_numbers cd_u_law_numbers ct_u_law_numbers), sl_u_law_numbers⟩)
    (c_u_law_numbers : PySem.W.codeIn K cd_u_law_numbers "_law_numbers" = true)
    (k_u_law_numbers : PySem.W.keepIn K (.ref f_u_law_numbers) = true)
    (a_u_law_differs : PySem.W.nsIn K mainGlobals "_law_differs" = some (some (.ref f_u_law_differs)))
    (l_u_law_differs : K.lookup f_u_law_differs = some ⟨oc_u_law_differs, od_u_law_differs, .func (PySem.W.fnOf "_law_differs" "_law_differs" (defArgs s_u_law_differs) (defBody s_u_law_differs) (defScope s_u_law_differs) .none kV_u_law_differs dc_u_law_differs pm_u_law_differs an_u_law_differs cd_u_law_differs ct_u_law_differs), sl_u_law_differs⟩)
    (c_u_law_differs : PySem.W.codeIn K cd_u_law_differs "_law_differs" = true)
    (k_u_law_differs : PySem.W.keepIn K (.ref f_u_law_differs) = true)
    (a_u_law_odd : PySem.W.nsIn K mainGlobals "_law_odd" = some (some (.ref f_u_law_odd)))
    (l_u_law_odd : K.lookup f_u_law_odd = some ⟨oc_u_law_odd, od_u_law_odd, .func (PySem.W.fnOf "_law_odd" "_law_odd" (defArgs s_u_law_odd) (defBody s_u_law_odd) (defScope s_u_law_odd) .none kV_u_law_odd dc_u_law_odd pm_u_law_odd an_u_law_odd cd_u_law_odd ct_u_law_odd), sl_u_law_odd⟩)
    (c_u_law_odd : PySem.W.codeIn K cd_u_law_odd "_law_odd" = true)
    (k_u_law_odd : PySem.W.keepIn K (.ref f_u_law_odd) = true)
    (a_u_law_told : PySem.W.nsIn K mainGlobals "_law_told" = some (some (.ref f_u_law_told)))
    (l_u_law_told : K.lookup f_u_law_told = some ⟨oc_u_law_told, od_u_law_told, .func (PySem.W.fnOf "_law_told" "_law_told" (defArgs s_u_law_told) (defBody s_u_law_told) (defScope s_u_law_told) .none kV_u_law_told dc_u_law_told pm_u_law_told an_u_law_told cd_u_law_told ct_u_law_told), sl_u_law_told⟩)
    (c_u_law_told : PySem.W.codeIn K cd_u_law_told "_law_told" = true)
    (k_u_law_told : PySem.W.keepIn K (.ref f_u_law_told) = true)
    (a_NoRenaming___init : PySem.W.findIn K (.ref C_NoRenaming) "__init__" = some (some (.ref f_NoRenaming___init)))
    (t_NoRenaming___init : PySem.W.typeIn K (.ref f_NoRenaming___init) = some (.type "function"))
    (l_NoRenaming___init : K.lookup f_NoRenaming___init = some ⟨oc_NoRenaming___init, od_NoRenaming___init, .func (PySem.W.ksFn "__init__" "NoRenaming.__init__" (defArgs s_NoRenaming___init) (defBody s_NoRenaming___init) (defScope s_NoRenaming___init) .none kV_NoRenaming___init dc_NoRenaming___init pm_NoRenaming___init an_NoRenaming___init (.ref cda_NoRenaming) ct_NoRenaming___init cc_NoRenaming), sl_NoRenaming___init⟩)
    (c_NoRenaming___init : PySem.W.codeIn K (.ref cda_NoRenaming) "NoRenaming.__init__" = true)
    (k1_NoRenaming : K.lookup cda_NoRenaming = some ⟨ccl_NoRenaming, cdd_NoRenaming, .fields vs_NoRenaming, ccs_NoRenaming⟩)
    (k2_NoRenaming : vs_NoRenaming[2]? = some (.str file_NoRenaming tf_NoRenaming))
    (k3_NoRenaming : ((PW.main.file : Str) == file_NoRenaming) = true)
    (k4_NoRenaming : K.lookup cc_NoRenaming = some ⟨cl_NoRenaming, cld_NoRenaming, .cell (some (.ref C_NoRenaming)), csl_NoRenaming⟩)
    (x_NoRenaming : K.lookup C_NoRenaming = some (excClassObj nm_NoRenaming q_NoRenaming C_NoRenaming N_NoRenaming bs_NoRenaming [.ref C_CustomError, .type "ValueError", .type "Exception", .type "BaseException", .type "object"] true sn_NoRenaming sub_NoRenaming ab_NoRenaming col_NoRenaming dd_NoRenaming m0_NoRenaming m1_NoRenaming m2_NoRenaming m3_NoRenaming m5_NoRenaming "ValueError.__new__"))
    (sa_NoRenaming : PySem.W.findIn K (.ref C_NoRenaming) "__setattr__" = some (some (.builtin "object.__setattr__")))
    (ex_NoRenaming : PySem.W.subIn K (.ref C_NoRenaming) (.type "BaseException") = some true)
    (ty_NoRenaming : PySem.W.typeIn K (.ref C_NoRenaming) = some (.type "type"))
    (kc_NoRenaming : PySem.W.keepIn K (.ref C_NoRenaming) = true)
    (ga_NoRenaming : PySem.W.findIn K (.ref C_NoRenaming) "__getattribute__" = some (some (.builtin "BaseException.__getattribute__")))
    (gg_NoRenaming : PySem.W.findIn K (.ref C_NoRenaming) "__getattr__" = some none)
    (hd_NoRenaming : PySem.W.hasDictIn K C_NoRenaming = true)
    (su_NoRenaming : PySem.W.ks_superIn K C_NoRenaming C_NoRenaming "__init__" = some (some (.builtin "ValueError.__init__")))
    (iv_NoRenaming : PySem.W.subIn K (.ref C_NoRenaming) (.type "ValueError") = some true)
    (se_NoRenaming : PySem.W.mroIn K C_NoRenaming (.ref C_NoRenaming) = some true)
    (u_NoRenaming : (PW.main.scope.names.lookup ("super" : Str)).isSome = false)
    (n_NoRenaming_place : PySem.W.findIn K (.ref C_NoRenaming) "place" = some none)
    (a_renaming_of : PySem.W.nsIn K mainGlobals "renaming_of" = some (some (.ref f_renaming_of)))
    (l_renaming_of : K.lookup f_renaming_of = some ⟨oc_renaming_of, od_renaming_of, .func (PySem.W.fnOf "renaming_of" "renaming_of" (defArgs s_renaming_of) (defBody s_renaming_of) (defScope s_renaming_of) .none kV_renaming_of dc_renaming_of pm_renaming_of an_renaming_of cd_renaming_of ct_renaming_of), sl_renaming_of⟩)
    (c_renaming_of : PySem.W.codeIn K cd_renaming_of "renaming_of" = true)
    (k_renaming_of : PySem.W.keepIn K (.ref f_renaming_of) = true)
    (a_check_unlike_names : PySem.W.nsIn K mainGlobals "check_unlike_names" = some (some (.ref f_check_unlike_names)))
    (l_check_unlike_names : K.lookup f_check_unlike_names = some ⟨oc_check_unlike_names, od_check_unlike_names, .func (PySem.W.fnOf "check_unlike_names" "check_unlike_names" (defArgs s_check_unlike_names) (defBody s_check_unlike_names) (defScope s_check_unlike_names) .none kV_check_unlike_names dc_check_unlike_names pm_check_unlike_names an_check_unlike_names cd_check_unlike_names ct_check_unlike_names), sl_check_unlike_names⟩)
    (c_check_unlike_names : PySem.W.codeIn K cd_check_unlike_names "check_unlike_names" = true)
    (k_check_unlike_names : PySem.W.keepIn K (.ref f_check_unlike_names) = true)
    (pa_Pattern_class_count : PySem.W.findIn K (.ref C_Pattern) "class_count" = some (some (.ref pp_Pattern_class_count)))
    (pg_Pattern_class_count : PySem.W.specialIn K (.ref pp_Pattern_class_count) "__get__" = some (some (.builtin "property.__get__")))
    (pt_Pattern_class_count : PySem.W.takesIn K (.ref pp_Pattern_class_count) = some true)
    (pc_Pattern_class_count : PySem.W.recIn K pp_Pattern_class_count "property" = some (.ref f_Pattern_class_count :: pr_Pattern_class_count))
    (l_Pattern_class_count : K.lookup f_Pattern_class_count = some ⟨oc_Pattern_class_count, od_Pattern_class_count, .func (PySem.W.fnOf "class_count" "Pattern.class_count" (defArgs s_Pattern_class_count) (defBody s_Pattern_class_count) (defScope s_Pattern_class_count) .none kV_Pattern_class_count dc_Pattern_class_count pm_Pattern_class_count an_Pattern_class_count cd_Pattern_class_count ct_Pattern_class_count), sl_Pattern_class_count⟩)
    (c_Pattern_class_count : PySem.W.codeIn K cd_Pattern_class_count "Pattern.class_count" = true)
    (k_Pattern_class_count : PySem.W.keepIn K (.ref f_Pattern_class_count) = true)
    (a_names_for : PySem.W.nsIn K mainGlobals "names_for" = some (some (.ref f_names_for)))
    (l_names_for : K.lookup f_names_for = some ⟨oc_names_for, od_names_for, .func (PySem.W.fnOf "names_for" "names_for" (defArgs s_names_for) (defBody s_names_for) (defScope s_names_for) .none kV_names_for dc_names_for pm_names_for an_names_for cd_names_for ct_names_for), sl_names_for⟩)
    (c_names_for : PySem.W.codeIn K cd_names_for "names_for" = true)
    (k_names_for : PySem.W.keepIn K (.ref f_names_for) = true)
    (a_u_law_odd_right : PySem.W.nsIn K mainGlobals "_law_odd_right" = some (some (.ref f_u_law_odd_right)))
    (l_u_law_odd_right : K.lookup f_u_law_odd_right = some ⟨oc_u_law_odd_right, od_u_law_odd_right, .func (PySem.W.fnOf "_law_odd_right" "_law_odd_right" (defArgs s_u_law_odd_right) (defBody s_u_law_odd_right) (defScope s_u_law_odd_right) .none kV_u_law_odd_right dc_u_law_odd_right pm_u_law_odd_right an_u_law_odd_right (.ref q_u_law_odd_right) ct_u_law_odd_right), sl_u_law_odd_right⟩)
    (c_u_law_odd_right : PySem.W.codeIn K (.ref q_u_law_odd_right) "_law_odd_right" = true)
    (kq_u_law_odd_right : K.lookup q_u_law_odd_right = some ⟨kc_u_law_odd_right, kd_u_law_odd_right, .fields kv_u_law_odd_right, ks_u_law_odd_right⟩)
    (kt_u_law_odd_right : kv_u_law_odd_right[11]? = some (.ref p_u_law_odd_right))
    (np_u_law_odd_right : K.lookup p_u_law_odd_right = none)
    (k_u_law_odd_right : PySem.W.keepIn K (.ref f_u_law_odd_right) = true)
    (a_u_law_due_pairs : PySem.W.nsIn K mainGlobals "_law_due_pairs" = some (some (.ref f_u_law_due_pairs)))
    (l_u_law_due_pairs : K.lookup f_u_law_due_pairs = some ⟨oc_u_law_due_pairs, od_u_law_due_pairs, .func (PySem.W.fnOf "_law_due_pairs" "_law_due_pairs" (defArgs s_u_law_due_pairs) (defBody s_u_law_due_pairs) (defScope s_u_law_due_pairs) .none kV_u_law_due_pairs dc_u_law_due_pairs pm_u_law_due_pairs an_u_law_due_pairs cd_u_law_due_pairs ct_u_law_due_pairs), sl_u_law_due_pairs⟩)
    (c_u_law_due_pairs : PySem.W.codeIn K cd_u_law_due_pairs "_law_due_pairs" = true)
    (k_u_law_due_pairs : PySem.W.keepIn K (.ref f_u_law_due_pairs) = true)
    (a_u_law_renaming_right : PySem.W.nsIn K mainGlobals "_law_renaming_right" = some (some (.ref f_u_law_renaming_right)))
    (l_u_law_renaming_right : K.lookup f_u_law_renaming_right = some ⟨oc_u_law_renaming_right, od_u_law_renaming_right, .func (PySem.W.fnOf "_law_renaming_right" "_law_renaming_right" (defArgs s_u_law_renaming_right) (defBody s_u_law_renaming_right) (defScope s_u_law_renaming_right) .none kV_u_law_renaming_right dc_u_law_renaming_right pm_u_law_renaming_right an_u_law_renaming_right (.ref q_u_law_renaming_right) ct_u_law_renaming_right), sl_u_law_renaming_right⟩)
    (c_u_law_renaming_right : PySem.W.codeIn K (.ref q_u_law_renaming_right) "_law_renaming_right" = true)
    (kq_u_law_renaming_right : K.lookup q_u_law_renaming_right = some ⟨kc_u_law_renaming_right, kd_u_law_renaming_right, .fields kv_u_law_renaming_right, ks_u_law_renaming_right⟩)
    (kt_u_law_renaming_right : kv_u_law_renaming_right[11]? = some (.ref p_u_law_renaming_right))
    (np_u_law_renaming_right : K.lookup p_u_law_renaming_right = none)
    (k_u_law_renaming_right : PySem.W.keepIn K (.ref f_u_law_renaming_right) = true)
    (a_law : PySem.W.nsIn K mainGlobals "law" = some (some (.ref f_law)))
    (l_law : K.lookup f_law = some ⟨oc_law, od_law, .func (PySem.W.fnOf "law" "law" (defArgs s_law) (defBody s_law) (defScope s_law) .none kV_law dc_law pm_law an_law cd_law ct_law), sl_law⟩)
    (c_law : PySem.W.codeIn K cd_law "law" = true)
    (k_law : PySem.W.keepIn K (.ref f_law) = true)
    (hn : PySem.W.specialIn K (.builtin "object.__class__") "__get__" = some (some (.builtin "getset_descriptor.__get__")))
    (ht : PySem.W.takesIn K (.builtin "object.__class__") = some true)
    (pg_Pattern : PySem.W.plainGet K C_Pattern Str.empty = true)
    (hd_Pattern : PySem.W.hasDictIn K C_Pattern = true)
    (po_Pattern : PySem.W.plainOver K C_Pattern = true)
    (sa_Pattern : PySem.W.findIn K (.ref C_Pattern) "__setattr__" = some (some (.builtin "object.__setattr__")))
    (ha_Pattern : PySem.W.findIn K (.ref C_Pattern) "__class__" = some (some (.builtin "object.__class__")))
    (hm_Pattern : PySem.W.mroIn K C_Pattern (.type "object") = some true)
    (na_Pattern_entries : PySem.W.findIn K (.ref C_Pattern) "entries" = some none)
    (mk_Pattern : PySem.W.makesIn K C_Pattern = true)
    (kc_Pattern : PySem.W.keepIn K (.ref C_Pattern) = true)
    (sb_CustomError_BadNames : PySem.W.subIn K (.ref C_CustomError) (.ref C_BadNames) = some false)
    (sb_BadPattern_BadNames : PySem.W.subIn K (.ref C_BadPattern) (.ref C_BadNames) = some false)
    (sb_BadNames_BadNames : PySem.W.subIn K (.ref C_BadNames) (.ref C_BadNames) = some true)
    (sb_BadMatch_BadNames : PySem.W.subIn K (.ref C_BadMatch) (.ref C_BadNames) = some false)
    (sb_NoRenaming_BadNames : PySem.W.subIn K (.ref C_NoRenaming) (.ref C_BadNames) = some false)
    (sb_CustomError_NoRenaming : PySem.W.subIn K (.ref C_CustomError) (.ref C_NoRenaming) = some false)
    (sb_BadPattern_NoRenaming : PySem.W.subIn K (.ref C_BadPattern) (.ref C_NoRenaming) = some false)
    (sb_BadNames_NoRenaming : PySem.W.subIn K (.ref C_BadNames) (.ref C_NoRenaming) = some false)
    (sb_BadMatch_NoRenaming : PySem.W.subIn K (.ref C_BadMatch) (.ref C_NoRenaming) = some false)
    (sb_NoRenaming_NoRenaming : PySem.W.subIn K (.ref C_NoRenaming) (.ref C_NoRenaming) = some true)
    (tbne : p_u_law_odd_right ≠ p_u_law_renaming_right) :
    ∃ (c1 P1 c2 P2 : Addr) (fd : FuncData), PySem.W.tabIn K "_law_odd_right" = some (c1, P1) ∧ (K).lookup P1 = none ∧ PySem.W.tabIn K "_law_renaming_right" = some (c2, P2) ∧ (K).lookup P2 = none ∧ (∀ (s : Shared) (u : Value), BindsTo s fd ⟨[u], []⟩ [("_law_script", u)]) ∧ ∀ base : Heap, K.In base → base.Ns mainGlobals mg → LamX.TabB base mg c1 P1 → LamX.TabB base mg c2 P2 → NK.FnQ PW w K mg base (L2.CX PW w) 9 fa fd ["_law_script"] (spLaw K P1 P2) := by
  have e := hfa.symm.trans (PySem.W.mg_of X G a_law)
  have e2 : fa = f_law := by
    cases e
    rfl
  rw [e2]
  have F_u_law_hand : FunD K "_law_hand" "_law_hand" (defArgs s_u_law_hand) (defBody s_u_law_hand) (defScope s_u_law_hand) [] [] f_u_law_hand (PySem.W.fnOf "_law_hand" "_law_hand" (defArgs s_u_law_hand) (defBody s_u_law_hand) (defScope s_u_law_hand) .none kV_u_law_hand dc_u_law_hand pm_u_law_hand an_u_law_hand cd_u_law_hand ct_u_law_hand) := ⟨⟨_, _, _, _, _, _, _, _, _, _, rfl, l_u_law_hand, c_u_law_hand, .inl ⟨rfl, rfl⟩, .inl rfl⟩, k_u_law_hand⟩
  have F_u_law_mix : FunD K "_law_mix" "_law_mix" (defArgs s_u_law_mix) (defBody s_u_law_mix) (defScope s_u_law_mix) [] [] f_u_law_mix (PySem.W.fnOf "_law_mix" "_law_mix" (defArgs s_u_law_mix) (defBody s_u_law_mix) (defScope s_u_law_mix) .none kV_u_law_mix dc_u_law_mix pm_u_law_mix an_u_law_mix cd_u_law_mix ct_u_law_mix) := ⟨⟨_, _, _, _, _, _, _, _, _, _, rfl, l_u_law_mix, c_u_law_mix, .inl ⟨rfl, rfl⟩, .inl rfl⟩, k_u_law_mix⟩
  have F_u_law_draw : FunD K "_law_draw" "_law_draw" (defArgs s_u_law_draw) (defBody s_u_law_draw) (defScope s_u_law_draw) [] [] f_u_law_draw (PySem.W.fnOf "_law_draw" "_law_draw" (defArgs s_u_law_draw) (defBody s_u_law_draw) (defScope s_u_law_draw) .none kV_u_law_draw dc_u_law_draw pm_u_law_draw an_u_law_draw cd_u_law_draw ct_u_law_draw) := ⟨⟨_, _, _, _, _, _, _, _, _, _, rfl, l_u_law_draw, c_u_law_draw, .inl ⟨rfl, rfl⟩, .inl rfl⟩, k_u_law_draw⟩
  have F_u_law_size : FunD K "_law_size" "_law_size" (defArgs s_u_law_size) (defBody s_u_law_size) (defScope s_u_law_size) [] [] f_u_law_size (PySem.W.fnOf "_law_size" "_law_size" (defArgs s_u_law_size) (defBody s_u_law_size) (defScope s_u_law_size) .none kV_u_law_size dc_u_law_size pm_u_law_size an_u_law_size cd_u_law_size ct_u_law_size) := ⟨⟨_, _, _, _, _, _, _, _, _, _, rfl, l_u_law_size, c_u_law_size, .inl ⟨rfl, rfl⟩, .inl rfl⟩, k_u_law_size⟩
  have F_u_law_entries : FunD K "_law_entries" "_law_entries" (defArgs s_u_law_entries) (defBody s_u_law_entries) (defScope s_u_law_entries) [] [] f_u_law_entries (PySem.W.fnOf "_law_entries" "_law_entries" (defArgs s_u_law_entries) (defBody s_u_law_entries) (defScope s_u_law_entries) .none kV_u_law_entries dc_u_law_entries pm_u_law_entries an_u_law_entries cd_u_law_entries ct_u_law_entries) := ⟨⟨_, _, _, _, _, _, _, _, _, _, rfl, l_u_law_entries, c_u_law_entries, .inl ⟨rfl, rfl⟩, .inl rfl⟩, k_u_law_entries⟩
  have F_u_law_row : FunD K "_law_row" "_law_row" (defArgs s_u_law_row) (defBody s_u_law_row) (defScope s_u_law_row) [] [] f_u_law_row (PySem.W.fnOf "_law_row" "_law_row" (defArgs s_u_law_row) (defBody s_u_law_row) (defScope s_u_law_row) .none kV_u_law_row dc_u_law_row pm_u_law_row an_u_law_row cd_u_law_row ct_u_law_row) := ⟨⟨_, _, _, _, _, _, _, _, _, _, rfl, l_u_law_row, c_u_law_row, .inl ⟨rfl, rfl⟩, .inl rfl⟩, k_u_law_row⟩
  have F_u_law_pick : FunD K "_law_pick" "_law_pick" (defArgs s_u_law_pick) (defBody s_u_law_pick) (defScope s_u_law_pick) [] [] f_u_law_pick (PySem.W.fnOf "_law_pick" "_law_pick" (defArgs s_u_law_pick) (defBody s_u_law_pick) (defScope s_u_law_pick) .none kV_u_law_pick dc_u_law_pick pm_u_law_pick an_u_law_pick cd_u_law_pick ct_u_law_pick) := ⟨⟨_, _, _, _, _, _, _, _, _, _, rfl, l_u_law_pick, c_u_law_pick, .inl ⟨rfl, rfl⟩, .inl rfl⟩, k_u_law_pick⟩
  have F_u_law_spoilt : FunD K "_law_spoilt" "_law_spoilt" (defArgs s_u_law_spoilt) (defBody s_u_law_spoilt) (defScope s_u_law_spoilt) [] [] f_u_law_spoilt (PySem.W.fnOf "_law_spoilt" "_law_spoilt" (defArgs s_u_law_spoilt) (defBody s_u_law_spoilt) (defScope s_u_law_spoilt) .none kV_u_law_spoilt dc_u_law_spoilt pm_u_law_spoilt an_u_law_spoilt cd_u_law_spoilt ct_u_law_spoilt) := ⟨⟨_, _, _, _, _, _, _, _, _, _, rfl, l_u_law_spoilt, c_u_law_spoilt, .inl ⟨rfl, rfl⟩, .inl rfl⟩, k_u_law_spoilt⟩
  have F_entries_fault : FunD K "entries_fault" "entries_fault" (defArgs s_entries_fault) (defBody s_entries_fault) (defScope s_entries_fault) [] [] f_entries_fault (PySem.W.fnOf "entries_fault" "entries_fault" (defArgs s_entries_fault) (defBody s_entries_fault) (defScope s_entries_fault) .none kV_entries_fault dc_entries_fault pm_entries_fault an_entries_fault cd_entries_fault ct_entries_fault) := ⟨⟨_, _, _, _, _, _, _, _, _, _, rfl, l_entries_fault, c_entries_fault, .inl ⟨rfl, rfl⟩, .inl rfl⟩, k_entries_fault⟩
  have F_Pattern___init : FunD K "__init__" "Pattern.__init__" (defArgs s_Pattern___init) (defBody s_Pattern___init) (defScope s_Pattern___init) [] [] f_Pattern___init (PySem.W.fnOf "__init__" "Pattern.__init__" (defArgs s_Pattern___init) (defBody s_Pattern___init) (defScope s_Pattern___init) .none kV_Pattern___init dc_Pattern___init pm_Pattern___init an_Pattern___init cd_Pattern___init ct_Pattern___init) := ⟨⟨_, _, _, _, _, _, _, _, _, _, rfl, l_Pattern___init, c_Pattern___init, .inl ⟨rfl, rfl⟩, .inl rfl⟩, k_Pattern___init⟩
  have F_u_law_pool : FunD K "_law_pool" "_law_pool" (defArgs s_u_law_pool) (defBody s_u_law_pool) (defScope s_u_law_pool) [] [] f_u_law_pool (PySem.W.fnOf "_law_pool" "_law_pool" (defArgs s_u_law_pool) (defBody s_u_law_pool) (defScope s_u_law_pool) .none kV_u_law_pool dc_u_law_pool pm_u_law_pool an_u_law_pool cd_u_law_pool ct_u_law_pool) := ⟨⟨_, _, _, _, _, _, _, _, _, _, rfl, l_u_law_pool, c_u_law_pool, .inl ⟨rfl, rfl⟩, .inl rfl⟩, k_u_law_pool⟩
  have F_u_law_count : FunD K "_law_count" "_law_count" (defArgs s_u_law_count) (defBody s_u_law_count) (defScope s_u_law_count) [] [] f_u_law_count (PySem.W.fnOf "_law_count" "_law_count" (defArgs s_u_law_count) (defBody s_u_law_count) (defScope s_u_law_count) .none kV_u_law_count dc_u_law_count pm_u_law_count an_u_law_count cd_u_law_count ct_u_law_count) := ⟨⟨_, _, _, _, _, _, _, _, _, _, rfl, l_u_law_count, c_u_law_count, .inl ⟨rfl, rfl⟩, .inl rfl⟩, k_u_law_count⟩
  have F_is_whole : FunD K "is_whole" "is_whole" (defArgs s_is_whole) (defBody s_is_whole) (defScope s_is_whole) [] [] f_is_whole (PySem.W.fnOf "is_whole" "is_whole" (defArgs s_is_whole) (defBody s_is_whole) (defScope s_is_whole) .none kV_is_whole dc_is_whole pm_is_whole an_is_whole cd_is_whole ct_is_whole) := ⟨⟨_, _, _, _, _, _, _, _, _, _, rfl, l_is_whole, c_is_whole, .inl ⟨rfl, rfl⟩, .inl rfl⟩, k_is_whole⟩
  have F_is_name : FunD K "is_name" "is_name" (defArgs s_is_name) (defBody s_is_name) (defScope s_is_name) [] [] f_is_name (PySem.W.fnOf "is_name" "is_name" (defArgs s_is_name) (defBody s_is_name) (defScope s_is_name) .none kV_is_name dc_is_name pm_is_name an_is_name cd_is_name ct_is_name) := ⟨⟨_, _, _, _, _, _, _, _, _, _, rfl, l_is_name, c_is_name, .inl ⟨rfl, rfl⟩, .inl rfl⟩, k_is_name⟩
  have F_names_fault : FunD K "names_fault" "names_fault" (defArgs s_names_fault) (defBody s_names_fault) (defScope s_names_fault) [] [] f_names_fault (PySem.W.fnOf "names_fault" "names_fault" (defArgs s_names_fault) (defBody s_names_fault) (defScope s_names_fault) .none kV_names_fault dc_names_fault pm_names_fault an_names_fault cd_names_fault ct_names_fault) := ⟨⟨_, _, _, _, _, _, _, _, _, _, rfl, l_names_fault, c_names_fault, .inl ⟨rfl, rfl⟩, .inl rfl⟩, k_names_fault⟩
  have F_check_names : FunD K "check_names" "check_names" (defArgs s_check_names) (defBody s_check_names) (defScope s_check_names) [] [] f_check_names (PySem.W.fnOf "check_names" "check_names" (defArgs s_check_names) (defBody s_check_names) (defScope s_check_names) .none kV_check_names dc_check_names pm_check_names an_check_names cd_check_names ct_check_names) := ⟨⟨_, _, _, _, _, _, _, _, _, _, rfl, l_check_names, c_check_names, .inl ⟨rfl, rfl⟩, .inl rfl⟩, k_check_names⟩
  have F_class_numbers : FunD K "class_numbers" "class_numbers" (defArgs s_class_numbers) (defBody s_class_numbers) (defScope s_class_numbers) [] [] f_class_numbers (PySem.W.fnOf "class_numbers" "class_numbers" (defArgs s_class_numbers) (defBody s_class_numbers) (defScope s_class_numbers) .none kV_class_numbers dc_class_numbers pm_class_numbers an_class_numbers cd_class_numbers ct_class_numbers) := ⟨⟨_, _, _, _, _, _, _, _, _, _, rfl, l_class_numbers, c_class_numbers, .inl ⟨rfl, rfl⟩, .inl rfl⟩, k_class_numbers⟩
  have F_first_difference : FunD K "first_difference" "first_difference" (defArgs s_first_difference) (defBody s_first_difference) (defScope s_first_difference) [] [] f_first_difference (PySem.W.fnOf "first_difference" "first_difference" (defArgs s_first_difference) (defBody s_first_difference) (defScope s_first_difference) .none kV_first_difference dc_first_difference pm_first_difference an_first_difference cd_first_difference ct_first_difference) := ⟨⟨_, _, _, _, _, _, _, _, _, _, rfl, l_first_difference, c_first_difference, .inl ⟨rfl, rfl⟩, .inl rfl⟩, k_first_difference⟩
  have F_u_law_numbers : FunD K "_law_numbers" "_law_numbers" (defArgs s_u_law_numbers) (defBody s_u_law_numbers) (defScope s_u_law_numbers) [] [] f_u_law_numbers (PySem.W.fnOf "_law_numbers" "_law_numbers" (defArgs s_u_law_numbers) (defBody s_u_law_numbers) (defScope s_u_law_numbers) .none kV_u_law_numbers dc_u_law_numbers pm_u_law_numbers an_u_law_numbers cd_u_law_numbers ct_u_law_numbers) := ⟨⟨_, _, _, _, _, _, _, _, _, _, rfl, l_u_law_numbers, c_u_law_numbers, .inl ⟨rfl, rfl⟩, .inl rfl⟩, k_u_law_numbers⟩
  have F_u_law_differs : FunD K "_law_differs" "_law_differs" (defArgs s_u_law_differs) (defBody s_u_law_differs) (defScope s_u_law_differs) [] [] f_u_law_differs (PySem.W.fnOf "_law_differs" "_law_differs" (defArgs s_u_law_differs) (defBody s_u_law_differs) (defScope s_u_law_differs) .none kV_u_law_differs dc_u_law_differs pm_u_law_differs an_u_law_differs cd_u_law_differs ct_u_law_differs) := ⟨⟨_, _, _, _, _, _, _, _, _, _, rfl, l_u_law_differs, c_u_law_differs, .inl ⟨rfl, rfl⟩, .inl rfl⟩, k_u_law_differs⟩
  have F_u_law_odd : FunD K "_law_odd" "_law_odd" (defArgs s_u_law_odd) (defBody s_u_law_odd) (defScope s_u_law_odd) [] [] f_u_law_odd (PySem.W.fnOf "_law_odd" "_law_odd" (defArgs s_u_law_odd) (defBody s_u_law_odd) (defScope s_u_law_odd) .none kV_u_law_odd dc_u_law_odd pm_u_law_odd an_u_law_odd cd_u_law_odd ct_u_law_odd) := ⟨⟨_, _, _, _, _, _, _, _, _, _, rfl, l_u_law_odd, c_u_law_odd, .inl ⟨rfl, rfl⟩, .inl rfl⟩, k_u_law_odd⟩
  have F_u_law_told : FunD K "_law_told" "_law_told" (defArgs s_u_law_told) (defBody s_u_law_told) (defScope s_u_law_told) [] [] f_u_law_told (PySem.W.fnOf "_law_told" "_law_told" (defArgs s_u_law_told) (defBody s_u_law_told) (defScope s_u_law_told) .none kV_u_law_told dc_u_law_told pm_u_law_told an_u_law_told cd_u_law_told ct_u_law_told) := ⟨⟨_, _, _, _, _, _, _, _, _, _, rfl, l_u_law_told, c_u_law_told, .inl ⟨rfl, rfl⟩, .inl rfl⟩, k_u_law_told⟩
  have F_renaming_of : FunD K "renaming_of" "renaming_of" (defArgs s_renaming_of) (defBody s_renaming_of) (defScope s_renaming_of) [] [] f_renaming_of (PySem.W.fnOf "renaming_of" "renaming_of" (defArgs s_renaming_of) (defBody s_renaming_of) (defScope s_renaming_of) .none kV_renaming_of dc_renaming_of pm_renaming_of an_renaming_of cd_renaming_of ct_renaming_of) := ⟨⟨_, _, _, _, _, _, _, _, _, _, rfl, l_renaming_of, c_renaming_of, .inl ⟨rfl, rfl⟩, .inl rfl⟩, k_renaming_of⟩
  have F_check_unlike_names : FunD K "check_unlike_names" "check_unlike_names" (defArgs s_check_unlike_names) (defBody s_check_unlike_names) (defScope s_check_unlike_names) [] [] f_check_unlike_names (PySem.W.fnOf "check_unlike_names" "check_unlike_names" (defArgs s_check_unlike_names) (defBody s_check_unlike_names) (defScope s_check_unlike_names) .none kV_check_unlike_names dc_check_unlike_names pm_check_unlike_names an_check_unlike_names cd_check_unlike_names ct_check_unlike_names) := ⟨⟨_, _, _, _, _, _, _, _, _, _, rfl, l_check_unlike_names, c_check_unlike_names, .inl ⟨rfl, rfl⟩, .inl rfl⟩, k_check_unlike_names⟩
  have F_Pattern_class_count : FunD K "class_count" "Pattern.class_count" (defArgs s_Pattern_class_count) (defBody s_Pattern_class_count) (defScope s_Pattern_class_count) [] [] f_Pattern_class_count (PySem.W.fnOf "class_count" "Pattern.class_count" (defArgs s_Pattern_class_count) (defBody s_Pattern_class_count) (defScope s_Pattern_class_count) .none kV_Pattern_class_count dc_Pattern_class_count pm_Pattern_class_count an_Pattern_class_count cd_Pattern_class_count ct_Pattern_class_count) := ⟨⟨_, _, _, _, _, _, _, _, _, _, rfl, l_Pattern_class_count, c_Pattern_class_count, .inl ⟨rfl, rfl⟩, .inl rfl⟩, k_Pattern_class_count⟩
  have F_names_for : FunD K "names_for" "names_for" (defArgs s_names_for) (defBody s_names_for) (defScope s_names_for) [] [] f_names_for (PySem.W.fnOf "names_for" "names_for" (defArgs s_names_for) (defBody s_names_for) (defScope s_names_for) .none kV_names_for dc_names_for pm_names_for an_names_for cd_names_for ct_names_for) := ⟨⟨_, _, _, _, _, _, _, _, _, _, rfl, l_names_for, c_names_for, .inl ⟨rfl, rfl⟩, .inl rfl⟩, k_names_for⟩
  have F_u_law_odd_right : FunD K "_law_odd_right" "_law_odd_right" (defArgs s_u_law_odd_right) (defBody s_u_law_odd_right) (defScope s_u_law_odd_right) [] [] f_u_law_odd_right (PySem.W.fnOf "_law_odd_right" "_law_odd_right" (defArgs s_u_law_odd_right) (defBody s_u_law_odd_right) (defScope s_u_law_odd_right) .none kV_u_law_odd_right dc_u_law_odd_right pm_u_law_odd_right an_u_law_odd_right (.ref q_u_law_odd_right) ct_u_law_odd_right) := ⟨⟨_, _, _, _, _, _, _, _, _, _, rfl, l_u_law_odd_right, c_u_law_odd_right, .inl ⟨rfl, rfl⟩, .inl rfl⟩, k_u_law_odd_right⟩
  have F_u_law_due_pairs : FunD K "_law_due_pairs" "_law_due_pairs" (defArgs s_u_law_due_pairs) (defBody s_u_law_due_pairs) (defScope s_u_law_due_pairs) [] [] f_u_law_due_pairs (PySem.W.fnOf "_law_due_pairs" "_law_due_pairs" (defArgs s_u_law_due_pairs) (defBody s_u_law_due_pairs) (defScope s_u_law_due_pairs) .none kV_u_law_due_pairs dc_u_law_due_pairs pm_u_law_due_pairs an_u_law_due_pairs cd_u_law_due_pairs ct_u_law_due_pairs) := ⟨⟨_, _, _, _, _, _, _, _, _, _, rfl, l_u_law_due_pairs, c_u_law_due_pairs, .inl ⟨rfl, rfl⟩, .inl rfl⟩, k_u_law_due_pairs⟩
  have F_u_law_renaming_right : FunD K "_law_renaming_right" "_law_renaming_right" (defArgs s_u_law_renaming_right) (defBody s_u_law_renaming_right) (defScope s_u_law_renaming_right) [] [] f_u_law_renaming_right (PySem.W.fnOf "_law_renaming_right" "_law_renaming_right" (defArgs s_u_law_renaming_right) (defBody s_u_law_renaming_right) (defScope s_u_law_renaming_right) .none kV_u_law_renaming_right dc_u_law_renaming_right pm_u_law_renaming_right an_u_law_renaming_right (.ref q_u_law_renaming_right) ct_u_law_renaming_right) := ⟨⟨_, _, _, _, _, _, _, _, _, _, rfl, l_u_law_renaming_right, c_u_law_renaming_right, .inl ⟨rfl, rfl⟩, .inl rfl⟩, k_u_law_renaming_right⟩
  have F_law : FunD K "law" "law" (defArgs s_law) (defBody s_law) (defScope s_law) [] [] f_law (PySem.W.fnOf "law" "law" (defArgs s_law) (defBody s_law) (defScope s_law) .none kV_law dc_law pm_law an_law cd_law ct_law) := ⟨⟨_, _, _, _, _, _, _, _, _, _, rfl, l_law, c_law, .inl ⟨rfl, rfl⟩, .inl rfl⟩, k_law⟩
  refine ⟨q_u_law_odd_right, p_u_law_odd_right, q_u_law_renaming_right, p_u_law_renaming_right, _, tab_at a_u_law_odd_right l_u_law_odd_right rfl kq_u_law_odd_right kt_u_law_odd_right, np_u_law_odd_right, tab_at a_u_law_renaming_right l_u_law_renaming_right rfl kq_u_law_renaming_right kt_u_law_renaming_right, np_u_law_renaming_right, fun s v => F_law.bindsA (ps := ["_law_script"]) (fun _ _ _ _ _ _ us hl => match us, hl with | [_], _ => rfl) s [v] rfl, fun base _ _ tbx1 tbx2 => ?_⟩
  have T : Txt K mg base { c_CustomError := C_CustomError, c_BadPattern := C_BadPattern, c_BadNames := C_BadNames, c_BadMatch := C_BadMatch, c_NoRenaming := C_NoRenaming, c_Pattern := C_Pattern, f_u_law_hand := f_u_law_hand, d_u_law_hand := (PySem.W.fnOf "_law_hand" "_law_hand" (defArgs s_u_law_hand) (defBody s_u_law_hand) (defScope s_u_law_hand) .none kV_u_law_hand dc_u_law_hand pm_u_law_hand an_u_law_hand cd_u_law_hand ct_u_law_hand), f_u_law_mix := f_u_law_mix, d_u_law_mix := (PySem.W.fnOf "_law_mix" "_law_mix" (defArgs s_u_law_mix) (defBody s_u_law_mix) (defScope s_u_law_mix) .none kV_u_law_mix dc_u_law_mix pm_u_law_mix an_u_law_mix cd_u_law_mix ct_u_law_mix), f_u_law_draw := f_u_law_draw, d_u_law_draw := (PySem.W.fnOf "_law_draw" "_law_draw" (defArgs s_u_law_draw) (defBody s_u_law_draw) (defScope s_u_law_draw) .none kV_u_law_draw dc_u_law_draw pm_u_law_draw an_u_law_draw cd_u_law_draw ct_u_law_draw), f_u_law_size := f_u_law_size, d_u_law_size := (PySem.W.fnOf "_law_size" "_law_size" (defArgs s_u_law_size) (defBody s_u_law_size) (defScope s_u_law_size) .none kV_u_law_size dc_u_law_size pm_u_law_size an_u_law_size cd_u_law_size ct_u_law_size), f_u_law_entries := f_u_law_entries, d_u_law_entries := (PySem.W.fnOf "_law_entries" "_law_entries" (defArgs s_u_law_entries) (defBody s_u_law_entries) (defScope s_u_law_entries) .none kV_u_law_entries dc_u_law_entries pm_u_law_entries an_u_law_entries cd_u_law_entries ct_u_law_entries), f_u_law_row := f_u_law_row, d_u_law_row := (PySem.W.fnOf "_law_row" "_law_row" (defArgs s_u_law_row) (defBody s_u_law_row) (defScope s_u_law_row) .none kV_u_law_row dc_u_law_row pm_u_law_row an_u_law_row cd_u_law_row ct_u_law_row), f_u_law_pick := f_u_law_pick, d_u_law_pick := (PySem.W.fnOf "_law_pick" "_law_pick" (defArgs s_u_law_pick) (defBody s_u_law_pick) (defScope s_u_law_pick) .none kV_u_law_pick dc_u_law_pick pm_u_law_pick an_u_law_pick cd_u_law_pick ct_u_law_pick), f_u_law_spoilt := f_u_law_spoilt, d_u_law_spoilt := (PySem.W.fnOf "_law_spoilt" "_law_spoilt" (defArgs s_u_law_spoilt) (defBody s_u_law_spoilt) (defScope s_u_law_spoilt) .none kV_u_law_spoilt dc_u_law_spoilt pm_u_law_spoilt an_u_law_spoilt cd_u_law_spoilt ct_u_law_spoilt), f_entries_fault := f_entries_fault, d_entries_fault := (PySem.W.fnOf "entries_fault" "entries_fault" (defArgs s_entries_fault) (defBody s_entries_fault) (defScope s_entries_fault) .none kV_entries_fault dc_entries_fault pm_entries_fault an_entries_fault cd_entries_fault ct_entries_fault), f_BadPattern___init := f_BadPattern___init, d_BadPattern___init := (PySem.W.ksFn "__init__" "BadPattern.__init__" (defArgs s_BadPattern___init) (defBody s_BadPattern___init) (defScope s_BadPattern___init) .none kV_BadPattern___init dc_BadPattern___init pm_BadPattern___init an_BadPattern___init (.ref cda_BadPattern) ct_BadPattern___init cc_BadPattern), cda_BadPattern := cda_BadPattern, cc_BadPattern := cc_BadPattern, f_Pattern___init := f_Pattern___init, d_Pattern___init := (PySem.W.fnOf "__init__" "Pattern.__init__" (defArgs s_Pattern___init) (defBody s_Pattern___init) (defScope s_Pattern___init) .none kV_Pattern___init dc_Pattern___init pm_Pattern___init an_Pattern___init cd_Pattern___init ct_Pattern___init), f_u_law_pool := f_u_law_pool, d_u_law_pool := (PySem.W.fnOf "_law_pool" "_law_pool" (defArgs s_u_law_pool) (defBody s_u_law_pool) (defScope s_u_law_pool) .none kV_u_law_pool dc_u_law_pool pm_u_law_pool an_u_law_pool cd_u_law_pool ct_u_law_pool), f_u_law_count := f_u_law_count, d_u_law_count := (PySem.W.fnOf "_law_count" "_law_count" (defArgs s_u_law_count) (defBody s_u_law_count) (defScope s_u_law_count) .none kV_u_law_count dc_u_law_count pm_u_law_count an_u_law_count cd_u_law_count ct_u_law_count), f_is_whole := f_is_whole, d_is_whole := (PySem.W.fnOf "is_whole" "is_whole" (defArgs s_is_whole) (defBody s_is_whole) (defScope s_is_whole) .none kV_is_whole dc_is_whole pm_is_whole an_is_whole cd_is_whole ct_is_whole), f_is_name := f_is_name, d_is_name := (PySem.W.fnOf "is_name" "is_name" (defArgs s_is_name) (defBody s_is_name) (defScope s_is_name) .none kV_is_name dc_is_name pm_is_name an_is_name cd_is_name ct_is_name), f_names_fault := f_names_fault, d_names_fault := (PySem.W.fnOf "names_fault" "names_fault" (defArgs s_names_fault) (defBody s_names_fault) (defScope s_names_fault) .none kV_names_fault dc_names_fault pm_names_fault an_names_fault cd_names_fault ct_names_fault), f_BadNames___init := f_BadNames___init, d_BadNames___init := (PySem.W.ksFn "__init__" "BadNames.__init__" (defArgs s_BadNames___init) (defBody s_BadNames___init) (defScope s_BadNames___init) .none kV_BadNames___init dc_BadNames___init pm_BadNames___init an_BadNames___init (.ref cda_BadNames) ct_BadNames___init cc_BadNames), cda_BadNames := cda_BadNames, cc_BadNames := cc_BadNames, f_check_names := f_check_names, d_check_names := (PySem.W.fnOf "check_names" "check_names" (defArgs s_check_names) (defBody s_check_names) (defScope s_check_names) .none kV_check_names dc_check_names pm_check_names an_check_names cd_check_names ct_check_names), f_class_numbers := f_class_numbers, d_class_numbers := (PySem.W.fnOf "class_numbers" "class_numbers" (defArgs s_class_numbers) (defBody s_class_numbers) (defScope s_class_numbers) .none kV_class_numbers dc_class_numbers pm_class_numbers an_class_numbers cd_class_numbers ct_class_numbers), f_first_difference := f_first_difference, d_first_difference := (PySem.W.fnOf "first_difference" "first_difference" (defArgs s_first_difference) (defBody s_first_difference) (defScope s_first_difference) .none kV_first_difference dc_first_difference pm_first_difference an_first_difference cd_first_difference ct_first_difference), f_u_law_numbers := f_u_law_numbers, d_u_law_numbers := (PySem.W.fnOf "_law_numbers" "_law_numbers" (defArgs s_u_law_numbers) (defBody s_u_law_numbers) (defScope s_u_law_numbers) .none kV_u_law_numbers dc_u_law_numbers pm_u_law_numbers an_u_law_numbers cd_u_law_numbers ct_u_law_numbers), f_u_law_differs := f_u_law_differs, d_u_law_differs := (PySem.W.fnOf "_law_differs" "_law_differs" (defArgs s_u_law_differs) (defBody s_u_law_differs) (defScope s_u_law_differs) .none kV_u_law_differs dc_u_law_differs pm_u_law_differs an_u_law_differs cd_u_law_differs ct_u_law_differs), f_u_law_odd := f_u_law_odd, d_u_law_odd := (PySem.W.fnOf "_law_odd" "_law_odd" (defArgs s_u_law_odd) (defBody s_u_law_odd) (defScope s_u_law_odd) .none kV_u_law_odd dc_u_law_odd pm_u_law_odd an_u_law_odd cd_u_law_odd ct_u_law_odd), f_u_law_told := f_u_law_told, d_u_law_told := (PySem.W.fnOf "_law_told" "_law_told" (defArgs s_u_law_told) (defBody s_u_law_told) (defScope s_u_law_told) .none kV_u_law_told dc_u_law_told pm_u_law_told an_u_law_told cd_u_law_told ct_u_law_told), f_NoRenaming___init := f_NoRenaming___init, d_NoRenaming___init := (PySem.W.ksFn "__init__" "NoRenaming.__init__" (defArgs s_NoRenaming___init) (defBody s_NoRenaming___init) (defScope s_NoRenaming___init) .none kV_NoRenaming___init dc_NoRenaming___init pm_NoRenaming___init an_NoRenaming___init (.ref cda_NoRenaming) ct_NoRenaming___init cc_NoRenaming), cda_NoRenaming := cda_NoRenaming, cc_NoRenaming := cc_NoRenaming, f_renaming_of := f_renaming_of, d_renaming_of := (PySem.W.fnOf "renaming_of" "renaming_of" (defArgs s_renaming_of) (defBody s_renaming_of) (defScope s_renaming_of) .none kV_renaming_of dc_renaming_of pm_renaming_of an_renaming_of cd_renaming_of ct_renaming_of), f_check_unlike_names := f_check_unlike_names, d_check_unlike_names := (PySem.W.fnOf "check_unlike_names" "check_unlike_names" (defArgs s_check_unlike_names) (defBody s_check_unlike_names) (defScope s_check_unlike_names) .none kV_check_unlike_names dc_check_unlike_names pm_check_unlike_names an_check_unlike_names cd_check_unlike_names ct_check_unlike_names), pp_Pattern_class_count := pp_Pattern_class_count, f_Pattern_class_count := f_Pattern_class_count, d_Pattern_class_count := (PySem.W.fnOf "class_count" "Pattern.class_count" (defArgs s_Pattern_class_count) (defBody s_Pattern_class_count) (defScope s_Pattern_class_count) .none kV_Pattern_class_count dc_Pattern_class_count pm_Pattern_class_count an_Pattern_class_count cd_Pattern_class_count ct_Pattern_class_count), f_names_for := f_names_for, d_names_for := (PySem.W.fnOf "names_for" "names_for" (defArgs s_names_for) (defBody s_names_for) (defScope s_names_for) .none kV_names_for dc_names_for pm_names_for an_names_for cd_names_for ct_names_for), q_u_law_odd_right := q_u_law_odd_right, p_u_law_odd_right := p_u_law_odd_right, f_u_law_odd_right := f_u_law_odd_right, d_u_law_odd_right := (PySem.W.fnOf "_law_odd_right" "_law_odd_right" (defArgs s_u_law_odd_right) (defBody s_u_law_odd_right) (defScope s_u_law_odd_right) .none kV_u_law_odd_right dc_u_law_odd_right pm_u_law_odd_right an_u_law_odd_right (.ref q_u_law_odd_right) ct_u_law_odd_right), f_u_law_due_pairs := f_u_law_due_pairs, d_u_law_due_pairs := (PySem.W.fnOf "_law_due_pairs" "_law_due_pairs" (defArgs s_u_law_due_pairs) (defBody s_u_law_due_pairs) (defScope s_u_law_due_pairs) .none kV_u_law_due_pairs dc_u_law_due_pairs pm_u_law_due_pairs an_u_law_due_pairs cd_u_law_due_pairs ct_u_law_due_pairs), q_u_law_renaming_right := q_u_law_renaming_right, p_u_law_renaming_right := p_u_law_renaming_right, f_u_law_renaming_right := f_u_law_renaming_right, d_u_law_renaming_right := (PySem.W.fnOf "_law_renaming_right" "_law_renaming_right" (defArgs s_u_law_renaming_right) (defBody s_u_law_renaming_right) (defScope s_u_law_renaming_right) .none kV_u_law_renaming_right dc_u_law_renaming_right pm_u_law_renaming_right an_u_law_renaming_right (.ref q_u_law_renaming_right) ct_u_law_renaming_right), f_law := f_law, d_law := (PySem.W.fnOf "law" "law" (defArgs s_law) (defBody s_law) (defScope s_law) .none kV_law dc_law pm_law an_law cd_law ct_law), v_MOST_NAME := .int 1000000000000000000000000000000 tk_MOST_NAME, v_MOST_PLACES := .int 40 tk_MOST_PLACES } := {
    z_abs := PySem.W.mg_none_of X G z_abs
    z_bool := PySem.W.mg_none_of X G z_bool
    z_enumerate := PySem.W.mg_none_of X G z_enumerate
    z_int := PySem.W.mg_none_of X G z_int
    z_isinstance := PySem.W.mg_none_of X G z_isinstance
    z_len := PySem.W.mg_none_of X G z_len
    z_list := PySem.W.mg_none_of X G z_list
    z_max := PySem.W.mg_none_of X G z_max
    z_min := PySem.W.mg_none_of X G z_min
    z_range := PySem.W.mg_none_of X G z_range
    z_repr := PySem.W.mg_none_of X G z_repr
    z_super := PySem.W.mg_none_of X G z_super
    z_tuple := PySem.W.mg_none_of X G z_tuple
    g_MOST_NAME := ⟨⟨_, rfl⟩, PySem.W.mg_of X G g_MOST_NAME⟩
    g_MOST_PLACES := ⟨⟨_, rfl⟩, PySem.W.mg_of X G g_MOST_PLACES⟩
    c_CustomError := PySem.W.mg_of X G a_CustomError
    c_BadPattern := PySem.W.mg_of X G a_BadPattern
    c_BadNames := PySem.W.mg_of X G a_BadNames
    c_BadMatch := PySem.W.mg_of X G a_BadMatch
    c_NoRenaming := PySem.W.mg_of X G a_NoRenaming
    c_Pattern := PySem.W.mg_of X G a_Pattern
    F_u_law_hand := F_u_law_hand
    b_u_law_hand := F_u_law_hand.bindsN fun _ _ _ _ _ _ us hl => match us, hl with | [_], _ => rfl
    m_u_law_hand := PySem.W.mg_of X G a_u_law_hand
    k_u_law_hand := k_u_law_hand
    F_u_law_mix := F_u_law_mix
    b_u_law_mix := F_u_law_mix.bindsN fun _ _ _ _ _ _ us hl => match us, hl with | [_, _], _ => rfl
    m_u_law_mix := PySem.W.mg_of X G a_u_law_mix
    k_u_law_mix := k_u_law_mix
    F_u_law_draw := F_u_law_draw
    b_u_law_draw := F_u_law_draw.bindsN fun _ _ _ _ _ _ us hl => match us, hl with | [_, _], _ => rfl
    m_u_law_draw := PySem.W.mg_of X G a_u_law_draw
    k_u_law_draw := k_u_law_draw
    F_u_law_size := F_u_law_size
    b_u_law_size := F_u_law_size.bindsN fun _ _ _ _ _ _ us hl => match us, hl with | [_], _ => rfl
    m_u_law_size := PySem.W.mg_of X G a_u_law_size
    k_u_law_size := k_u_law_size
    F_u_law_entries := F_u_law_entries
    b_u_law_entries := F_u_law_entries.bindsN fun _ _ _ _ _ _ us hl => match us, hl with | [_, _, _], _ => rfl
    m_u_law_entries := PySem.W.mg_of X G a_u_law_entries
    k_u_law_entries := k_u_law_entries
    F_u_law_row := F_u_law_row
    b_u_law_row := F_u_law_row.bindsN fun _ _ _ _ _ _ us hl => match us, hl with | [_, _], _ => rfl
    m_u_law_row := PySem.W.mg_of X G a_u_law_row
    k_u_law_row := k_u_law_row
    F_u_law_pick := F_u_law_pick
    b_u_law_pick := F_u_law_pick.bindsN fun _ _ _ _ _ _ us hl => match us, hl with | [_, _], _ => rfl
    m_u_law_pick := PySem.W.mg_of X G a_u_law_pick
    k_u_law_pick := k_u_law_pick
    F_u_law_spoilt := F_u_law_spoilt
    b_u_law_spoilt := F_u_law_spoilt.bindsN fun _ _ _ _ _ _ us hl => match us, hl with | [_, _, _], _ => rfl
    m_u_law_spoilt := PySem.W.mg_of X G a_u_law_spoilt
    k_u_law_spoilt := k_u_law_spoilt
    F_entries_fault := F_entries_fault
    b_entries_fault := F_entries_fault.bindsN fun _ _ _ _ _ _ us hl => match us, hl with | [_], _ => rfl
    m_entries_fault := PySem.W.mg_of X G a_entries_fault
    k_entries_fault := k_entries_fault
    l_BadPattern := ⟨_, _, _, _, _, _, _, _, _, rfl, l_BadPattern___init, c_BadPattern___init⟩
    b_BadPattern___init := .all fun us hl => match us, hl with | [_, _, _], _ => rfl
    S_BadPattern := ⟨rfl, rfl, rfl, by decide +kernel, rfl, by decide +kernel, by decide +kernel, fun y hy => (show ∀ p ∈ (defScope s_BadPattern___init).names, p.2 = .free → p.1 = ("__class__" : Str) by decide +kernel) _ (lookup_mem hy) rfl, rfl, rfl, ⟨_, _, _, _, _, _, k1_BadPattern, k2_BadPattern, k3_BadPattern⟩, ⟨_, _, _, k4_BadPattern⟩, ⟨⟨nm_BadPattern, q_BadPattern, N_BadPattern, bs_BadPattern, _, sn_BadPattern, sub_BadPattern, ab_BadPattern, col_BadPattern, dd_BadPattern, m0_BadPattern, m1_BadPattern, m2_BadPattern, m3_BadPattern, m5_BadPattern, x_BadPattern, rfl⟩, sa_BadPattern, ex_BadPattern, ty_BadPattern, kc_BadPattern⟩, su_BadPattern, iv_BadPattern, se_BadPattern, opq, PySem.W.mg_none_of X G z_super, u_BadPattern⟩
    e_BadPattern := ⟨⟨nm_BadPattern, q_BadPattern, N_BadPattern, bs_BadPattern, _, sn_BadPattern, sub_BadPattern, ab_BadPattern, col_BadPattern, dd_BadPattern, m0_BadPattern, m1_BadPattern, m2_BadPattern, m3_BadPattern, m5_BadPattern, x_BadPattern, rfl⟩, sa_BadPattern, ex_BadPattern, ty_BadPattern, kc_BadPattern⟩
    ei_BadPattern := a_BadPattern___init
    et_BadPattern := t_BadPattern___init
    x_BadPattern := ⟨ga_BadPattern, gg_BadPattern, ex_BadPattern, hd_BadPattern⟩
    n_BadPattern_index := n_BadPattern_index
    n_BadPattern_what := n_BadPattern_what
    F_Pattern___init := F_Pattern___init
    b_Pattern___init := F_Pattern___init.bindsN fun _ _ _ _ _ _ us hl => match us, hl with | [_, _], _ => rfl
    F_u_law_pool := F_u_law_pool
    b_u_law_pool := F_u_law_pool.bindsN fun _ _ _ _ _ _ us hl => match us, hl with | [_, _], _ => rfl
    m_u_law_pool := PySem.W.mg_of X G a_u_law_pool
    k_u_law_pool := k_u_law_pool
    F_u_law_count := F_u_law_count
    b_u_law_count := F_u_law_count.bindsN fun _ _ _ _ _ _ us hl => match us, hl with | [_], _ => rfl
    m_u_law_count := PySem.W.mg_of X G a_u_law_count
    k_u_law_count := k_u_law_count
    F_is_whole := F_is_whole
    b_is_whole := F_is_whole.bindsN fun _ _ _ _ _ _ us hl => match us, hl with | [_, _, _], _ => rfl
    m_is_whole := PySem.W.mg_of X G a_is_whole
    k_is_whole := k_is_whole
    F_is_name := F_is_name
    b_is_name := F_is_name.bindsN fun _ _ _ _ _ _ us hl => match us, hl with | [_], _ => rfl
    m_is_name := PySem.W.mg_of X G a_is_name
    k_is_name := k_is_name
    F_names_fault := F_names_fault
    b_names_fault := F_names_fault.bindsN fun _ _ _ _ _ _ us hl => match us, hl with | [_], _ => rfl
    m_names_fault := PySem.W.mg_of X G a_names_fault
    k_names_fault := k_names_fault
    l_BadNames := ⟨_, _, _, _, _, _, _, _, _, rfl, l_BadNames___init, c_BadNames___init⟩
    b_BadNames___init := .all fun us hl => match us, hl with | [_, _, _], _ => rfl
    S_BadNames := ⟨rfl, rfl, rfl, by decide +kernel, rfl, by decide +kernel, by decide +kernel, fun y hy => (show ∀ p ∈ (defScope s_BadNames___init).names, p.2 = .free → p.1 = ("__class__" : Str) by decide +kernel) _ (lookup_mem hy) rfl, rfl, rfl, ⟨_, _, _, _, _, _, k1_BadNames, k2_BadNames, k3_BadNames⟩, ⟨_, _, _, k4_BadNames⟩, ⟨⟨nm_BadNames, q_BadNames, N_BadNames, bs_BadNames, _, sn_BadNames, sub_BadNames, ab_BadNames, col_BadNames, dd_BadNames, m0_BadNames, m1_BadNames, m2_BadNames, m3_BadNames, m5_BadNames, x_BadNames, rfl⟩, sa_BadNames, ex_BadNames, ty_BadNames, kc_BadNames⟩, su_BadNames, iv_BadNames, se_BadNames, opq, PySem.W.mg_none_of X G z_super, u_BadNames⟩
    e_BadNames := ⟨⟨nm_BadNames, q_BadNames, N_BadNames, bs_BadNames, _, sn_BadNames, sub_BadNames, ab_BadNames, col_BadNames, dd_BadNames, m0_BadNames, m1_BadNames, m2_BadNames, m3_BadNames, m5_BadNames, x_BadNames, rfl⟩, sa_BadNames, ex_BadNames, ty_BadNames, kc_BadNames⟩
    ei_BadNames := a_BadNames___init
    et_BadNames := t_BadNames___init
    x_BadNames := ⟨ga_BadNames, gg_BadNames, ex_BadNames, hd_BadNames⟩
    n_BadNames_index := n_BadNames_index
    n_BadNames_what := n_BadNames_what
    F_check_names := F_check_names
    b_check_names := F_check_names.bindsN fun _ _ _ _ _ _ us hl => match us, hl with | [_], _ => rfl
    m_check_names := PySem.W.mg_of X G a_check_names
    k_check_names := k_check_names
    F_class_numbers := F_class_numbers
    b_class_numbers := F_class_numbers.bindsN fun _ _ _ _ _ _ us hl => match us, hl with | [_], _ => rfl
    m_class_numbers := PySem.W.mg_of X G a_class_numbers
    k_class_numbers := k_class_numbers
    F_first_difference := F_first_difference
    b_first_difference := F_first_difference.bindsN fun _ _ _ _ _ _ us hl => match us, hl with | [_, _], _ => rfl
    m_first_difference := PySem.W.mg_of X G a_first_difference
    k_first_difference := k_first_difference
    F_u_law_numbers := F_u_law_numbers
    b_u_law_numbers := F_u_law_numbers.bindsN fun _ _ _ _ _ _ us hl => match us, hl with | [_], _ => rfl
    m_u_law_numbers := PySem.W.mg_of X G a_u_law_numbers
    k_u_law_numbers := k_u_law_numbers
    F_u_law_differs := F_u_law_differs
    b_u_law_differs := F_u_law_differs.bindsN fun _ _ _ _ _ _ us hl => match us, hl with | [_, _], _ => rfl
    m_u_law_differs := PySem.W.mg_of X G a_u_law_differs
    k_u_law_differs := k_u_law_differs
    F_u_law_odd := F_u_law_odd
    b_u_law_odd := F_u_law_odd.bindsN fun _ _ _ _ _ _ us hl => match us, hl with | [_, _, _], _ => rfl
    m_u_law_odd := PySem.W.mg_of X G a_u_law_odd
    k_u_law_odd := k_u_law_odd
    F_u_law_told := F_u_law_told
    b_u_law_told := F_u_law_told.bindsN fun _ _ _ _ _ _ us hl => match us, hl with | [_], _ => rfl
    m_u_law_told := PySem.W.mg_of X G a_u_law_told
    k_u_law_told := k_u_law_told
    l_NoRenaming := ⟨_, _, _, _, _, _, _, _, _, rfl, l_NoRenaming___init, c_NoRenaming___init⟩
    b_NoRenaming___init := .all fun us hl => match us, hl with | [_, _], _ => rfl
    S_NoRenaming := ⟨rfl, rfl, rfl, by decide +kernel, rfl, by decide +kernel, by decide +kernel, fun y hy => (show ∀ p ∈ (defScope s_NoRenaming___init).names, p.2 = .free → p.1 = ("__class__" : Str) by decide +kernel) _ (lookup_mem hy) rfl, rfl, rfl, ⟨_, _, _, _, _, _, k1_NoRenaming, k2_NoRenaming, k3_NoRenaming⟩, ⟨_, _, _, k4_NoRenaming⟩, ⟨⟨nm_NoRenaming, q_NoRenaming, N_NoRenaming, bs_NoRenaming, _, sn_NoRenaming, sub_NoRenaming, ab_NoRenaming, col_NoRenaming, dd_NoRenaming, m0_NoRenaming, m1_NoRenaming, m2_NoRenaming, m3_NoRenaming, m5_NoRenaming, x_NoRenaming, rfl⟩, sa_NoRenaming, ex_NoRenaming, ty_NoRenaming, kc_NoRenaming⟩, su_NoRenaming, iv_NoRenaming, se_NoRenaming, opq, PySem.W.mg_none_of X G z_super, u_NoRenaming⟩
    e_NoRenaming := ⟨⟨nm_NoRenaming, q_NoRenaming, N_NoRenaming, bs_NoRenaming, _, sn_NoRenaming, sub_NoRenaming, ab_NoRenaming, col_NoRenaming, dd_NoRenaming, m0_NoRenaming, m1_NoRenaming, m2_NoRenaming, m3_NoRenaming, m5_NoRenaming, x_NoRenaming, rfl⟩, sa_NoRenaming, ex_NoRenaming, ty_NoRenaming, kc_NoRenaming⟩
    ei_NoRenaming := a_NoRenaming___init
    et_NoRenaming := t_NoRenaming___init
    x_NoRenaming := ⟨ga_NoRenaming, gg_NoRenaming, ex_NoRenaming, hd_NoRenaming⟩
    n_NoRenaming_place := n_NoRenaming_place
    F_renaming_of := F_renaming_of
    b_renaming_of := F_renaming_of.bindsN fun _ _ _ _ _ _ us hl => match us, hl with | [_, _], _ => rfl
    m_renaming_of := PySem.W.mg_of X G a_renaming_of
    k_renaming_of := k_renaming_of
    F_check_unlike_names := F_check_unlike_names
    b_check_unlike_names := F_check_unlike_names.bindsN fun _ _ _ _ _ _ us hl => match us, hl with | [_], _ => rfl
    m_check_unlike_names := PySem.W.mg_of X G a_check_unlike_names
    k_check_unlike_names := k_check_unlike_names
    pr_Pattern_class_count := ⟨pa_Pattern_class_count, pg_Pattern_class_count, pt_Pattern_class_count, _, pc_Pattern_class_count⟩
    F_Pattern_class_count := F_Pattern_class_count
    b_Pattern_class_count := F_Pattern_class_count.bindsN fun _ _ _ _ _ _ us hl => match us, hl with | [_], _ => rfl
    F_names_for := F_names_for
    b_names_for := F_names_for.bindsN fun _ _ _ _ _ _ us hl => match us, hl with | [_, _], _ => rfl
    m_names_for := PySem.W.mg_of X G a_names_for
    k_names_for := k_names_for
    tb_u_law_odd_right := tbx1
    cd_u_law_odd_right := rfl
    F_u_law_odd_right := F_u_law_odd_right
    b_u_law_odd_right := F_u_law_odd_right.bindsN fun _ _ _ _ _ _ us hl => match us, hl with | [_, _, _, _], _ => rfl
    m_u_law_odd_right := PySem.W.mg_of X G a_u_law_odd_right
    k_u_law_odd_right := k_u_law_odd_right
    F_u_law_due_pairs := F_u_law_due_pairs
    b_u_law_due_pairs := F_u_law_due_pairs.bindsN fun _ _ _ _ _ _ us hl => match us, hl with | [_, _], _ => rfl
    m_u_law_due_pairs := PySem.W.mg_of X G a_u_law_due_pairs
    k_u_law_due_pairs := k_u_law_due_pairs
    tb_u_law_renaming_right := tbx2
    cd_u_law_renaming_right := rfl
    F_u_law_renaming_right := F_u_law_renaming_right
    b_u_law_renaming_right := F_u_law_renaming_right.bindsN fun _ _ _ _ _ _ us hl => match us, hl with | [_, _], _ => rfl
    m_u_law_renaming_right := PySem.W.mg_of X G a_u_law_renaming_right
    k_u_law_renaming_right := k_u_law_renaming_right
    F_law := F_law
    b_law := F_law.bindsN fun _ _ _ _ _ _ us hl => match us, hl with | [_], _ => rfl
    m_law := PySem.W.mg_of X G a_law
    k_law := k_law
    hn := hn
    ht := ht
    cl_Pattern := ⟨pg_Pattern, hd_Pattern, po_Pattern, sa_Pattern⟩
    ha_Pattern := ha_Pattern
    hm_Pattern := hm_Pattern
    na_Pattern_entries := na_Pattern_entries
    mk_Pattern := ⟨mk_Pattern, a_Pattern___init, i_Pattern___init, kc_Pattern⟩
    xm_BadNames_0 := PySem.W.exm_ref ex_BadNames hd_BadNames ty_BadNames sb_CustomError_BadNames
    xm_BadNames_1 := PySem.W.exm_ref ex_BadNames hd_BadNames ty_BadNames sb_BadPattern_BadNames
    xm_BadNames_2 := PySem.W.exm_ref ex_BadNames hd_BadNames ty_BadNames sb_BadNames_BadNames
    xm_BadNames_3 := PySem.W.exm_ref ex_BadNames hd_BadNames ty_BadNames sb_BadMatch_BadNames
    xm_BadNames_4 := PySem.W.exm_ref ex_BadNames hd_BadNames ty_BadNames sb_NoRenaming_BadNames
    xm_NoRenaming_0 := PySem.W.exm_ref ex_NoRenaming hd_NoRenaming ty_NoRenaming sb_CustomError_NoRenaming
    xm_NoRenaming_1 := PySem.W.exm_ref ex_NoRenaming hd_NoRenaming ty_NoRenaming sb_BadPattern_NoRenaming
    xm_NoRenaming_2 := PySem.W.exm_ref ex_NoRenaming hd_NoRenaming ty_NoRenaming sb_BadNames_NoRenaming
    xm_NoRenaming_3 := PySem.W.exm_ref ex_NoRenaming hd_NoRenaming ty_NoRenaming sb_BadMatch_NoRenaming
    xm_NoRenaming_4 := PySem.W.exm_ref ex_NoRenaming hd_NoRenaming ty_NoRenaming sb_NoRenaming_NoRenaming
    tbne := tbne }
  refine (ok_law T).imp fun vs H Q E hsp => ?_
  exact law_spec vs H Q E hsp
theorem walk {q : Program} {loose : List Str} {XP : (Str → Option Value) → Heap → Prop} {YP : World → Heap → Prop} {d : DefRec} {K : Params → PySem.W.Frag} (hdf : d.params.defaults = []) (hrec0 : ((PyProof.Rows.recsOf q).find? fun e => e.name == ("_law_odd_right" : Str)).isSome = true) (hrec1 : ((PyProof.Rows.recsOf q).find? fun e => e.name == ("_law_renaming_right" : Str)).isSome = true)
    (hY : ∀ (w : World) (h : Heap), YP w h → (K w.params).In h)
    (F : ∀ (w : World) (mg : Str → Option Value) (fa : Addr) (h : Heap), (K w.params).In h → h.Ns mainGlobals mg → mg d.name = some (.ref fa) →
      ∃ (c1 P1 c2 P2 : Addr) (fd : FuncData), PySem.W.tabIn (K w.params) "_law_odd_right" = some (c1, P1) ∧ ((K w.params)).lookup P1 = none ∧ PySem.W.tabIn (K w.params) "_law_renaming_right" = some (c2, P2) ∧ ((K w.params)).lookup P2 = none ∧ (∀ (s : Shared) (u : Value), BindsTo s fd ⟨[u], []⟩ [("_law_script", u)]) ∧ ∀ base : Heap, (K w.params).In base → base.Ns mainGlobals mg → LamX.TabB base mg c1 P1 → LamX.TabB base mg c2 P2 → NK.FnQ PW w (K w.params) mg base (L2.CX PW w) 9 fa fd ["_law_script"] (spLaw (K w.params) P1 P2)) :
    PySem.W.WalkO q loose XP YP PySem.Challenge.rw_namesakes_k27_whole_rows_of_names_led_to.row.toRowW d [] (fun f vs => PySem.call f vs) := by
  refine Att.attach_callB (l := PySem.Challenge.rw_namesakes_k27_whole_rows_of_names_led_to) (n := 63) rfl hdf fun w s0 s1 mg mb fa o pm cd doc a vs ns G0 Y ho hd hcd hmg hobj hints hlen hbits hg => ?_
  have KX := hY w _ Y
  obtain ⟨c1, P1, c2, P2, fd, ht0, nT0, ht1, nT1, hb, hF⟩ := F w mg fa _ KX G0.T.g hmg
  obtain ⟨dr0, hdr0⟩ := Option.isSome_iff_exists.mp hrec0
  obtain ⟨C0, hP0⟩ := PySem.W.tab_of G0.T KX hdr0 ht0
  obtain ⟨dr1, hdr1⟩ := Option.isSome_iff_exists.mp hrec1
  obtain ⟨C1, hP1⟩ := PySem.W.tab_of G0.T KX hdr1 ht1
  exact NK.law_callQ (CX := L2.CX PW w) (cs := [(c1, P1), (c2, P2)]) KX G0.T.g G0.T.b G0.T.builtins G0.T.nolimit hg (fun p hp => by
      rcases List.mem_cons.mp hp with rfl | hp
      · exact hP0
      · cases List.mem_singleton.mp hp
        exact hP1) (fun p hp => by
      rcases List.mem_cons.mp hp with rfl | hp
      · exact nT0
      · cases List.mem_singleton.mp hp
        exact nT1) (fun p hp => by
      rcases List.mem_cons.mp hp with rfl | hp
      · exact C0
      · cases List.mem_singleton.mp hp
        exact C1)
    G0.T.bmain hobj hints (Nat.le_trans hlen (by decide)) rfl ⟨rfl, by decide, by decide⟩ (fun base h1 h2 h3 => hF base h1 h2 (h3 _ List.mem_cons_self) (h3 _ (List.mem_cons_of_mem _ List.mem_cons_self))) hb (fun H hH hS => ⟨a, ns, rfl, hS, hlen, hH _ List.mem_cons_self, hH _ (List.mem_cons_of_mem _ List.mem_cons_self), fun _ => rfl⟩) (fun H e s2 z => NK.cx_false z)
end G
open PySem PySem.W PyProof.Rows in
set_option maxRecDepth 100000 in
set_option maxHeartbeats 0 in
theorem PySem.Challenge.cw_namesakes_k27_whole_rows_of_names_led_to_holds : PySem.Challenge.rw_namesakes_k27_whole_rows_of_names_led_to.Holds := by
  w_on; o_law; k_head; (case hw => w_witness2)
  k_fill
  refine G.walk rfl (by kernel_rfl) (by kernel_rfl) (fun w h Y => PySem.W.km_in_of Y) ?F
  case F =>
    intro w mg fa h KX Gn hmg
    refine' G.all_mk KX Gn hmg ?z_abs ?z_bool ?z_enumerate ?z_int ?z_isinstance ?z_len ?z_list ?z_max ?z_min ?z_range ?z_repr ?z_super ?z_tuple ?g_MOST_NAME ?g_MOST_PLACES ?a_CustomError ?a_BadPattern ?a_BadNames ?a_BadMatch ?a_NoRenaming ?a_Pattern ?a_u_law_hand ?l_u_law_hand ?c_u_law_hand ?k_u_law_hand ?a_u_law_mix ?l_u_law_mix ?c_u_law_mix ?k_u_law_mix ?a_u_law_draw ?l_u_law_draw ?c_u_law_draw ?k_u_law_draw ?a_u_law_size ?l_u_law_size ?c_u_law_size ?k_u_law_size ?a_u_law_entries ?l_u_law_entries ?c_u_law_entries ?k_u_law_entries ?a_u_law_row ?l_u_law_row ?c_u_law_row ?k_u_law_row ?a_u_law_pick ?l_u_law_pick ?c_u_law_pick ?k_u_law_pick ?a_u_law_spoilt ?l_u_law_spoilt ?c_u_law_spoilt ?k_u_law_spoilt ?a_entries_fault ?l_entries_fault ?c_entries_fault ?k_entries_fault ?a_BadPattern___init ?t_BadPattern___init ?l_BadPattern___init ?c_BadPattern___init ?k1_BadPattern ?k2_BadPattern ?k3_BadPattern ?k4_BadPattern ?x_BadPattern ?sa_BadPattern ?ex_BadPattern ?ty_BadPattern ?kc_BadPattern ?ga_BadPattern ?gg_BadPattern ?hd_BadPattern ?su_BadPattern ?iv_BadPattern ?se_BadPattern ?opq ?u_BadPattern ?n_BadPattern_index ?n_BadPattern_what ?a_Pattern___init ?l_Pattern___init ?c_Pattern___init ?k_Pattern___init ?i_Pattern___init ?a_u_law_pool ?l_u_law_pool ?c_u_law_pool ?k_u_law_pool ?a_u_law_count ?l_u_law_count ?c_u_law_count ?k_u_law_count ?a_is_whole ?l_is_whole ?c_is_whole ?k_is_whole ?a_is_name ?l_is_name ?c_is_name ?k_is_name ?a_names_fault ?l_names_fault ?c_names_fault ?k_names_fault ?a_BadNames___init ?t_BadNames___init ?l_BadNames___init ?c_BadNames___init ?k1_BadNames ?k2_BadNames ?k3_BadNames ?k4_BadNames ?x_BadNames ?sa_BadNames ?ex_BadNames ?ty_BadNames ?kc_BadNames ?ga_BadNames ?gg_BadNames ?hd_BadNames ?su_BadNames ?iv_BadNames ?se_BadNames ?u_BadNames ?n_BadNames_index ?n_BadNames_what ?a_check_names ?l_check_names ?c_check_names ?k_check_names ?a_class_numbers ?l_class_numbers ?c_class_numbers ?k_class_numbers ?a_first_difference ?l_first_difference ?c_first_difference ?k_first_difference ?a_u_law_numbers ?l_u_law_numbers ?c_u_law_numbers ?k_u_law_numbers ?a_u_law_differs ?l_u_law_differs ?c_u_law_differs ?k_u_law_differs ?a_u_law_odd ?l_u_law_odd ?c_u_law_odd ?k_u_law_odd ?a_u_law_told ?l_u_law_told ?c_u_law_told ?k_u_law_told ?a_NoRenaming___init ?t_NoRenaming___init ?l_NoRenaming___init ?c_NoRenaming___init ?k1_NoRenaming ?k2_NoRenaming ?k3_NoRenaming ?k4_NoRenaming ?x_NoRenaming ?sa_NoRenaming ?ex_NoRenaming ?ty_NoRenaming ?kc_NoRenaming ?ga_NoRenaming ?gg_NoRenaming ?hd_NoRenaming ?su_NoRenaming ?iv_NoRenaming ?se_NoRenaming ?u_NoRenaming ?n_NoRenaming_place ?a_renaming_of ?l_renaming_of ?c_renaming_of ?k_renaming_of ?a_check_unlike_names ?l_check_unlike_names ?c_check_unlike_names ?k_check_unlike_names ?pa_Pattern_class_count ?pg_Pattern_class_count ?pt_Pattern_class_count ?pc_Pattern_class_count ?l_Pattern_class_count ?c_Pattern_class_count ?k_Pattern_class_count ?a_names_for ?l_names_for ?c_names_for ?k_names_for ?a_u_law_odd_right ?l_u_law_odd_right ?c_u_law_odd_right ?kq_u_law_odd_right ?kt_u_law_odd_right ?np_u_law_odd_right ?k_u_law_odd_right ?a_u_law_due_pairs ?l_u_law_due_pairs ?c_u_law_due_pairs ?k_u_law_due_pairs ?a_u_law_renaming_right ?l_u_law_renaming_right ?c_u_law_renaming_right ?kq_u_law_renaming_right ?kt_u_law_renaming_right ?np_u_law_renaming_right ?k_u_law_renaming_right ?a_law ?l_law ?c_law ?k_law ?hn ?ht ?pg_Pattern ?hd_Pattern ?po_Pattern ?sa_Pattern ?ha_Pattern ?hm_Pattern ?na_Pattern_entries ?mk_Pattern ?kc_Pattern ?sb_CustomError_BadNames ?sb_BadPattern_BadNames ?sb_BadNames_BadNames ?sb_BadMatch_BadNames ?sb_NoRenaming_BadNames ?sb_CustomError_NoRenaming ?sb_BadPattern_NoRenaming ?sb_BadNames_NoRenaming ?sb_BadMatch_NoRenaming ?sb_NoRenaming_NoRenaming ?tbne
    (case z_abs => k_is)
    (case z_bool => k_is)
    (case z_enumerate => k_is)
    (case z_int => k_is)
    (case z_isinstance => k_is)
    (case z_len => k_is)
    (case z_list => k_is)
    (case z_max => k_is)
    (case z_min => k_is)
    (case z_range => k_is)
    (case z_repr => k_is)
    (case z_super => k_is)
    (case z_tuple => k_is)
    (case g_MOST_NAME => k_is)
    (case g_MOST_PLACES => k_is)
    (case a_CustomError => k_is)
    (case a_BadPattern => k_is)
    (case a_BadNames => k_is)
    (case a_BadMatch => k_is)
    (case a_NoRenaming => k_is)
    (case a_Pattern => k_is)
    (case a_u_law_hand => k_is)
    (case l_u_law_hand => k_is)
    (case c_u_law_hand => k_is)
    (case k_u_law_hand => k_is)
    (case a_u_law_mix => k_is)
    (case l_u_law_mix => k_is)
    (case c_u_law_mix => k_is)
    (case k_u_law_mix => k_is)
    (case a_u_law_draw => k_is)
    (case l_u_law_draw => k_is)
    (case c_u_law_draw => k_is)
    (case k_u_law_draw => k_is)
    (case a_u_law_size => k_is)
    (case l_u_law_size => k_is)
    (case c_u_law_size => k_is)
    (case k_u_law_size => k_is)
    (case a_u_law_entries => k_is)
    (case l_u_law_entries => k_is)
    (case c_u_law_entries => k_is)
    (case k_u_law_entries => k_is)
    (case a_u_law_row => k_is)
    (case l_u_law_row => k_is)
    (case c_u_law_row => k_is)
    (case k_u_law_row => k_is)
    (case a_u_law_pick => k_is)
    (case l_u_law_pick => k_is)
    (case c_u_law_pick => k_is)
    (case k_u_law_pick => k_is)
    (case a_u_law_spoilt => k_is)
    (case l_u_law_spoilt => k_is)
    (case c_u_law_spoilt => k_is)
    (case k_u_law_spoilt => k_is)
    (case a_entries_fault => k_is)
    (case l_entries_fault => k_is)
    (case c_entries_fault => k_is)
    (case k_entries_fault => k_is)
    (case a_BadPattern___init => k_is)
    (case t_BadPattern___init => k_is)
    (case l_BadPattern___init => k_is)
    (case c_BadPattern___init => k_is)
    (case k1_BadPattern => k_is)
    (case k2_BadPattern => rfl)
    (case k3_BadPattern => decide +kernel)
    (case k4_BadPattern => k_is)
    (case x_BadPattern => k_is)
    (case sa_BadPattern => k_is)
    (case ex_BadPattern => k_is)
    (case ty_BadPattern => k_is)
    (case kc_BadPattern => k_is)
    (case ga_BadPattern => k_is)
    (case gg_BadPattern => k_is)
    (case hd_BadPattern => k_is)
    (case su_BadPattern => ks_is)
    (case iv_BadPattern => k_is)
    (case se_BadPattern => k_is)
    (case opq => k_is)
    (case u_BadPattern => decide +kernel)
    (case n_BadPattern_index => k_is)
    (case n_BadPattern_what => k_is)
    (case a_Pattern___init => k_is)
    (case l_Pattern___init => k_is)
    (case c_Pattern___init => k_is)
    (case k_Pattern___init => k_is)
    (case i_Pattern___init => k_is)
    (case a_u_law_pool => k_is)
    (case l_u_law_pool => k_is)
    (case c_u_law_pool => k_is)
    (case k_u_law_pool => k_is)
    (case a_u_law_count => k_is)
    (case l_u_law_count => k_is)
    (case c_u_law_count => k_is)
    (case k_u_law_count => k_is)
    (case a_is_whole => k_is)
    (case l_is_whole => k_is)
    (case c_is_whole => k_is)
    (case k_is_whole => k_is)
    (case a_is_name => k_is)
    (case l_is_name => k_is)
    (case c_is_name => k_is)
    (case k_is_name => k_is)
    (case a_names_fault => k_is)
    (case l_names_fault => k_is)
    (case c_names_fault => k_is)
    (case k_names_fault => k_is)
    (case a_BadNames___init => k_is)
    (case t_BadNames___init => k_is)
    (case l_BadNames___init => k_is)
    (case c_BadNames___init => k_is)
    (case k1_BadNames => k_is)
    (case k2_BadNames => rfl)
    (case k3_BadNames => decide +kernel)
    (case k4_BadNames => k_is)
    (case x_BadNames => k_is)
    (case sa_BadNames => k_is)
    (case ex_BadNames => k_is)
    (case ty_BadNames => k_is)
    (case kc_BadNames => k_is)
    (case ga_BadNames => k_is)
    (case gg_BadNames => k_is)
    (case hd_BadNames => k_is)
    (case su_BadNames => ks_is)
    (case iv_BadNames => k_is)
    (case se_BadNames => k_is)
    (case u_BadNames => decide +kernel)
    (case n_BadNames_index => k_is)
    (case n_BadNames_what => k_is)
    (case a_check_names => k_is)
    (case l_check_names => k_is)
    (case c_check_names => k_is)
    (case k_check_names => k_is)
    (case a_class_numbers => k_is)
    (case l_class_numbers => k_is)
    (case c_class_numbers => k_is)
    (case k_class_numbers => k_is)
    (case a_first_difference => k_is)
    (case l_first_difference => k_is)
    (case c_first_difference => k_is)
    (case k_first_difference => k_is)
    (case a_u_law_numbers => k_is)
    (case l_u_law_numbers => k_is)
    (case c_u_law_numbers => k_is)
    (case k_u_law_numbers => k_is)
    (case a_u_law_differs => k_is)
    (case l_u_law_differs => k_is)
    (case c_u_law_differs => k_is)
    (case k_u_law_differs => k_is)
    (case a_u_law_odd => k_is)
    (case l_u_law_odd => k_is)
    (case c_u_law_odd => k_is)
    (case k_u_law_odd => k_is)
    (case a_u_law_told => k_is)
    (case l_u_law_told => k_is)
    (case c_u_law_told => k_is)
    (case k_u_law_told => k_is)
    (case a_NoRenaming___init => k_is)
    (case t_NoRenaming___init => k_is)
    (case l_NoRenaming___init => k_is)
    (case c_NoRenaming___init => k_is)
    (case k1_NoRenaming => k_is)
    (case k2_NoRenaming => rfl)
    (case k3_NoRenaming => decide +kernel)
    (case k4_NoRenaming => k_is)
    (case x_NoRenaming => k_is)
    (case sa_NoRenaming => k_is)
    (case ex_NoRenaming => k_is)
    (case ty_NoRenaming => k_is)
    (case kc_NoRenaming => k_is)
    (case ga_NoRenaming => k_is)
    (case gg_NoRenaming => k_is)
    (case hd_NoRenaming => k_is)
    (case su_NoRenaming => ks_is)
    (case iv_NoRenaming => k_is)
    (case se_NoRenaming => k_is)
    (case u_NoRenaming => decide +kernel)
    (case n_NoRenaming_place => k_is)
    (case a_renaming_of => k_is)
    (case l_renaming_of => k_is)
    (case c_renaming_of => k_is)
    (case k_renaming_of => k_is)
    (case a_check_unlike_names => k_is)
    (case l_check_unlike_names => k_is)
    (case c_check_unlike_names => k_is)
    (case k_check_unlike_names => k_is)
    (case pa_Pattern_class_count => k_is)
    (case pg_Pattern_class_count => k_is)
    (case pt_Pattern_class_count => k_is)
    (case pc_Pattern_class_count => k_is)
    (case l_Pattern_class_count => k_is)
    (case c_Pattern_class_count => k_is)
    (case k_Pattern_class_count => k_is)
    (case a_names_for => k_is)
    (case l_names_for => k_is)
    (case c_names_for => k_is)
    (case k_names_for => k_is)
    (case a_u_law_odd_right => k_is)
    (case l_u_law_odd_right => k_is)
    (case c_u_law_odd_right => k_is)
    (case kq_u_law_odd_right => k_is)
    (case kt_u_law_odd_right => rfl)
    (case np_u_law_odd_right => first | k_is | kernel_rfl)
    (case k_u_law_odd_right => k_is)
    (case a_u_law_due_pairs => k_is)
    (case l_u_law_due_pairs => k_is)
    (case c_u_law_due_pairs => k_is)
    (case k_u_law_due_pairs => k_is)
    (case a_u_law_renaming_right => k_is)
    (case l_u_law_renaming_right => k_is)
    (case c_u_law_renaming_right => k_is)
    (case kq_u_law_renaming_right => k_is)
    (case kt_u_law_renaming_right => rfl)
    (case np_u_law_renaming_right => first | k_is | kernel_rfl)
    (case k_u_law_renaming_right => k_is)
    (case a_law => k_is)
    (case l_law => k_is)
    (case c_law => k_is)
    (case k_law => k_is)
    (case hn => k_is)
    (case ht => k_is)
    (case pg_Pattern => k_is)
    (case hd_Pattern => k_is)
    (case po_Pattern => k_is)
    (case sa_Pattern => k_is)
    (case ha_Pattern => k_is)
    (case hm_Pattern => k_is)
    (case na_Pattern_entries => k_is)
    (case mk_Pattern => k_is)
    (case kc_Pattern => k_is)
    (case sb_CustomError_BadNames => k_is)
    (case sb_BadPattern_BadNames => k_is)
    (case sb_BadNames_BadNames => k_is)
    (case sb_BadMatch_BadNames => k_is)
    (case sb_NoRenaming_BadNames => k_is)
    (case sb_CustomError_NoRenaming => k_is)
    (case sb_BadPattern_NoRenaming => k_is)
    (case sb_BadNames_NoRenaming => k_is)
    (case sb_BadMatch_NoRenaming => k_is)
    (case sb_NoRenaming_NoRenaming => k_is)
    (case tbne => decide)

