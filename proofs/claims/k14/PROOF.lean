import PyProof.Rows.All
import Wide.All
import OpenK.AllK
import Wide.FinOn
import PySem.Challenge.RW_marktables_k14_tables_errors
import HandS.ForMost
import HandS.More
import HandS.Exc
import HandS.ExcInit
import HandS.ExcOwn
import HandS.Defaults
import HandS.Conv
import HandS.Wide
import HandS.HeadHook2
import HandS.Flow
import HandS.TupAny
import HandS.TupMul
import HandS.IsInst
import HandS.WideBits
import HandS.ExcIs
import HandS.ExcField
import KE.DataEq
import KE.DataFind
import KE.SortData
import KE.DataIsa
import HandS.Set
import KE.DataAny
import PyProof.TupleOfSeq
import PyProof.ReprReads
import HandS.ClsMeth
import HandS.SetBool
import HandS.TupSets
import HandS.Comp
import HandS.Iter
import KE.GoesEnum
import HandS.Text
import HandS.SetKeys
import HandS.NoneIn
import HandS.TryOnly
import HandS.Small
import HandS.Zip
import HandS.Ends
import HandS.Property
import HandS.RaiseMore
import HandS.HeadEnd
import HandS.Head2
import HandS.SlotsOwn
import HandS.Style
import HandS.Dict
import KE.KRevSl
import PyProof.ReprDict
import HandS.Codes
import KE.SortLaws
import KE.LtData
import KE.KStateDown
section
set_option Elab.async false
set_option linter.all false
set_option maxRecDepth 100000
set_option maxHeartbeats 1000000
set_option autoImplicit false
/-! Data by structure, a store of what changes, and readings by functions. -/
namespace L2.MK
open PySem PySem.Spec PyProof.Rows

/-- at a: an exception of the class cls, its dict d -/
def exk (a : Addr) (cls : Value) (d : Option Addr) : HO := .ext fun h => ∃ o vs, h.get? a = some o ∧ o.cls = cls ∧ o.dict = d ∧ o.data = .fields vs
/-- a value, by its structure; ref i: the i-th thing that changes -/
inductive D where
  | non | bl (b : Bool) | int (i : Int) | str (x : Str) | ty (T : String) | cls (C : Str)
  | tup (xs : List D) | lst (xs : List D)
  | rol (xs : List D)
  | dct (ks : List Key) (xs : List D)
  | ref (i : Nat)
  | ins (C : Str) (fs : List (Str × D))
  | exc (C : Str) (fs : List (Str × D))
  deriving Inhabited

/-- what changes -/
inductive MO where
  | lst (xs : List D)
  | dK (kvs : List (Key × D))
  | ins (C : Str) (fs : List (Str × D))
  | opq
  | dead

abbrev Sto := List MO

/-- the abstract heap without what changes -/
def frz (ρ : List (Option Addr)) (H : Hp) : Hp := fun a => if some a ∈ ρ then none else H a
theorem frz_of {ρ : List (Option Addr)} {H : Hp} {a : Addr} {o : HO} (h : frz ρ H a = some o) : some a ∉ ρ ∧ H a = some o := by
  unfold frz at h
  split at h
  · cases h
  · exact ⟨by assumption, h⟩
theorem frz_at {ρ : List (Option Addr)} {H : Hp} {a : Addr} {o : HO} (n : some a ∉ ρ) (h : H a = some o) : frz ρ H a = some o := by
  unfold frz
  rw [if_neg n]
  exact h
theorem frz_same (ρ : List (Option Addr)) (H : Hp) : Same (frz ρ H) H := fun _ _ h => (frz_of h).2

section
variable (K : PySem.W.Frag) (ρ : List (Option Addr)) (Φ : Hp)
mutual
inductive Den : D → V → Prop
  | non : Den .non .non
  | bl (b : Bool) : Den (.bl b) (.bl b)
  | int (i : Int) : Den (.int i) (.int i)
  | str (x : Str) : Den (.str x) (.str x)
  | ty (T : String) : Den (.ty T) (.ty T)
  | cls (C : Str) : Den (.cls C) (.ref (He.ga K C))
  | tup {ds : List D} {a : Addr} {vs : List V} : SqT K Φ a vs → Dens ds vs → Den (.tup ds) (.ref a)
  | lst {ds : List D} {a : Addr} {vs : List V} : Φ a = some (.lst vs) → Dens ds vs → Den (.lst ds) (.ref a)
  | rol {ds : List D} {a : Addr} {vs : List V} : SqL K Φ a vs → Dens ds vs → Den (.rol ds) (.ref a)
  | dct {ks : List Key} {ds : List D} {a : Addr} {vs : List (Key × V)} : Φ a = some (.dK vs) → vs.map (·.1) = ks → Dens ds (vs.map (·.2)) → Den (.dct ks ds) (.ref a)
  | ref {i : Nat} {a : Addr} : ρ[i]? = some (some a) → Den (.ref i) (.ref a)
  | ins {C : Str} {fs : List (Str × D)} {a dx : Addr} {vfs : List (Str × V)} : Φ a = some (.ins (He.ga K C) dx vfs) → Denf fs vfs → Den (.ins C fs) (.ref a)
  | exc {C : Str} {fs : List (Str × D)} {a : Addr} {d : Option Addr} {vfs : List (Str × V)} : Φ a = some (exk a (.ref (He.ga K C)) d) → (∀ dd, d = some dd → Φ dd = some (.xd vfs)) → (d = none → fs = []) → Denf fs vfs → Den (.exc C fs) (.ref a)
inductive Dens : List D → List V → Prop
  | nil : Dens [] []
  | cons {d : D} {v : V} {ds : List D} {vs : List V} : Den d v → Dens ds vs → Dens (d :: ds) (v :: vs)
inductive Denf : List (Str × D) → List (Str × V) → Prop
  | nil : Denf [] []
  | cons {f : Str} {d : D} {v : V} {ds : List (Str × D)} {vs : List (Str × V)} : Den d v → Denf ds vs → Denf ((f, d) :: ds) ((f, v) :: vs)
end
end

theorem same_sqT {K : PySem.W.Frag} {H H' : Hp} {a : Addr} {xs : List V} (e : Same H H') (h : SqT K H a xs) : SqT K H' a xs := by
  rcases h with (h | ⟨o, h⟩) | h
  · exact .inl (.inl (e _ _ h))
  · exact .inl (.inr ⟨o, e _ _ h⟩)
  · exact .inr h

section
variable {K : PySem.W.Frag} {ρ ρ' : List (Option Addr)} {Φ Φ' : Hp}
/-- what was known stays known -/
structure Ext (ρ ρ' : List (Option Addr)) (Φ Φ' : Hp) : Prop where
  refs : ∀ (i : Nat) (a : Addr), ρ[i]? = some (some a) → ρ'[i]? = some (some a)
  same : Same Φ Φ'
mutual
theorem Den.mono (x : Ext ρ ρ' Φ Φ') : ∀ {d : D} {v : V}, Den K ρ Φ d v → Den K ρ' Φ' d v
  | _, _, .non => .non
  | _, _, .bl b => .bl b
  | _, _, .int i => .int i
  | _, _, .str s => .str s
  | _, _, .ty T => .ty T
  | _, _, .cls C => .cls C
  | _, _, .tup h r => .tup (same_sqT x.same h) (Dens.mono x r)
  | _, _, .lst h r => .lst (x.same _ _ h) (Dens.mono x r)
  | _, _, .rol h r => .rol (x.same.seq h) (Dens.mono x r)
  | _, _, .dct h h2 r => .dct (x.same _ _ h) h2 (Dens.mono x r)
  | _, _, .ref h => .ref (x.refs _ _ h)
  | _, _, .ins h r => .ins (x.same _ _ h) (Denf.mono x r)
  | _, _, .exc h1 h2 h3 r => .exc (x.same _ _ h1) (fun dd e => x.same _ _ (h2 dd e)) h3 (Denf.mono x r)
theorem Dens.mono (x : Ext ρ ρ' Φ Φ') : ∀ {ds : List D} {vs : List V}, Dens K ρ Φ ds vs → Dens K ρ' Φ' ds vs
  | _, _, .nil => .nil
  | _, _, .cons h r => .cons (Den.mono x h) (Dens.mono x r)
theorem Denf.mono (x : Ext ρ ρ' Φ Φ') : ∀ {ds : List (Str × D)} {vs : List (Str × V)}, Denf K ρ Φ ds vs → Denf K ρ' Φ' ds vs
  | _, _, .nil => .nil
  | _, _, .cons h r => .cons (Den.mono x h) (Denf.mono x r)
end
theorem Dens.length : ∀ {ds : List D} {vs : List V}, Dens K ρ Φ ds vs → ds.length = vs.length
  | _, _, .nil => rfl
  | _, _, .cons _ r => congrArg (· + 1) (Dens.length r)
theorem Dens.get : ∀ {ds : List D} {vs : List V} {i : Nat} {d : D}, Dens K ρ Φ ds vs → ds[i]? = some d → ∃ v, vs[i]? = some v ∧ Den K ρ Φ d v
  | _, _, _, _, .nil, e => by simp at e
  | _, _, 0, _, .cons h _, e => by simp at e; subst e; exact ⟨_, rfl, h⟩
  | _, _, i + 1, _, .cons _ r, e => by simpa using Dens.get (i := i) r (by simpa using e)
theorem Dens.get' : ∀ {ds : List D} {vs : List V} {i : Nat} {v : V}, Dens K ρ Φ ds vs → vs[i]? = some v → ∃ d, ds[i]? = some d ∧ Den K ρ Φ d v
  | _, _, _, _, .nil, e => by simp at e
  | _, _, 0, _, .cons h _, e => by simp at e; subst e; exact ⟨_, rfl, h⟩
  | _, _, i + 1, _, .cons _ r, e => by simpa using Dens.get' (i := i) r (by simpa using e)
theorem Dens.append : ∀ {ds es : List D} {vs ws : List V}, Dens K ρ Φ ds vs → Dens K ρ Φ es ws → Dens K ρ Φ (ds ++ es) (vs ++ ws)
  | _, _, _, _, .nil, s => s
  | _, _, _, _, .cons h r, s => .cons h (Dens.append r s)
theorem Dens.take : ∀ {ds : List D} {vs : List V} (n : Nat), Dens K ρ Φ ds vs → Dens K ρ Φ (ds.take n) (vs.take n)
  | _, _, 0, _ => .nil
  | _, _, _ + 1, .nil => .nil
  | _, _, n + 1, .cons h r => .cons h (Dens.take n r)
theorem Dens.drop : ∀ {ds : List D} {vs : List V} (n : Nat), Dens K ρ Φ ds vs → Dens K ρ Φ (ds.drop n) (vs.drop n)
  | _, _, 0, h => h
  | _, _, _ + 1, .nil => .nil
  | _, _, n + 1, .cons _ r => Dens.drop n r
theorem Dens.set {d : D} {v : V} (h : Den K ρ Φ d v) : ∀ {ds : List D} {vs : List V} (i : Nat), Dens K ρ Φ ds vs → Dens K ρ Φ (ds.set i d) (vs.set i v)
  | _, _, _, .nil => .nil
  | _, _, 0, .cons _ r => .cons h r
  | _, _, i + 1, .cons q r => .cons q (Dens.set h i r)
theorem Denf.look : ∀ {fs : List (Str × D)} {vs : List (Str × V)} {f : Str} {d : D}, Denf K ρ Φ fs vs → fs.lookup f = some d → ∃ v, vs.lookup f = some v ∧ Den K ρ Φ d v
  | _, _, _, _, .nil, e => by simp at e
  | _, _, f, d, .cons (f := g) h r, e => by
    rw [List.lookup_cons] at e
    rw [List.lookup_cons]
    cases q : f == g with
    | true => rw [q] at e; simp at e; subst e; exact ⟨_, rfl, h⟩
    | false => rw [q] at e; exact Denf.look r (by simpa using e)
theorem Denf.look_none : ∀ {fs : List (Str × D)} {vs : List (Str × V)} {f : Str}, Denf K ρ Φ fs vs → fs.lookup f = none → vs.lookup f = none
  | _, _, _, .nil, _ => rfl
  | _, _, f, .cons (f := g) h r, e => by
    rw [List.lookup_cons] at e
    rw [List.lookup_cons]
    cases q : f == g with
    | true => rw [q] at e; simp at e
    | false => rw [q] at e; exact Denf.look_none r (by simpa using e)
end

/-- attributes stored -/
def putD (f : Str) (v : D) : List (Str × D) → List (Str × D)
  | [] => [(f, v)]
  | (g, x) :: r => if g = f then (g, v) :: r else (g, x) :: putD f v r
theorem Denf.put {K : PySem.W.Frag} {ρ : List (Option Addr)} {Φ : Hp} {f : Str} {d : D} {v : V} (h : Den K ρ Φ d v) : ∀ {fs : List (Str × D)} {vs : List (Str × V)}, Denf K ρ Φ fs vs → Denf K ρ Φ (putD f d fs) (putF f v vs)
  | _, _, .nil => .cons h .nil
  | _, _, .cons (f := g) q r => by
    unfold putD putF
    by_cases e : g = f
    · rw [if_pos e, if_pos e]; exact .cons h r
    · rw [if_neg e, if_neg e]; exact .cons q (Denf.put h r)
theorem Denf.length {K : PySem.W.Frag} {ρ : List (Option Addr)} {Φ : Hp} : ∀ {fs : List (Str × D)} {vs : List (Str × V)}, Denf K ρ Φ fs vs → fs.length = vs.length
  | _, _, .nil => rfl
  | _, _, .cons _ r => congrArg (· + 1) (Denf.length r)

/-- the pairs of a dict -/
def DenK (K : PySem.W.Frag) (ρ : List (Option Addr)) (Φ : Hp) : List (Key × D) → List (Key × V) → Prop
  | [], [] => True
  | (k, d) :: r, (j, v) :: s => k = j ∧ Den K ρ Φ d v ∧ DenK K ρ Φ r s
  | _, _ => False
theorem DenK.mono {K : PySem.W.Frag} {ρ ρ' : List (Option Addr)} {Φ Φ' : Hp} (x : Ext ρ ρ' Φ Φ') : ∀ {ds : List (Key × D)} {vs : List (Key × V)}, DenK K ρ Φ ds vs → DenK K ρ' Φ' ds vs
  | [], [], _ => trivial
  | (_, _) :: _, (_, _) :: _, ⟨a, b, c⟩ => ⟨a, b.mono x, DenK.mono x c⟩
  | [], _ :: _, h => h.elim
  | _ :: _, [], h => h.elim

/-- the store's i-th thing stands at a -/
def MOk (K : PySem.W.Frag) (ρ : List (Option Addr)) (H : Hp) (a : Addr) : MO → Prop
  | .lst ds => ∃ vs, H a = some (.lst vs) ∧ Dens K ρ (frz ρ H) ds vs
  | .dK kvs => ∃ ws, H a = some (.dK ws) ∧ DenK K ρ (frz ρ H) kvs ws
  | .ins C fs => ∃ dx vfs, H a = some (.ins (He.ga K C) dx vfs) ∧ Denf K ρ (frz ρ H) fs vfs
  | .opq => ∃ o, H a = some o
  | .dead => False
structure StOk (K : PySem.W.Frag) (ρ : List (Option Addr)) (M : Sto) (H : Hp) : Prop where
  len : ρ.length = M.length
  inj : ∀ (i j : Nat) (a : Addr), ρ[i]? = some (some a) → ρ[j]? = some (some a) → i = j
  at_ : ∀ (i : Nat) (a : Addr), ρ[i]? = some (some a) → ∃ m, M[i]? = some m ∧ MOk K ρ H a m
  dead : ∀ (i : Nat), ρ[i]? = some none → M[i]? = some .dead
/-- from one state to a later one -/
structure Nx (ρ : List (Option Addr)) (H : Hp) (ρ' : List (Option Addr)) (H' : Hp) : Prop where
  refs : ∀ (i : Nat) (a : Addr), ρ[i]? = some (some a) → ρ'[i]? = some (some a)
  same : Same (frz ρ H) (frz ρ' H')
  len : ρ.length ≤ ρ'.length
  exts : ∀ (a : Addr) (φ : Heap → Prop), some a ∈ ρ → H a = some (.ext φ) → H' a = some (.ext φ)
theorem Nx.refl {ρ : List (Option Addr)} {H : Hp} : Nx ρ H ρ H := ⟨fun _ _ h => h, fun _ _ h => h, Nat.le_refl _, fun _ _ _ h => h⟩
theorem Nx.mem {ρ ρ' : List (Option Addr)} {H H' : Hp} (refs : ∀ (i : Nat) (a : Addr), ρ[i]? = some (some a) → ρ'[i]? = some (some a)) {a : Addr} (h : some a ∈ ρ) : some a ∈ ρ' := by
  obtain ⟨i, hi, e⟩ := List.mem_iff_getElem.mp h
  exact List.mem_of_getElem? (refs i a (by rw [List.getElem?_eq_getElem hi, e]))
theorem Nx.trans {ρ ρ1 ρ2 : List (Option Addr)} {H H1 H2 : Hp} (a : Nx ρ H ρ1 H1) (b : Nx ρ1 H1 ρ2 H2) : Nx ρ H ρ2 H2 := ⟨fun i x h => b.refs i x (a.refs i x h), fun c o h => b.same c o (a.same c o h), Nat.le_trans a.len b.len, fun c φ m h => b.exts c φ (Nx.mem (H := H) (H' := H) a.refs m) (a.exts c φ m h)⟩
theorem Nx.ext {ρ ρ' : List (Option Addr)} {H H' : Hp} (a : Nx ρ H ρ' H') : Ext ρ ρ' (frz ρ H) (frz ρ' H') := ⟨a.refs, a.same⟩

/-- the names -/
abbrev Env := List (Option D)
def DenE (K : PySem.W.Frag) (ρ : List (Option Addr)) (Φ : Hp) : Env → St → Prop
  | [], [] => True
  | none :: r, _ :: s => DenE K ρ Φ r s
  | some d :: r, some v :: s => Den K ρ Φ d v ∧ DenE K ρ Φ r s
  | _, _ => False
section
variable {K : PySem.W.Frag} {ρ ρ' : List (Option Addr)} {Φ Φ' : Hp}
theorem DenE.mono (x : Ext ρ ρ' Φ Φ') : ∀ {δ : Env} {σ : St}, DenE K ρ Φ δ σ → DenE K ρ' Φ' δ σ
  | [], [], _ => trivial
  | none :: r, _ :: s, h => DenE.mono (δ := r) (σ := s) x h
  | some _ :: _, some _ :: _, h => ⟨h.1.mono x, DenE.mono x h.2⟩
  | [], _ :: _, h => h.elim
  | none :: _, [], h => h.elim
  | some _ :: _, none :: _, h => h.elim
  | some _ :: _, [], h => h.elim
theorem DenE.length : ∀ {δ : Env} {σ : St}, DenE K ρ Φ δ σ → δ.length = σ.length
  | [], [], _ => rfl
  | none :: r, _ :: s, h => congrArg (· + 1) (DenE.length (δ := r) (σ := s) h)
  | some _ :: _, some _ :: _, h => congrArg (· + 1) (DenE.length h.2)
  | [], _ :: _, h => h.elim
  | none :: _, [], h => h.elim
  | some _ :: _, none :: _, h => h.elim
  | some _ :: _, [], h => h.elim
theorem DenE.get : ∀ {δ : Env} {σ : St} {i : Nat} {d : D}, DenE K ρ Φ δ σ → δ[i]? = some (some d) → ∃ v, σ[i]? = some (some v) ∧ Den K ρ Φ d v
  | [], _, _, _, _, e => by simp at e
  | none :: _, _ :: _, 0, _, _, e => by simp at e
  | none :: r, _ :: s, i + 1, _, h, e => by simpa using DenE.get (δ := r) (σ := s) (i := i) h (by simpa using e)
  | some _ :: _, some _ :: _, 0, _, h, e => by simp at e; subst e; exact ⟨_, rfl, h.1⟩
  | some _ :: _, some _ :: _, i + 1, _, h, e => by simpa using DenE.get (i := i) h.2 (by simpa using e)
  | none :: _, [], _, _, h, _ => h.elim
  | some _ :: _, none :: _, _, _, h, _ => h.elim
  | some _ :: _, [], _, _, h, _ => h.elim
theorem DenE.set {d : D} {v : V} (q : Den K ρ Φ d v) : ∀ {δ : Env} {σ : St} (i : Nat), DenE K ρ Φ δ σ → DenE K ρ Φ (δ.set i (some d)) (σ.set i (some v))
  | [], [], _, _ => trivial
  | none :: _, _ :: _, 0, h => ⟨q, h⟩
  | none :: r, _ :: s, i + 1, h => DenE.set (δ := r) (σ := s) q i h
  | some _ :: _, some _ :: _, 0, h => ⟨q, h.2⟩
  | some _ :: _, some _ :: _, i + 1, h => ⟨h.1, DenE.set q i h.2⟩
  | [], _ :: _, _, h => h.elim
  | none :: _, [], _, h => h.elim
  | some _ :: _, none :: _, _, h => h.elim
  | some _ :: _, [], _, h => h.elim
theorem DenE.unset : ∀ {δ : Env} {σ : St} (i : Nat), DenE K ρ Φ δ σ → DenE K ρ Φ (δ.set i none) (σ.set i none)
  | [], [], _, _ => trivial
  | none :: _, _ :: _, 0, h => h
  | none :: r, _ :: s, i + 1, h => DenE.unset (δ := r) (σ := s) i h
  | some _ :: _, some _ :: _, 0, h => h.2
  | some _ :: _, some _ :: _, i + 1, h => ⟨h.1, DenE.unset i h.2⟩
  | [], _ :: _, _, h => h.elim
  | none :: _, [], _, h => h.elim
  | some _ :: _, none :: _, _, h => h.elim
  | some _ :: _, [], _, h => h.elim
end
def wipeD (δ : Env) : List Nat → Env
  | [] => δ
  | v :: vs => (wipeD δ vs).set v none
theorem DenE.wipe {K : PySem.W.Frag} {ρ : List (Option Addr)} {Φ : Hp} {δ : Env} {σ : St} (h : DenE K ρ Φ δ σ) : ∀ vs : List Nat, DenE K ρ Φ (wipeD δ vs) (L2.wipe σ vs)
  | [] => h
  | v :: vs => by unfold wipeD L2.wipe; exact DenE.unset v (DenE.wipe h vs)

/-! ### outcomes -/
inductive Out (α : Type) where
  | ok (a : α) (M : Sto)
  | exc (C : Str) (fs : List (Str × D)) (M : Sto)
  | stuck
def Ev (α : Type) := Sto → Out α
def Ev.pure {α : Type} (a : α) : Ev α := fun M => .ok a M
def Ev.bind {α β : Type} (x : Ev α) (f : α → Ev β) : Ev β := fun M => match x M with
  | .ok a M' => f a M'
  | .exc C fs M' => .exc C fs M'
  | .stuck => .stuck
instance : Monad Ev where
  pure := Ev.pure
  bind := Ev.bind
def Ev.fail {α : Type} : Ev α := fun _ => .stuck
def Ev.get {α : Type} (o : Option α) : Ev α := fun M => match o with
  | some a => .ok a M
  | none => .stuck
@[simp] theorem Ev.pure_run {α : Type} (a : α) (M : Sto) : (Pure.pure a : Ev α) M = .ok a M := rfl
theorem Ev.bind_run {α β : Type} (x : Ev α) (f : α → Ev β) (M : Sto) : (x >>= f) M = (match x M with
  | .ok a M' => f a M'
  | .exc C fs M' => .exc C fs M'
  | .stuck => .stuck) := rfl
@[simp] theorem Ev.bind_ok {α β : Type} {x : Ev α} {f : α → Ev β} {M M' : Sto} {a : α} (h : x M = .ok a M') : (x >>= f) M = f a M' := by
  rw [Ev.bind_run, h]
@[simp] theorem Ev.get_some {α : Type} (a : α) (M : Sto) : Ev.get (some a) M = .ok a M := rfl
@[simp] theorem Ev.get_none {α : Type} (M : Sto) : Ev.get (none : Option α) M = .stuck := rfl

/-- the fields of an exception's dict -/
def ExD (K : PySem.W.Frag) (ρ : List (Option Addr)) (Φ : Hp) (fs : List (Str × D)) (d : Option Addr) : Prop :=
  (fs = [] ∧ d = none) ∨ ∃ dd vfs, d = some dd ∧ Φ dd = some (.xd vfs) ∧ Denf K ρ Φ fs vfs
theorem ExD.mono {K : PySem.W.Frag} {ρ ρ' : List (Option Addr)} {Φ Φ' : Hp} {fs : List (Str × D)} {d : Option Addr} (x : Ext ρ ρ' Φ Φ') (h : ExD K ρ Φ fs d) : ExD K ρ' Φ' fs d := by
  rcases h with h | ⟨dd, vfs, e, h, r⟩
  · exact .inl h
  · exact .inr ⟨dd, vfs, e, x.same _ _ h, r.mono x⟩

/-- what is wished behind an expression -/
def Res (K : PySem.W.Frag) (W : Value → Option Addr → Hp → Prop) (ρ : List (Option Addr)) (H : Hp) (Q : VK) : Out D → Prop
  | .ok d M' => ∀ ρ' v H', Nx ρ H ρ' H' → StOk K ρ' M' H' → Den K ρ' (frz ρ' H') d v → Q v H'
  | .exc C fs M' => ∀ ρ' d H', Nx ρ H ρ' H' → StOk K ρ' M' H' → ExD K ρ' (frz ρ' H') fs d → W (.ref (He.ga K C)) d H'
  | .stuck => False
def ResB (K : PySem.W.Frag) (W : Value → Option Addr → Hp → Prop) (ρ : List (Option Addr)) (H : Hp) (Q : Bool → Hp → Prop) : Out Bool → Prop
  | .ok d M' => ∀ ρ' H', Nx ρ H ρ' H' → StOk K ρ' M' H' → Q d H'
  | .exc C fs M' => ∀ ρ' d H', Nx ρ H ρ' H' → StOk K ρ' M' H' → ExD K ρ' (frz ρ' H') fs d → W (.ref (He.ga K C)) d H'
  | .stuck => False
def ResL (K : PySem.W.Frag) (W : Value → Option Addr → Hp → Prop) (ρ : List (Option Addr)) (H : Hp) (Q : List V → Hp → Prop) : Out (List D) → Prop
  | .ok ds M' => ∀ ρ' vs H', Nx ρ H ρ' H' → StOk K ρ' M' H' → Dens K ρ' (frz ρ' H') ds vs → Q vs H'
  | .exc C fs M' => ∀ ρ' d H', Nx ρ H ρ' H' → StOk K ρ' M' H' → ExD K ρ' (frz ρ' H') fs d → W (.ref (He.ga K C)) d H'
  | .stuck => False
abbrev EF := Env → Ev D
abbrev BF := Env → Ev Bool
abbrev AF := Env → Ev (List D)
def rd (K : PySem.W.Frag) (W : WX) (f : EF) : TE := fun σ H Q => ∃ ρ δ M, DenE K ρ (frz ρ H) δ σ ∧ StOk K ρ M H ∧ Res K (fun c d H' => W c d σ H') ρ H Q (f δ M)
def rdB (K : PySem.W.Frag) (W : WX) (f : BF) : TT := fun σ H Q => ∃ ρ δ M, DenE K ρ (frz ρ H) δ σ ∧ StOk K ρ M H ∧ ResB K (fun c d H' => W c d σ H') ρ H Q (f δ M)
def rdA (K : PySem.W.Frag) (W : WX) (f : AF) : TA := fun σ H Q => ∃ ρ δ M, DenE K ρ (frz ρ H) δ σ ∧ StOk K ρ M H ∧ ResL K (fun c d H' => W c d σ H') ρ H Q (f δ M)
/-- how a statement ends -/
inductive SO where
  | nx (δ : Env) (M : Sto)
  | ret (d : D) (M : Sto)
  | exc (C : Str) (fs : List (Str × D)) (δ : Env) (M : Sto)
  | stuck
abbrev SF := Env → Sto → SO
def ResS (K : PySem.W.Frag) (W : WX) (ρ : List (Option Addr)) (H : Hp) (E : Ends) : SO → Prop
  | .nx δ M' => ∀ ρ' σ' H', Nx ρ H ρ' H' → StOk K ρ' M' H' → DenE K ρ' (frz ρ' H') δ σ' → E.nx σ' H'
  | .ret d M' => ∀ ρ' v H', Nx ρ H ρ' H' → StOk K ρ' M' H' → Den K ρ' (frz ρ' H') d v → E.rt v H'
  | .exc C fs δ M' => ∀ ρ' d σ' H', Nx ρ H ρ' H' → StOk K ρ' M' H' → DenE K ρ' (frz ρ' H') δ σ' → ExD K ρ' (frz ρ' H') fs d → W (.ref (He.ga K C)) d σ' H'
  | .stuck => False
def rdS (K : PySem.W.Frag) (W : WX) (f : SF) : TS := fun E σ H => ∃ ρ δ M, DenE K ρ (frz ρ H) δ σ ∧ StOk K ρ M H ∧ ResS K W ρ H E (f δ M)

/-! ### the judgements -/
abbrev PD (X : Cx) (W : WX) (e : Expr) (f : EF) : Prop := PE X e (rd X.K W f)
abbrev PDB (X : Cx) (W : WX) (e : Expr) (f : BF) : Prop := PT X e (rdB X.K W f)
abbrev PDA (X : Cx) (W : WX) (es : List Expr) (f : AF) : Prop := PA X es (rdA X.K W f)
abbrev PDS (X : Cx) (W : WX) (st : Stmt) (f : SF) : Prop := PS X st (rdS X.K W f)
abbrev PDSs (X : Cx) (W : WX) (st : List Stmt) (f : SF) : Prop := PSs X st (rdS X.K W f)

theorem pe_mono {X : Cx} {e : Expr} {t t' : TE} (h : PE X e t) (m : ∀ σ H Q, t' σ H Q → t σ H Q) : PE X e t' := ⟨fun pins s σ H Q I q => h.run pins s σ H Q I (m σ H Q q)⟩
theorem pt_mono {X : Cx} {e : Expr} {t t' : TT} (h : PT X e t) (m : ∀ σ H Q, t' σ H Q → t σ H Q) : PT X e t' := ⟨fun pins s σ H Q I q => h.run pins s σ H Q I (m σ H Q q)⟩
theorem pa_mono {X : Cx} {es : List Expr} {t t' : TA} (h : PA X es t) (m : ∀ σ H Q, t' σ H Q → t σ H Q) : PA X es t' := ⟨fun pos pins s σ H Q I q => h.run pos pins s σ H Q I (m σ H Q q)⟩
theorem ps_mono {X : Cx} {e : Stmt} {t t' : TS} (h : PS X e t) (m : ∀ σ H Q, t' Q σ H → t Q σ H) : PS X e t' := ⟨fun pins s σ H Q I q => h.run pins s σ H Q I (m σ H Q q)⟩
theorem pss_mono {X : Cx} {e : List Stmt} {t t' : TS} (h : PSs X e t) (m : ∀ σ H Q, t' Q σ H → t Q σ H) : PSs X e t' := ⟨fun pins s σ H Q I q => h.run pins s σ H Q I (m σ H Q q)⟩

section
variable {K : PySem.W.Frag} {W : WX} {W' : Value → Option Addr → Hp → Prop} {ρ ρ1 : List (Option Addr)} {H H1 : Hp} {σ : St} {δ : Env} {M M1 : Sto}
theorem Res.nx {Q : VK} {o : Out D} (n : Nx ρ H ρ1 H1) (h : Res K W' ρ H Q o) : Res K W' ρ1 H1 Q o := by
  cases o with
  | ok d M' => exact fun ρ' v H' a b c => h ρ' v H' (n.trans a) b c
  | exc C fs M' => exact fun ρ' d H' a b c => h ρ' d H' (n.trans a) b c
  | stuck => exact h
theorem ResB.nx {Q : Bool → Hp → Prop} {o : Out Bool} (n : Nx ρ H ρ1 H1) (h : ResB K W' ρ H Q o) : ResB K W' ρ1 H1 Q o := by
  cases o with
  | ok d M' => exact fun ρ' H' a b => h ρ' H' (n.trans a) b
  | exc C fs M' => exact fun ρ' d H' a b c => h ρ' d H' (n.trans a) b c
  | stuck => exact h
theorem ResL.nx {Q : List V → Hp → Prop} {o : Out (List D)} (n : Nx ρ H ρ1 H1) (h : ResL K W' ρ H Q o) : ResL K W' ρ1 H1 Q o := by
  cases o with
  | ok d M' => exact fun ρ' v H' a b c => h ρ' v H' (n.trans a) b c
  | exc C fs M' => exact fun ρ' d H' a b c => h ρ' d H' (n.trans a) b c
  | stuck => exact h
theorem ResS.nx {E : Ends} {o : SO} (n : Nx ρ H ρ1 H1) (h : ResS K W ρ H E o) : ResS K W ρ1 H1 E o := by
  cases o with
  | nx δ M' => exact fun ρ' v H' a b c => h ρ' v H' (n.trans a) b c
  | ret d M' => exact fun ρ' v H' a b c => h ρ' v H' (n.trans a) b c
  | exc C fs δ M' => exact fun ρ' d σ H' a b c e => h ρ' d σ H' (n.trans a) b c e
  | stuck => exact h
/-- one expression behind another -/
theorem rd_bind {f : EF} {g : D → Ev D} {Q : VK} (hE : DenE K ρ (frz ρ H) δ σ) (hS : StOk K ρ M H)
    (h : Res K (fun c d H' => W c d σ H') ρ H Q ((f δ >>= g) M)) :
    rd K W f σ H fun x H1 => ∃ ρ1 d M1, Nx ρ H ρ1 H1 ∧ DenE K ρ1 (frz ρ1 H1) δ σ ∧ StOk K ρ1 M1 H1 ∧ Den K ρ1 (frz ρ1 H1) d x ∧ Res K (fun c d H' => W c d σ H') ρ1 H1 Q (g d M1) := by
  refine ⟨ρ, δ, M, hE, hS, ?_⟩
  rw [Ev.bind_run] at h
  cases e : f δ M with
  | ok d M' =>
    rw [e] at h
    exact fun ρ' v H' n s r => ⟨ρ', d, M', n, hE.mono n.ext, s, r, Res.nx n h⟩
  | exc C fs M' =>
    rw [e] at h
    exact fun ρ' d H' n s r => h ρ' d H' n s r
  | stuck => rw [e] at h; exact h
theorem rd_bindB {f : EF} {g : D → Ev Bool} {Q : Bool → Hp → Prop} (hE : DenE K ρ (frz ρ H) δ σ) (hS : StOk K ρ M H)
    (h : ResB K (fun c d H' => W c d σ H') ρ H Q ((f δ >>= g) M)) :
    rd K W f σ H fun x H1 => ∃ ρ1 d M1, Nx ρ H ρ1 H1 ∧ DenE K ρ1 (frz ρ1 H1) δ σ ∧ StOk K ρ1 M1 H1 ∧ Den K ρ1 (frz ρ1 H1) d x ∧ ResB K (fun c d H' => W c d σ H') ρ1 H1 Q (g d M1) := by
  refine ⟨ρ, δ, M, hE, hS, ?_⟩
  rw [Ev.bind_run] at h
  cases e : f δ M with
  | ok d M' =>
    rw [e] at h
    exact fun ρ' v H' n s r => ⟨ρ', d, M', n, hE.mono n.ext, s, r, ResB.nx n h⟩
  | exc C fs M' =>
    rw [e] at h
    exact fun ρ' d H' n s r => h ρ' d H' n s r
  | stuck => rw [e] at h; exact h
theorem rd_bindL {f : EF} {g : D → Ev (List D)} {Q : List V → Hp → Prop} (hE : DenE K ρ (frz ρ H) δ σ) (hS : StOk K ρ M H)
    (h : ResL K (fun c d H' => W c d σ H') ρ H Q ((f δ >>= g) M)) :
    rd K W f σ H fun x H1 => ∃ ρ1 d M1, Nx ρ H ρ1 H1 ∧ DenE K ρ1 (frz ρ1 H1) δ σ ∧ StOk K ρ1 M1 H1 ∧ Den K ρ1 (frz ρ1 H1) d x ∧ ResL K (fun c d H' => W c d σ H') ρ1 H1 Q (g d M1) := by
  refine ⟨ρ, δ, M, hE, hS, ?_⟩
  rw [Ev.bind_run] at h
  cases e : f δ M with
  | ok d M' =>
    rw [e] at h
    exact fun ρ' v H' n s r => ⟨ρ', d, M', n, hE.mono n.ext, s, r, ResL.nx n h⟩
  | exc C fs M' =>
    rw [e] at h
    exact fun ρ' d H' n s r => h ρ' d H' n s r
  | stuck => rw [e] at h; exact h
theorem rdA_bind {f : AF} {g : List D → Ev D} {Q : VK} (hE : DenE K ρ (frz ρ H) δ σ) (hS : StOk K ρ M H)
    (h : Res K (fun c d H' => W c d σ H') ρ H Q ((f δ >>= g) M)) :
    rdA K W f σ H fun xs H1 => ∃ ρ1 ds M1, Nx ρ H ρ1 H1 ∧ DenE K ρ1 (frz ρ1 H1) δ σ ∧ StOk K ρ1 M1 H1 ∧ Dens K ρ1 (frz ρ1 H1) ds xs ∧ Res K (fun c d H' => W c d σ H') ρ1 H1 Q (g ds M1) := by
  refine ⟨ρ, δ, M, hE, hS, ?_⟩
  rw [Ev.bind_run] at h
  cases e : f δ M with
  | ok d M' =>
    rw [e] at h
    exact fun ρ' v H' n s r => ⟨ρ', d, M', n, hE.mono n.ext, s, r, Res.nx n h⟩
  | exc C fs M' =>
    rw [e] at h
    exact fun ρ' d H' n s r => h ρ' d H' n s r
  | stuck => rw [e] at h; exact h
theorem rdB_bind {f : BF} {g : Bool → Ev D} {Q : VK} (hE : DenE K ρ (frz ρ H) δ σ) (hS : StOk K ρ M H)
    (h : Res K (fun c d H' => W c d σ H') ρ H Q ((f δ >>= g) M)) :
    rdB K W f σ H fun b H1 => ∃ ρ1 M1, Nx ρ H ρ1 H1 ∧ DenE K ρ1 (frz ρ1 H1) δ σ ∧ StOk K ρ1 M1 H1 ∧ Res K (fun c d H' => W c d σ H') ρ1 H1 Q (g b M1) := by
  refine ⟨ρ, δ, M, hE, hS, ?_⟩
  rw [Ev.bind_run] at h
  cases e : f δ M with
  | ok d M' =>
    rw [e] at h
    exact fun ρ' H' n s => ⟨ρ', M', n, hE.mono n.ext, s, Res.nx n h⟩
  | exc C fs M' =>
    rw [e] at h
    exact fun ρ' d H' n s r => h ρ' d H' n s r
  | stuck => rw [e] at h; exact h
theorem rdB_bindB {f : BF} {g : Bool → Ev Bool} {Q : Bool → Hp → Prop} (hE : DenE K ρ (frz ρ H) δ σ) (hS : StOk K ρ M H)
    (h : ResB K (fun c d H' => W c d σ H') ρ H Q ((f δ >>= g) M)) :
    rdB K W f σ H fun b H1 => ∃ ρ1 M1, Nx ρ H ρ1 H1 ∧ DenE K ρ1 (frz ρ1 H1) δ σ ∧ StOk K ρ1 M1 H1 ∧ ResB K (fun c d H' => W c d σ H') ρ1 H1 Q (g b M1) := by
  refine ⟨ρ, δ, M, hE, hS, ?_⟩
  rw [Ev.bind_run] at h
  cases e : f δ M with
  | ok d M' =>
    rw [e] at h
    exact fun ρ' H' n s => ⟨ρ', M', n, hE.mono n.ext, s, ResB.nx n h⟩
  | exc C fs M' =>
    rw [e] at h
    exact fun ρ' d H' n s r => h ρ' d H' n s r
  | stuck => rw [e] at h; exact h
end
end L2.MK

end

section
set_option Elab.async false
set_option linter.all false
set_option maxRecDepth 100000
set_option maxHeartbeats 1000000
set_option autoImplicit false
/-! Expressions. -/
namespace L2.MK
open PySem PySem.Spec PyProof.Rows

section
variable {K : PySem.W.Frag} {ρ : List (Option Addr)} {H H' : Hp} {M : Sto} {a p : Addr} {o : HO}
theorem Nx.new (hp : H p = none) : Nx ρ H ρ (upd H p o) := ⟨fun _ _ h => h, fun b u h => by
  obtain ⟨n, e⟩ := frz_of h
  exact frz_at n (by rw [upd_ne (ne_of_none e hp)]; exact e), Nat.le_refl _, fun a φ _ h => by rw [upd_ne (ne_of_none h hp)]; exact h⟩
theorem Nx.of_same (e : Same H H') : Nx ρ H ρ H' := ⟨fun _ _ h => h, fun b u h => by
  obtain ⟨n, q⟩ := frz_of h
  exact frz_at n (e _ _ q), Nat.le_refl _, fun a φ _ h => e _ _ h⟩
theorem same_new (hp : H p = none) : Same H (upd H p o) := fun b u h => by rw [upd_ne (ne_of_none h hp)]; exact h
theorem MOk.same (e : Same H H') {m : MO} (h : MOk K ρ H a m) : MOk K ρ H' a m := by
  have x := (Nx.of_same (ρ := ρ) e).ext
  cases m with
  | lst ds => obtain ⟨vs, h1, h2⟩ := h; exact ⟨vs, e _ _ h1, h2.mono x⟩
  | dK ds => obtain ⟨vs, h1, h2⟩ := h; exact ⟨vs, e _ _ h1, h2.mono x⟩
  | ins C fs => obtain ⟨dx, vs, h1, h2⟩ := h; exact ⟨dx, vs, e _ _ h1, h2.mono x⟩
  | opq => obtain ⟨o, h1⟩ := h; exact ⟨o, e _ _ h1⟩
  | dead => exact h
theorem StOk.same (e : Same H H') (S : StOk K ρ M H) : StOk K ρ M H' := ⟨S.len, S.inj, fun i a h => by
  obtain ⟨m, h1, h2⟩ := S.at_ i a h
  exact ⟨m, h1, h2.same e⟩, S.dead⟩
theorem StOk.new (hp : H p = none) (S : StOk K ρ M H) : StOk K ρ M (upd H p o) := S.same (same_new hp)
theorem MOk.there {m : MO} (h : MOk K ρ H a m) : ∃ o, H a = some o := by
  cases m with
  | lst ds => obtain ⟨vs, h1, _⟩ := h; exact ⟨_, h1⟩
  | dK ds => obtain ⟨vs, h1, _⟩ := h; exact ⟨_, h1⟩
  | ins C fs => obtain ⟨dx, vs, h1, _⟩ := h; exact ⟨_, h1⟩
  | opq => exact h
  | dead => exact h.elim
theorem StOk.notin (S : StOk K ρ M H) (hp : H p = none) : some p ∉ ρ := fun h => by
  obtain ⟨i, hi, e⟩ := List.mem_iff_getElem.mp h
  obtain ⟨m, _, h2⟩ := S.at_ i p (by rw [List.getElem?_eq_getElem hi, e])
  obtain ⟨o, h3⟩ := h2.there
  rw [hp] at h3
  cases h3
end

/-- a result that is at hand -/
theorem Res.here {K : PySem.W.Frag} {W' : Value → Option Addr → Hp → Prop} {ρ : List (Option Addr)} {H : Hp} {Q : VK} {d : D} {M : Sto} {v : V} (h : Res K W' ρ H Q (.ok d M)) (S : StOk K ρ M H) (r : Den K ρ (frz ρ H) d v) : Q v H := h ρ v H Nx.refl S r
/-- a result that is new -/
theorem Res.made {K : PySem.W.Frag} {W' : Value → Option Addr → Hp → Prop} {ρ : List (Option Addr)} {H : Hp} {Q : VK} {d : D} {M : Sto} {p : Addr} {o : HO} (h : Res K W' ρ H Q (.ok d M)) (S : StOk K ρ M H) (hp : H p = none)
    (r : Den K ρ (frz ρ (upd H p o)) d (.ref p)) : Q (.ref p) (upd H p o) := h ρ (.ref p) _ (Nx.new hp) (S.new hp) r

section
variable {X : Cx} {W : WX}
theorem rd_mono {K : PySem.W.Frag} {f : EF} {σ : St} {H : Hp} {Q Q' : VK} (h : rd K W f σ H Q) (m : ∀ v H', Q v H' → Q' v H') : rd K W f σ H Q' := by
  obtain ⟨ρ, δ, M, hE, hS, h⟩ := h
  refine ⟨ρ, δ, M, hE, hS, ?_⟩
  revert h
  generalize f δ M = r
  intro h
  cases r with
  | ok d M' => exact fun ρ' v H' n s r => m _ _ (h ρ' v H' n s r)
  | exc C fs M' => exact h
  | stuck => exact h
theorem rdA_mono {K : PySem.W.Frag} {f : AF} {σ : St} {H : Hp} {Q Q' : List V → Hp → Prop} (h : rdA K W f σ H Q) (m : ∀ v H', Q v H' → Q' v H') : rdA K W f σ H Q' := by
  obtain ⟨ρ, δ, M, hE, hS, h⟩ := h
  refine ⟨ρ, δ, M, hE, hS, ?_⟩
  revert h
  generalize f δ M = r
  intro h
  cases r with
  | ok d M' => exact fun ρ' v H' n s r => m _ _ (h ρ' v H' n s r)
  | exc C fs M' => exact h
  | stuck => exact h
theorem rdB_mono {K : PySem.W.Frag} {f : BF} {σ : St} {H : Hp} {Q Q' : Bool → Hp → Prop} (h : rdB K W f σ H Q) (m : ∀ v H', Q v H' → Q' v H') : rdB K W f σ H Q' := by
  obtain ⟨ρ, δ, M, hE, hS, h⟩ := h
  refine ⟨ρ, δ, M, hE, hS, ?_⟩
  revert h
  generalize f δ M = r
  intro h
  cases r with
  | ok d M' => exact fun ρ' H' n s => m _ _ (h ρ' H' n s)
  | exc C fs M' => exact h
  | stuck => exact h
theorem rdS_mono {K : PySem.W.Frag} {f : SF} {σ : St} {H : Hp} {E E' : Ends} (h : rdS K W f E σ H) (m : ∀ σ' H', E.nx σ' H' → E'.nx σ' H') (mr : ∀ v H', E.rt v H' → E'.rt v H') : rdS K W f E' σ H := by
  obtain ⟨ρ, δ, M, hE, hS, h⟩ := h
  refine ⟨ρ, δ, M, hE, hS, ?_⟩
  revert h
  generalize f δ M = r
  intro h
  cases r with
  | nx d M' => exact fun ρ' v H' n s r => m _ _ (h ρ' v H' n s r)
  | ret d M' => exact fun ρ' v H' n s r => mr _ _ (h ρ' v H' n s r)
  | exc C fs δ M' => exact h
  | stuck => exact h
/-! ### names, constants -/
def eVar (i : Nat) : EF := fun δ => Ev.get (δ[i]?.join)
theorem join_some {δ : Env} {i : Nat} {d : D} (h : δ[i]?.join = some d) : δ[i]? = some (some d) := by
  cases e : δ[i]? with
  | none => rw [e] at h; cases h
  | some o => rw [e] at h; cases o with
    | none => cases h
    | some d' => cases h; rfl
theorem pd_var (i : Nat) {x : Str} {pos : Pos} (hN : X.N[i]? = some x := by rfl) (hv : Vis X.env.scope x := by first | exact Or.inl rfl | exact Or.inr (Or.inl rfl) | exact Or.inr (Or.inr rfl)) (hd : (x == ("__debug__" : Str)) = false := by decide)
    (hcd : (x == ("__classdict__" : Str)) = false := by decide) : PD X W (.Name x pos) (eVar i) := pe_mono (pe_var hN hv hd hcd) fun σ H Q ⟨ρ, δ, M, hE, hS, h⟩ => by
  unfold eVar at h
  cases e : δ[i]?.join with
  | none => rw [e] at h; exact h.elim
  | some d =>
    rw [e] at h
    obtain ⟨v, h1, h2⟩ := hE.get (join_some e)
    exact ⟨v, h1, h.here hS h2⟩
def eC (d : D) : EF := fun _ => Ev.pure d
theorem pd_con {e : Expr} {v : V} {d : D} (h : PE X e (tC v)) (r : ∀ ρ Φ, Den X.K ρ Φ d v) : PD X W e (eC d) := pe_mono h fun σ H Q ⟨ρ, δ, M, hE, hS, q⟩ => Res.here (W' := fun c d H' => W c d σ H') (show Res X.K _ ρ H Q (.ok d M) from q) hS (r _ _)
theorem pd_int {i : Int} {j : Nat} {pos : Pos} : PD X W (.Constant (.int i) j pos) (eC (.int i)) := pd_con pe_int fun _ _ => .int _
theorem pd_bl {b : Bool} {j : Nat} {pos : Pos} : PD X W (.Constant (.bool b) j pos) (eC (.bl b)) := pd_con pe_bl fun _ _ => .bl _
theorem pd_non {j : Nat} {pos : Pos} : PD X W (.Constant .none j pos) (eC .non) := pd_con pe_non fun _ _ => .non
theorem pd_str {x : Str} {j : Nat} {pos : Pos} : PD X W (.Constant (.str x) j pos) (eC (.str x)) := pd_con pe_str fun _ _ => .str _
/-- a constant of the module -/
theorem pd_gint {x : Str} {i : Int} {pos : Pos} (hg : Gl X x) (h : ∃ t, X.mg x = some (.int i t)) (hd : (x == ("__debug__" : Str)) = false := by decide) : PD X W (.Name x pos) (eC (.int i)) := by
  obtain ⟨t, h⟩ := h
  exact pd_con (pe_glob (v := .int i) hg h ⟨t, rfl⟩ hd) fun _ _ => .int _
theorem pd_gstr {x z : Str} {pos : Pos} (hg : Gl X x) (h : ∃ t, X.mg x = some (.str z t)) (hd : (x == ("__debug__" : Str)) = false := by decide) : PD X W (.Name x pos) (eC (.str z)) := by
  obtain ⟨t, h⟩ := h
  exact pd_con (pe_glob (v := .str z) hg h ⟨t, rfl⟩ hd) fun _ _ => .str _
theorem pd_gcls {x : Str} {pos : Pos} (hg : Gl X x) (h : X.mg x = some (.ref (He.ga X.K x))) (hd : (x == ("__debug__" : Str)) = false := by decide) : PD X W (.Name x pos) (eC (.cls x)) := pd_con (pe_glob (v := .ref (He.ga X.K x)) hg h rfl hd) fun _ _ => .cls _
theorem pd_bty {x : Str} {T : String} {pos : Pos} (hg : Gl X x) (hm : X.mg x = none) (hv : bootBuiltins x = some (.type T)) (hn : x ≠ "__name__" := by decide) (hd : (x == ("__debug__" : Str)) = false := by decide) : PD X W (.Name x pos) (eC (.ty T)) := pd_con (pe_bltn (v := .ty T) hg hm hv rfl hn hd) fun _ _ => .ty _

/-! ### two-place operations -/
abbrev OF := D → D → Sto → Option D
def rO (K : PySem.W.Frag) (g : OF) : R2 := fun x y H Q => ∃ ρ M a b d, StOk K ρ M H ∧ Den K ρ (frz ρ H) a x ∧ Den K ρ (frz ρ H) b y ∧ g a b M = some d ∧
  ∀ v H', Nx ρ H ρ H' → StOk K ρ M H' → Den K ρ (frz ρ H') d v → Q v H'
def opt (o : Sto → Option D) : Ev D := fun M => match o M with
  | some d => .ok d M
  | none => .stuck
theorem opt_of {K : PySem.W.Frag} {W' : Value → Option Addr → Hp → Prop} {ρ : List (Option Addr)} {H : Hp} {Q : VK} {o : Sto → Option D} {M : Sto} (h : Res K W' ρ H Q (opt o M)) :
    ∃ d, o M = some d ∧ ∀ v H', Nx ρ H ρ H' → StOk K ρ M H' → Den K ρ (frz ρ H') d v → Q v H' := by
  unfold opt at h
  cases e : o M with
  | none => rw [e] at h; exact h.elim
  | some d => rw [e] at h; exact ⟨d, rfl, fun v H' n s r => h ρ v H' n s r⟩
def eBin (g : OF) (fa fb : EF) : EF := fun δ => fa δ >>= fun x => fb δ >>= fun y => opt (g x y)
theorem bin_of {K : PySem.W.Frag} {g : OF} {fa fb : EF} {σ : St} {H : Hp} {Q : VK} (h : rd K W (eBin g fa fb) σ H Q) : tOp (rO K g) (rd K W fa) (rd K W fb) σ H Q := by
  obtain ⟨ρ, δ, M, hE, hS, h⟩ := h
  exact rd_mono (rd_bind (f := fa) (g := fun x => fb δ >>= fun y => opt (g x y)) hE hS h) fun x H1 ⟨ρ1, d1, M1, n1, e1, s1, r1, h1⟩ =>
    rd_mono (rd_bind (f := fb) (g := fun y => opt (g d1 y)) e1 s1 h1) fun y H2 ⟨ρ2, d2, M2, n2, e2, s2, r2, h2⟩ => by
      obtain ⟨z, ez, hz⟩ := opt_of h2
      exact ⟨ρ2, M2, d1, d2, z, s2, r1.mono n2.ext, r2, ez, hz⟩
theorem pd_op {op : Operator} {g : OF} {a b : Expr} {fa fb : EF} {pos : Pos} (ho : OpR X (binaryOp op) (rO X.K g)) (ha : PD X W a fa) (hb : PD X W b fb) : PD X W (.BinOp a op b pos) (eBin g fa fb) := pe_mono (pe_op ho ha hb) fun _ _ _ h => bin_of h
theorem pd_cmp {op : CmpOp} {g : OF} {a b : Expr} {fa fb : EF} {pos : Pos} (ho : OpR X (compareOp op) (rO X.K g)) (ha : PD X W a fa) (hb : PD X W b fb) (hm : behindInMarks op b = false) : PD X W (.Compare a [op] [b] pos) (eBin g fa fb) := pe_mono (pe_cmpR ho ha hb hm) fun _ _ _ h => bin_of h
/-- its truth, a bool -/
def isBl : D → Ev Bool
  | .bl b => Ev.pure b
  | _ => Ev.fail
def bOf (f : EF) : BF := fun δ => f δ >>= isBl
theorem tst_of {K : PySem.W.Frag} {f : EF} {σ : St} {H : Hp} {Q : Bool → Hp → Prop} (h : rdB K W (bOf f) σ H Q) : tTest (rd K W f) σ H Q := by
  obtain ⟨ρ, δ, M, hE, hS, h⟩ := h
  refine rd_mono (rd_bindB (f := f) (g := isBl) hE hS h) fun x H1 ⟨ρ1, d1, M1, n1, e1, s1, r1, h1⟩ => ?_
  cases r1 with
  | bl b => exact ⟨b, rfl, h1 ρ1 H1 Nx.refl s1⟩
  | _ => exact h1.elim
theorem bin_ofB {K : PySem.W.Frag} {g : OF} {fa fb : EF} {σ : St} {H : Hp} {Q : Bool → Hp → Prop} (h : rdB K W (bOf (eBin g fa fb)) σ H Q) : tTest (tOp (rO K g) (rd K W fa) (rd K W fb)) σ H Q := by
  have q := tst_of h
  unfold tTest at q ⊢
  exact bin_of q
theorem pd_cmpB {op : CmpOp} {g : OF} {a b : Expr} {fa fb : EF} {pos : Pos} (ho : OpR X (compareOp op) (rO X.K g)) (ha : PD X W a fa) (hb : PD X W b fb) (hm : behindInMarks op b = false) : PDB X W (.Compare a [op] [b] pos) (bOf (eBin g fa fb)) := pt_mono (pt_cmpR ho ha hb hm) fun _ _ _ h => bin_ofB h
end
end L2.MK

end

section
set_option Elab.async false
set_option linter.all false
set_option maxRecDepth 100000
set_option maxHeartbeats 4000000
set_option autoImplicit false
/-! t * k where the tuple stays: k is 1, or t is empty. -/
namespace L2.MK
open PySem PySem.Spec PyProof.Rows PySem.W
theorem tuple_mul1 (l : Addr) (items : Array Value) (n : Nat) (dd : Option Addr) (sl : Array (Option Value)) (x : Int) (u : Tok) (c0 : (decide (x < -(2 ^ 63)) || decide (x ≥ 2 ^ 63)) = false) (c1 : (items.isEmpty || x == 1) = true) :
    Meets (Builtin.«tuple.__mul__» ⟨[.ref l, .int x u], []⟩) (fun _ R s => s.heap.get? l = some { cls := .type "tuple", dict := dd, data := .seq items n, slots := sl } ∧ R (.ok (.ret (.ref l))) s) :=
  .of_wp fun prog w A R s h => by
    obtain ⟨hp, g, d, tk, os⟩ := s
    obtain ⟨hl, h⟩ := h
    have f1 := AutoSeq1.idx_int
    wp_walk using wpAny_loadPart' hl
    repeat (first
      | (refine wpAny_ite_false (decide_eq_false (by rw [c0]; exact Bool.false_ne_true)) ?_; wp_walk using wpAny_loadPart' hl)
      | (refine wpAny_ite_true (decide_eq_true c1) ?_; wp_walk using wpAny_loadPart' hl))
    exact ⟨_, rfl, h⟩
def rRep1 (K : PySem.W.Frag) : R2 := fun x y H Q => ∃ l k xs, x = .ref l ∧ y = .int k ∧ SqT K H l xs ∧ (xs = [] ∨ k = 1) ∧ -1000 ≤ k ∧ k ≤ 1000 ∧ Q (.ref l) H
theorem op_rep1 {X : Cx} : OpR X (binaryOp .Mult) (rRep1 X.K) := by
  intro pins s σ H x y v u Q I rx ry h
  obtain ⟨l, k, xs, rfl, rfl, hT, hne, h1, h2, q⟩ := h
  cases rx
  obtain ⟨t, rfl⟩ := ry
  obtain ⟨its, r, ⟨⟨cls, dd, data, sl⟩, ho, hc, n, hd⟩, hs⟩ := I.tuple hT
  simp only at hc hd
  subst hc hd
  have c0 : (decide (k < -(2 ^ 63)) || decide (k ≥ 2 ^ 63)) = false := by
    rw [decide_eq_false (by omega), decide_eq_false (by omega)] <;> rfl
  have c1 : (its.toArray.isEmpty || k == 1) = true := by
    rcases hne with e | e
    · subst e
      cases r
      rfl
    · subst e
      exact Bool.or_true _
  exact wpAny_binaryOp_repeat_ref (T := "tuple") (U := "int") (by decide) ⟨_, ho, rfl⟩ (fun s' => typeIs_int s' k t) noFill_tuple_mul F.fills_int_mul F.slot_int_rmul repeat_tuple F.slot_int_index.lookup
    (call_meets F.slot_int_rmul (typeIs_int s k t) F.entry_int_rmul (F.args_int_rmul_2 _ _) (int_rmul_tuple k t l its.toArray n dd sl)
      ⟨ho, rfl, ⟨_, ho, rfl⟩, call_meets F.slot_tuple_mul ⟨_, ho, rfl⟩ F.entry_tuple_mul (F.args_tuple_mul_2 _ _) (tuple_mul1 l its.toArray n dd sl k t c0 c1) ⟨ho, ⟨.ref l, H, I, rfl, q⟩⟩⟩)
end L2.MK

end

section
set_option Elab.async false
set_option linter.all false
set_option maxRecDepth 100000
set_option maxHeartbeats 2000000
set_option autoImplicit false
/-! Exceptions that are kept behind the suite. -/
namespace L2.MK
open PySem PySem.Spec PyProof.Rows

theorem exk_ok {P : Program} {w : World} {H : Hp} {h : Heap} {a : Addr} {cls : Value} {d : Option Addr} {o : Obj} {vs : Array Value} (e : h.get? a = some o) (c : o.cls = cls) (hd : o.dict = d) (hv : o.data = .fields vs) : ObjOk P w H h a (exk a cls d) :=
  ⟨⟨o, vs, e, c, hd, hv⟩, ⟨o, e⟩, fun h1 h2 ⟨o1, v1, e1, r⟩ k => ⟨o1, v1, k _ e1, r⟩⟩
theorem exk_at {P : Program} {w : World} {H : Hp} {h : Heap} {a : Addr} {cls : Value} {d : Option Addr} (hok : HOk P w H h) (e : H a = some (exk a cls d)) : ∃ o vs, h.get? a = some o ∧ o.cls = cls ∧ o.dict = d ∧ o.data = .fields vs := by
  have x : ObjOk P w H h a (.ext fun h => ∃ o vs, h.get? a = some o ∧ o.cls = cls ∧ o.dict = d ∧ o.data = .fields vs) := hok a _ e
  exact x.1
section
variable {X : Cx} {pins : List (Addr × Obj)} {σ : St} {H : Hp} {s : Shared}
/-- a thing that stands is tracked from now on -/
theorem track {a : Addr} {oe : Obj} {vs : Array Value} {cls : Value} {d : Option Addr} (I : Inv X pins σ H s) (he : s.heap.get? a = some oe) (hz : Zc cls d oe) (hd : oe.data = .fields vs) (na : H a = none) {sI : Shared} (h0 : ∀ o, sI.heap.get? a = some o → False) (nL : a ≠ X.env.locals) (nF : a ∉ X.fs)
    (hp : ∀ p ∈ X.pn ++ pins, p.1 ≠ a) (hn : ∀ o, X.s_0.heap.get? a = some o → X.H_0 a = none → False) : Inv X pins σ (upd H a (exk a cls d)) s := by
  have new : ObjOk X.prog X.w (upd H a (exk a cls d)) s.heap a (exk a cls d) := exk_ok he hz.1 hz.2 hd
  have hok : HOk X.prog X.w (upd H a (exk a cls d)) s.heap := fun b u e => by
    by_cases hb : b = a
    · subst hb; rw [upd_same] at e; cases e; exact new
    · rw [upd_ne hb] at e
      exact (I.hok b u e).stay (fun c v _ q => q) (fun c q => by rw [upd_ne (ne_of_none q na)]; exact q) fun c xs q => by rw [upd_ne (ne_of_none q na)]; exact q
  refine ⟨I.ok, I.os, I.bare, ⟨I.base.keep, I.base.slot, fun b o e n hx => ?_, I.base.there, fun b xs q => ?_, fun b o u q => ?_, fun b ps q => ?_⟩, I.loc, I.cell, ?_, fun x c e => ?_, fun p hp' => ?_, hok, I.len⟩
  · by_cases hb : b = a
    · subst hb; exact (hn o e n).elim
    · rw [upd_ne hb]; exact I.base.free b o e n hx
  · have q2 := I.base.tups b xs q
    rw [upd_ne (ne_of_none q2 na)]; exact q2
  · have q2 := I.base.frzs b o u q
    rw [upd_ne (ne_of_none q2 na)]; exact q2
  · obtain ⟨more, q2⟩ := I.base.tbls b ps q
    exact ⟨more, by rw [upd_ne (ne_of_none q2 na)]; exact q2⟩
  · rw [upd_ne (Ne.symm nL)]; exact I.free
  · have q : c ≠ a := fun z => by
      obtain ⟨v, o, ho, hdc⟩ := I.cell x c e
      rw [z, he] at ho
      cases ho
      rw [hd] at hdc
      cases hdc
    rw [upd_ne q]; exact I.freeC x c e
  · obtain ⟨q1, q2, q3⟩ := I.pin p hp'
    exact ⟨q1, by rw [upd_ne (hp p hp')]; exact q2, q3⟩
theorem suite_of {a : Addr} (I : Inv X pins σ H s) : Inv (X.suite a (X.pn ++ pins)) [] σ H s :=
  ⟨I.ok.suite _ _, I.os, I.bare, I.base, I.loc, I.cell, I.free, I.freeC, fun p hp => I.pin p (by rw [List.append_nil] at hp; exact hp), I.hok, I.len⟩
theorem unsuite_of {a : Addr} {pn' : List (Addr × Obj)} (I : Inv (X.suite a (X.pn ++ pins)) pn' σ H s) (ok : X.Ok) : Inv X pins σ H s :=
  ⟨ok, I.os, I.bare, I.base, I.loc, I.cell, I.free, I.freeC, fun p hp => I.pin p (List.mem_append_left _ hp), I.hok, I.len⟩
end
/-- what 'except x as n' wishes of an exception of the body: the exception is tracked -/
def wKeep (K : PySem.W.Frag) (c : Value) (i : Nat) (ts : Addr → Value → Option Addr → TS) (Wout : WX) (D : Ends) : WX := fun cls d σ H =>
  ∃ b, PySem.W.exmOne K cls c = some b ∧ (b = true → ∀ a, H a = none → ts a cls d { nx := fun σ' H' => D.nx (σ'.set i none) H', rt := D.rt, bk := fun σ' H' => D.bk (σ'.set i none) H', ct := fun σ' H' => D.ct (σ'.set i none) H' } (σ.set i (some (.ref a))) (upd H a (exk a cls d))) ∧
    (b = false → Wout cls d σ H)
section
variable {X : Cx} {x n : Str} {c : Value} {i : Nat} {body suite : List Stmt} {b₀ : Stmt} {np pos pos' : Pos} {tb : WX → TS} {ts : Addr → Value → Option Addr → TS} {Wout : WX}
theorem ps_try_keep (hs : X.stack = X.env :: X.outer) (hf : X.env.frame = some X.env.locals) (hN : X.N.Nodup) (hi : X.N[i]? = some n) (hln : X.env.kindOf n = some .local) (hc : Names X x c) (tk : Takes X Wout) (hex : ∀ b o, X.s_0.heap.get? b = some o → X.H_0 b = none → b ∈ X.ex → False)
    (hb : ∀ (W : WX) (pn : List (Addr × Obj)) (xe : Value → Shared → Prop), Takes (X.tr pn xe) W → PassesOwn (model X.prog X.w) X.A X.env xe → PSs (X.tr pn xe) body (tb W))
    (hsu : ∀ (a : Addr) (cls : Value) (d : Option Addr) (pn : List (Addr × Obj)), PSs (X.suite a pn) (b₀ :: suite) (ts a cls d)) :
    PS X (.Try body [.ExceptHandler (some (.Name x np)) (some n) (b₀ :: suite) pos'] [] [] pos) (fun D σ H => tb (wKeep X.K c i ts Wout D) D σ H) := by
  refine ⟨fun pins s σ H D I h => ?_⟩
  have ok := I.ok
  have hfr : X.A.frames = some (X.env :: X.outer) := by rw [ok.frames, hs]
  have hloc : Loc X.env.scope n := .inl hln
  refine wpAny_Try_except ?_
  refine wpAny_mono ((hb (wKeep X.K c i ts Wout D) (X.pn ++ pins) (fun e s₁ => wpAny (model X.prog X.w) X.A (noteFrame e X.env) (fun _ s₂ => wpAny (model X.prog X.w) X.A (setFlight e none) (fun _ s₃ =>
    wpAny (model X.prog X.w) X.A (handleBy e X.env [.ExceptHandler (some (.Name x np)) (some n) (b₀ :: suite) pos']) (SP X pins D) X.xe s₃) X.xe s₂) X.xe s₁) (fun u s' xx => ?_) PassesOwn.looking).run [] s σ H D (I.toTry _) h) (fun f s1 hsp => ?_) (fun e s1 he => he)
  · -- the catch
    obtain ⟨a, B, sI, pins', σ', H', cls, d, rfl, J', nb, up, sky, na, os, ag, b, hb1, hyes, hno⟩ := xx
    have J : Inv X pins σ' H' sI := J'.ofTry ok
    have sky' : Sky B (X.env :: X.outer) a (Zc cls d) X.env.locals s'.heap := by rw [← hs]; exact sky
    show wpAny (model X.prog X.w) X.A (noteFrame (.ref a) X.env) _ _ _
    refine Sky.land Zc.steady hfr hf sky' fun h3 fl3 up3 => ?_
    have J3 : Inv X pins σ' H' { s' with heap := h3 } := J.landed nb fl3.1 (up.trans up3) os ag
    obtain ⟨oe3, vs3, he3, hz3, hd3⟩ := fl3.there
    have notFr : ∀ {h : Heap} {o : Obj} {vs : Array Value}, h.FunFrames B (X.env :: X.outer) → h.get? a = some o → o.data = .fields vs → a ∉ frs (X.env :: X.outer) := fun {h o vs} ff e dd hm => by
      obtain ⟨_, o', e', hnf⟩ := ff.mem hm
      rw [e] at e'; cases e'
      exact hnf _ dd
    have nfr := notFr fl3.2.2.1 he3 hd3
    have nL : a ≠ X.env.locals := fun z => nfr (List.mem_filterMap.mpr ⟨X.env, List.mem_cons_self, by rw [hf, z]⟩)
    have nF : a ∉ X.fs := fun hm => by
      obtain ⟨e, he, q⟩ := List.mem_filterMap.mp hm
      exact nfr (List.mem_filterMap.mpr ⟨e, List.mem_cons_of_mem _ he, q⟩)
    have S3 := J3.suite he3 hd3 na nL nF
    refine wpAny_handleBy_cons (codeAny_handlers_test ?_) (by intro q; cases q)
    have LT : PySem.W.Looks (model X.prog X.w) h3 (typeOf (.ref a)) cls := fun A Q E s k q => wpAny_typeOf_ref (k _ _ he3) (by rw [hz3.1]; exact q)
    have LM := PySem.W.exm_one (M := model X.prog X.w) (J3.kIn) LT hb1
    have test : ∀ {Q : Value → Shared → Prop} {E : Value → Shared → Prop}, Q c { s' with heap := h3 } → wpAny (model X.prog X.w) (X.A.mark (some (.ref a))) (eval (.Name x np) X.env) Q E { s' with heap := h3 } := fun {Q E} q => by
      obtain ⟨hg, hdbg, hm | ⟨hm, hv, hnn⟩⟩ := hc
      · exact ld_glob (X := X.suite a ((a, oe3) :: (X.pn ++ pins))) S3 hg hm q hdbg
      · exact ld_blt (X := X.suite a ((a, oe3) :: (X.pn ++ pins))) S3 hg hm hv q hnn hdbg
    refine test (LM.here ?_)
    cases b with
    | true =>
      refine codeAny_handlers_suite_as ?_
      refine HandSPX.lands_againZ fl3 fun h4 fl4 up4 => ?_
      have J4 : Inv X pins σ' H' { s' with heap := h4 } := J.landed nb fl4.1 ((up.trans up3).trans up4) os ag
      obtain ⟨oe4, vs4, he4, hz4, hd4⟩ := fl4.there
      have notB : ∀ b o, sI.heap.get? b = some o → b ∉ frs X.stack → b ≠ a := fun b o e hb z => by
        have q := nb b o e hb
        rw [z, fl3.2.1] at q; cases q
      have nfrS : a ∉ frs X.stack := by rw [hs]; exact nfr
      have J5 := track J4 he4 hz4 hd4 na (fun o e => notB a o e nfrS rfl) nL nF (fun p hp z => by
        obtain ⟨e1, _, e3, e4, _⟩ := J.pin p hp
        refine notB p.1 p.2 e1 (fun hm => ?_) z
        rw [hs] at hm
        obtain ⟨e, he, q⟩ := List.mem_filterMap.mp hm
        rcases List.mem_cons.mp he with z2 | z2
        · rw [z2, hf] at q; exact e3 (Option.some.inj q).symm
        · exact e4 (List.mem_filterMap.mpr ⟨e, z2, q⟩)) (fun o e n => notB a o (J.base.keep a o e n nF (fun q => hex a o e n q)) nfrS rfl)
      have S4 := suite_of (a := a) J5
      refine store_ok (X := X.suite a (X.pn ++ pins)) (v := .ref a) S4 hN hi hloc rfl (fun s5 S5 => ?_) (.inr hln)
      refine wpAny_mono ((hsu a cls d (X.pn ++ pins)).run [] s5 _ _ _ S5 (hyes rfl a na)) (fun f s6 hsp => ?_) (fun _ _ z => False.elim z)
      have end_ : ∀ {σ6 : St} {H6 : Hp} {Q : Shared → Prop}, Inv (X.suite a (X.pn ++ pins)) [] σ6 H6 s6 → (∀ s7, Inv X pins (σ6.set i none) H6 s7 → Q s7) →
          wpAny (model X.prog X.w) X.A (do bindName X.env n .none; unbindBehindTheSuite X.env n pos') (fun _ s7 => Q s7) X.xe s6 := fun {σ6 H6 Q} S6 hq => gone_ok (unsuite_of S6 ok) hN hi hln hq
      cases f with
      | next =>
        obtain ⟨σ6, H6, S6, q6⟩ := hsp
        exact end_ S6 fun s7 J7 => ⟨_, _, J7, q6⟩
      | brk =>
        obtain ⟨σ6, H6, S6, q6⟩ := hsp
        exact end_ S6 fun s7 J7 => ⟨_, _, J7, q6⟩
      | cont =>
        obtain ⟨σ6, H6, S6, q6⟩ := hsp
        exact end_ S6 fun s7 J7 => ⟨_, _, J7, q6⟩
      | ret u =>
        obtain ⟨v6, σ6, H6, S6, r6, q6⟩ := hsp
        exact end_ S6 fun s7 J7 => ⟨_, _, _, J7, r6, q6⟩
    | false =>
      show wpAny _ X.A (handleBy (.ref a) X.env []) _ _ _
      refine wpAny_handleBy_nil ?_
      obtain ⟨k1, k2, k3, oe, vs, T, oT, ts', he, hz, hd, h1, hr⟩ := id fl3
      unfold PySem.passOn
      refine wpAny_bind (wpAny_field he hd h1 ?_)
      rw [if_neg (show ¬ ((Value.ref T == Value.none) = true) from by simp)]
      have fin : wpAny (model X.prog X.w) X.A (setFlight (.ref a) X.env.frame) (fun _ s4 => wpAny (model X.prog X.w) X.A (throw (.ref a) : Sem Flow) (SP X pins D) X.xe s4) X.xe { s' with heap := h3 } := by
        rw [hf]
        refine HandSPX.setFlight_upZ fl3 fun h4 hh4 up4 => wpAny_throw (tk _ _ ?_)
        exact ⟨a, B, sI, pins, σ', H', cls, d, rfl, J, nb, (up.trans up3).trans up4, .inr (.inr (by rw [hs]; exact hh4)), na, os, ag, hno rfl⟩
      first
        | exact wpAny_bind (wpAny_pure (wpAny_bind fin))
        | exact wpAny_bind fin
  · cases f with
    | next =>
      obtain ⟨σ', H', J', q⟩ := hsp
      exact wpAny_execs_nil ⟨σ', H', J'.ofTry ok, q⟩
    | brk =>
      obtain ⟨σ', H', J', q⟩ := hsp
      exact ⟨σ', H', J'.ofTry ok, q⟩
    | cont =>
      obtain ⟨σ', H', J', q⟩ := hsp
      exact ⟨σ', H', J'.ofTry ok, q⟩
    | ret u =>
      obtain ⟨v, σ', H', J', r, q⟩ := hsp
      exact ⟨v, σ', H', J'.ofTry ok, r, q⟩
end
end L2.MK

end

section
set_option Elab.async false
set_option linter.all false
set_option maxRecDepth 100000
set_option maxHeartbeats 1000000
set_option autoImplicit false
/-! Operations on data. -/
namespace L2.MK
open PySem PySem.Spec PyProof.Rows

mutual
/-- as data -/
def D.py : D → Option PyData
  | .non => some .none
  | .bl b => some (.bool b)
  | .int i => some (.int i)
  | .str x => some (.str x)
  | .tup xs => (D.pys xs).map .tuple
  | .lst xs => (D.pys xs).map .list
  | .rol xs => (D.pys xs).map .list
  | _ => none
def D.pys : List D → Option (List PyData)
  | [] => some []
  | d :: ds => match D.py d, D.pys ds with
    | some p, some ps => some (p :: ps)
    | _, _ => none
end
/-- a list of the store, as a list -/
def vw (M : Sto) : D → D
  | .ref i => match M[i]? with
    | some (.lst xs) => .lst xs
    | _ => .ref i
  | d => d
def lvw (M : Sto) (d : D) : Option (List D) := match vw M d with
  | .lst xs => some xs
  | _ => none
/-- .. lists that are only read, too -/
def rvw (M : Sto) (d : D) : Option (List D) := match vw M d with
  | .lst xs => some xs
  | .rol xs => some xs
  | _ => none

section
variable {K : PySem.W.Frag} {ρ : List (Option Addr)} {H : Hp} {M : Sto} {Φ : Hp}
mutual
theorem den_dp : ∀ {d : D} {v : V} {p : PyData}, Den K ρ Φ d v → d.py = some p → Dp K Φ v p
  | _, _, _, .non, e => by cases e; exact .non
  | _, _, _, .bl b, e => by cases e; exact .bl b
  | _, _, _, .int i, e => by cases e; exact .int i
  | _, _, _, .str x, e => by cases e; exact .str x
  | _, _, _, .ty T, e => by simp [D.py] at e
  | _, _, _, .cls C, e => by simp [D.py] at e
  | _, _, _, .dct h h2 r, e => by simp [D.py] at e
  | _, _, _, .ref h, e => by simp [D.py] at e
  | _, _, _, .ins h r, e => by simp [D.py] at e
  | _, _, _, .exc h h2 h3 r, e => by simp [D.py] at e
  | .tup ds, _, p, .tup h r, e => by
    unfold D.py at e
    cases q : D.pys ds with
    | none => rw [q] at e; cases e
    | some ps => rw [q] at e; cases e; exact .tup h (dens_dp r q)
  | .lst ds, _, p, .lst h r, e => by
    unfold D.py at e
    cases q : D.pys ds with
    | none => rw [q] at e; cases e
    | some ps => rw [q] at e; cases e; exact .lst (.of h) (dens_dp r q)
  | .rol ds, _, p, .rol h r, e => by
    unfold D.py at e
    cases q : D.pys ds with
    | none => rw [q] at e; cases e
    | some ps => rw [q] at e; cases e; exact .lst h (dens_dp r q)
theorem dens_dp : ∀ {ds : List D} {vs : List V} {ps : List PyData}, Dens K ρ Φ ds vs → D.pys ds = some ps → DpAll K Φ vs ps
  | _, _, _, .nil, e => by cases e; exact .nil
  | d :: ds, _, _, .cons h r, e => by
    unfold D.pys at e
    cases q : d.py with
    | none => rw [q] at e; cases e
    | some p =>
      cases q2 : D.pys ds with
      | none => rw [q, q2] at e; cases e
      | some ps => rw [q, q2] at e; cases e; exact .cons (den_dp h q) (dens_dp r q2)
end
mutual
theorem dp_same {Φ' : Hp} (e : Same Φ Φ') : ∀ {v : V} {p : PyData}, Dp K Φ v p → Dp K Φ' v p
  | _, _, .non => .non
  | _, _, .bl b => .bl b
  | _, _, .int i => .int i
  | _, _, .str x => .str x
  | _, _, .lst h r => .lst (e.seq h) (dpAll_same e r)
  | _, _, .tup h r => .tup (same_sqT e h) (dpAll_same e r)
theorem dpAll_same {Φ' : Hp} (e : Same Φ Φ') : ∀ {vs : List V} {ps : List PyData}, DpAll K Φ vs ps → DpAll K Φ' vs ps
  | _, _, .nil => .nil
  | _, _, .cons h r => .cons (dp_same e h) (dpAll_same e r)
end
/-- what a value is, read in full -/
inductive Seen (K : PySem.W.Frag) (ρ : List (Option Addr)) (H : Hp) : D → V → Prop
  | den {d : D} {v : V} : Den K ρ (frz ρ H) d v → Seen K ρ H d v
  | lst {ds : List D} {a : Addr} {vs : List V} : H a = some (.lst vs) → Dens K ρ (frz ρ H) ds vs → Seen K ρ H (.lst ds) (.ref a)
theorem seen_of (S : StOk K ρ M H) {d : D} {v : V} (r : Den K ρ (frz ρ H) d v) : Seen K ρ H (vw M d) v := by
  cases r with
  | @ref i a h =>
    obtain ⟨m, h1, h2⟩ := S.at_ i a h
    have e : vw M (.ref i) = (match M[i]? with
      | some (.lst xs) => .lst xs
      | _ => .ref i) := rfl
    rw [e, h1]
    cases m with
    | lst ds => obtain ⟨vs, h3, h4⟩ := h2; exact .lst h3 h4
    | dK kvs => exact .den (.ref h)
    | ins C fs => exact .den (.ref h)
    | opq => exact .den (.ref h)
    | dead => exact h2.elim
  | non => exact .den .non
  | bl b => exact .den (.bl b)
  | int i => exact .den (.int i)
  | str i => exact .den (.str i)
  | ty i => exact .den (.ty i)
  | cls i => exact .den (.cls i)
  | tup h r => exact .den (.tup h r)
  | lst h r => exact .den (.lst h r)
  | rol h r => exact .den (.rol h r)
  | dct h h2 r => exact .den (.dct h h2 r)
  | ins h r => exact .den (.ins h r)
  | exc h h2 h3 r => exact .den (.exc h h2 h3 r)
theorem Seen.dp {d : D} {v : V} {p : PyData} (s : Seen K ρ H d v) (e : d.py = some p) : Dp K H v p := by
  cases s with
  | den r => exact dp_same (frz_same ρ H) (den_dp r e)
  | @lst ds a vs h r =>
    unfold D.py at e
    cases q : D.pys ds with
    | none => rw [q] at e; cases e
    | some ps => rw [q] at e; cases e; exact .lst (.of h) (dpAll_same (frz_same ρ H) (dens_dp r q))
theorem lvw_of (S : StOk K ρ M H) {d : D} {v : V} {xs : List D} (r : Den K ρ (frz ρ H) d v) (e : lvw M d = some xs) : ∃ a vs, v = .ref a ∧ H a = some (.lst vs) ∧ Dens K ρ (frz ρ H) xs vs := by
  have s := seen_of S r
  unfold lvw at e
  cases q : vw M d <;> rw [q] at e <;> first | cases e | skip
  rw [q] at s
  cases s with
  | den z =>
    cases z with
    | lst h z2 => exact ⟨_, _, rfl, (frz_of h).2, z2⟩
  | lst h z2 => exact ⟨_, _, rfl, h, z2⟩
theorem rvw_of (S : StOk K ρ M H) {d : D} {v : V} {xs : List D} (r : Den K ρ (frz ρ H) d v) (e : rvw M d = some xs) : ∃ a vs, v = .ref a ∧ SqL K H a vs ∧ Dens K ρ (frz ρ H) xs vs := by
  have s := seen_of S r
  unfold rvw at e
  cases q : vw M d <;> rw [q] at e <;> first | cases e | skip
  all_goals rw [q] at s
  · cases s with
    | den z =>
      cases z with
      | lst h z2 => exact ⟨_, _, rfl, .of (frz_of h).2, z2⟩
    | lst h z2 => exact ⟨_, _, rfl, .of h, z2⟩
  · cases s with
    | den z =>
      cases z with
      | rol h z2 => exact ⟨_, _, rfl, (frz_same ρ H).seq h, z2⟩
end

theorem OpR.imp {X : Cx} {f : Value → Value → Sem Value} {r r' : R2} (h : OpR X f r) (m : ∀ x y H Q, r' x y H Q → r x y H Q) : OpR X f r' := fun pins s σ H x y v u Q I rx ry q => h pins s σ H x y v u Q I rx ry (m x y H Q q)
theorem CallR.imp {X : Cx} {f : Value} {r r' : List V → Hp → VK → Prop} (h : CallR X f r) (m : ∀ x H Q, r' x H Q → r x H Q) : CallR X f r' := fun pins s σ H x v Q I rx q => h pins s σ H x v Q I rx (m x H Q q)
theorem MtR.imp {X : Cx} {id : String} {r r' : V → List V → Hp → VK → Prop} (h : MtR X id r) (m : ∀ x xs H Q, r' x xs H Q → r x xs H Q) : MtR X id r' := fun pins s σ H x xs v us Q I rx rs q => h pins s σ H x xs v us Q I rx rs (m x xs H Q q)

/-! ### == and != -/
def eqD : D → D → Sto → Option Bool := fun x y M => match (vw M x).py, (vw M y).py with
  | some p, some q => if p.plain = true ∧ q.plain = true ∧ min p.depth q.depth ≤ 60 then some (PyData.eqv p q) else none
  | _, _ => none
def oEq : OF := fun x y M => (eqD x y M).map .bl
def oNe : OF := fun x y M => (eqD x y M).map fun b => .bl (!b)
section
variable {X : Cx}
theorem eqD_of {K : PySem.W.Frag} {ρ : List (Option Addr)} {H : Hp} {M : Sto} {a b : D} {x y : V} {k : Bool} (S : StOk K ρ M H) (ra : Den K ρ (frz ρ H) a x) (rb : Den K ρ (frz ρ H) b y) (e : eqD a b M = some k) :
    ∃ p q, Dp K H x p ∧ Dp K H y q ∧ p.plain = true ∧ q.plain = true ∧ min p.depth q.depth ≤ 60 ∧ k = PyData.eqv p q := by
  unfold eqD at e
  cases e1 : (vw M a).py with
  | none => rw [e1] at e; cases e
  | some p =>
    cases e2 : (vw M b).py with
    | none => rw [e1, e2] at e; cases e
    | some q =>
      rw [e1, e2] at e
      simp only at e
      split at e
      · rename_i h
        cases e
        exact ⟨p, q, (seen_of S ra).dp e1, (seen_of S rb).dp e2, h.1, h.2.1, h.2.2, rfl⟩
      · cases e
theorem op_eq' (hu : X.A.units + 64 < cLine) : OpR X (compareOp .Eq) (rO X.K oEq) := by
  intro pins s σ H x y v u Q I rx ry h
  obtain ⟨ρ, M, a, b, d, S, ra, rb, e, q⟩ := h
  unfold oEq at e
  cases ek : eqD a b M with
  | none => rw [ek] at e; cases e
  | some k =>
    rw [ek] at e
    cases e
    obtain ⟨p, p', h1, h2, h3, h4, h5, rfl⟩ := eqD_of S ra rb ek
    obtain ⟨as, r1⟩ := Dp.reads I p x v h1 rx
    obtain ⟨bs, r2⟩ := Dp.reads I p' y u h2 ry
    exact SeqAt.eq_plain r1 r2 h3 h4 (by omega) ⟨.bl _, H, I, rfl, q _ H Nx.refl S (.bl _)⟩
theorem op_ne' (hu : X.A.units + 64 < cLine) : OpR X (compareOp .NotEq) (rO X.K oNe) := by
  intro pins s σ H x y v u Q I rx ry h
  obtain ⟨ρ, M, a, b, d, S, ra, rb, e, q⟩ := h
  unfold oNe at e
  cases ek : eqD a b M with
  | none => rw [ek] at e; cases e
  | some k =>
    rw [ek] at e
    cases e
    obtain ⟨p, p', h1, h2, h3, h4, h5, rfl⟩ := eqD_of S ra rb ek
    obtain ⟨as, r1⟩ := Dp.reads I p x v h1 rx
    obtain ⟨bs, r2⟩ := Dp.reads I p' y u h2 ry
    exact SeqAt.ne_plain r1 r2 h3 h4 (by omega) ⟨.bl _, H, I, rfl, q _ H Nx.refl S (.bl _)⟩

/-! ### in, not in -/
def inD : D → D → Sto → Option Bool := fun x y M => match x, y with
  | .str a, .str b => some (!(Builtin.Str.occurrences b a 0 b.length 1).isEmpty)
  | x, y => match (vw M x).py, (vw M y).py with
    | some p, some (.list qs) => if p.plain = true ∧ PyData.plainAll qs = true ∧ p.depth ≤ 60 then some (qs.any fun q => PyData.eqv q p) else none
    | some p, some (.tuple qs) => if p.plain = true ∧ PyData.plainAll qs = true ∧ p.depth ≤ 60 then some (qs.any fun q => PyData.eqv q p) else none
    | _, _ => none
def oIn : OF := fun x y M => (inD x y M).map .bl
def oNotIn : OF := fun x y M => (inD x y M).map fun b => .bl (!b)
theorem inD_of {K : PySem.W.Frag} {ρ : List (Option Addr)} {H : Hp} {M : Sto} {a b : D} {x y : V} {k : Bool} (S : StOk K ρ M H) (ra : Den K ρ (frz ρ H) a x) (rb : Den K ρ (frz ρ H) b y) (e : inD a b M = some k) :
    (∃ i j, x = .str i ∧ y = .str j ∧ k = !(Builtin.Str.occurrences j i 0 j.length 1).isEmpty) ∨
    ∃ p qs, Dp K H x p ∧ (Dp K H y (.list qs) ∨ Dp K H y (.tuple qs)) ∧ p.plain = true ∧ PyData.plainAll qs = true ∧ p.depth ≤ 60 ∧ k = qs.any fun q => PyData.eqv q p := by
  have main : (match (vw M a).py, (vw M b).py with
    | some p, some (.list qs) => if p.plain = true ∧ PyData.plainAll qs = true ∧ p.depth ≤ 60 then some (qs.any fun q => PyData.eqv q p) else none
    | some p, some (.tuple qs) => if p.plain = true ∧ PyData.plainAll qs = true ∧ p.depth ≤ 60 then some (qs.any fun q => PyData.eqv q p) else none
    | _, _ => none) = some k → ∃ p qs, Dp K H x p ∧ (Dp K H y (.list qs) ∨ Dp K H y (.tuple qs)) ∧ p.plain = true ∧ PyData.plainAll qs = true ∧ p.depth ≤ 60 ∧ k = qs.any fun q => PyData.eqv q p := by
    intro e
    cases e1 : (vw M a).py with
    | none => rw [e1] at e; simp at e
    | some p =>
      cases e2 : (vw M b).py with
      | none => rw [e1, e2] at e; simp at e
      | some q =>
        rw [e1, e2] at e
        cases q with
        | list qs =>
          simp only at e
          split at e
          · rename_i h
            cases e
            exact ⟨p, qs, (seen_of S ra).dp e1, .inl ((seen_of S rb).dp e2), h.1, h.2.1, h.2.2, rfl⟩
          · cases e
        | tuple qs =>
          simp only at e
          split at e
          · rename_i h
            cases e
            exact ⟨p, qs, (seen_of S ra).dp e1, .inr ((seen_of S rb).dp e2), h.1, h.2.1, h.2.2, rfl⟩
          · cases e
        | _ => simp at e
  unfold inD at e
  split at e
  · cases e
    cases ra
    cases rb
    exact .inl ⟨_, _, rfl, rfl, rfl⟩
  · exact .inr (main e)
theorem op_in' (hu : X.A.units + 64 < cLine) : OpR X (compareOp .In) (rO X.K oIn) := by
  intro pins s σ H x y v u Q I rx ry h
  obtain ⟨ρ, M, a, b, d, S, ra, rb, e, q⟩ := h
  unfold oIn at e
  cases ek : inD a b M with
  | none => rw [ek] at e; cases e
  | some k =>
    rw [ek] at e
    cases e
    rcases inD_of S ra rb ek with ⟨i, j, rfl, rfl, rfl⟩ | ⟨p, qs, h1, h2, h3, h4, h5, rfl⟩
    · exact op_in_str pins s σ H _ _ v u Q I rx ry ⟨i, j, rfl, rfl, q _ H Nx.refl S (.bl _)⟩
    · obtain ⟨as, r1⟩ := Dp.reads I p x v h1 rx
      rcases h2 with h2 | h2
      · obtain ⟨bs, r2⟩ := Dp.reads I _ y u h2 ry
        exact SeqAt.in_list_data r2 r1 h4 h3 (by omega) ⟨.bl _, H, I, rfl, q _ H Nx.refl S (.bl _)⟩
      · obtain ⟨bs, r2⟩ := Dp.reads I _ y u h2 ry
        exact SeqAt.in_tuple_data r2 r1 h4 h3 (by omega) ⟨.bl _, H, I, rfl, q _ H Nx.refl S (.bl _)⟩
theorem op_notIn' (hu : X.A.units + 64 < cLine) : OpR X (compareOp .NotIn) (rO X.K oNotIn) := by
  intro pins s σ H x y v u Q I rx ry h
  obtain ⟨ρ, M, a, b, d, S, ra, rb, e, q⟩ := h
  unfold oNotIn at e
  cases ek : inD a b M with
  | none => rw [ek] at e; cases e
  | some k =>
    rw [ek] at e
    cases e
    rcases inD_of S ra rb ek with ⟨i, j, rfl, rfl, rfl⟩ | ⟨p, qs, h1, h2, h3, h4, h5, rfl⟩
    · exact op_notin_str pins s σ H _ _ v u Q I rx ry ⟨i, j, rfl, rfl, q _ H Nx.refl S (.bl _)⟩
    · obtain ⟨as, r1⟩ := Dp.reads I p x v h1 rx
      rcases h2 with h2 | h2
      · obtain ⟨bs, r2⟩ := Dp.reads I _ y u h2 ry
        exact SeqAt.notIn_list_data r2 r1 h4 h3 (by omega) ⟨.bl _, H, I, rfl, q _ H Nx.refl S (.bl _)⟩
      · obtain ⟨bs, r2⟩ := Dp.reads I _ y u h2 ry
        exact SeqAt.notIn_tuple_data r2 r1 h4 h3 (by omega) ⟨.bl _, H, I, rfl, q _ H Nx.refl S (.bl _)⟩

/-! ### < and its kin, of ints; is None -/
def oLt : OF := fun x y _ => match x, y with
  | .int i, .int j => some (.bl (decide (i < j)))
  | _, _ => none
def oLe : OF := fun x y _ => match x, y with
  | .int i, .int j => some (.bl (decide (i ≤ j)))
  | _, _ => none
def oGt : OF := fun x y _ => match x, y with
  | .int i, .int j => some (.bl (decide (j < i)))
  | _, _ => none
def oGe : OF := fun x y _ => match x, y with
  | .int i, .int j => some (.bl (decide (j ≤ i)))
  | _, _ => none
theorem of_int2 {K : PySem.W.Frag} {g : OF} {f : Int → Int → Bool} (hg : ∀ x y M d, g x y M = some d → ∃ i j, x = .int i ∧ y = .int j ∧ d = .bl (f i j)) {x y : V} {H : Hp} {Q : VK} (h : rO K g x y H Q) : rI0 (fun i j => .bl (f i j)) x y H Q := by
  obtain ⟨ρ, M, a, b, d, S, ra, rb, e, q⟩ := h
  obtain ⟨i, j, rfl, rfl, rfl⟩ := hg a b M d e
  cases ra
  cases rb
  exact ⟨i, j, rfl, rfl, q _ H Nx.refl S (.bl _)⟩
theorem op_lt' : OpR X (compareOp .Lt) (rO X.K oLt) := OpR.imp op_lt fun _ _ _ _ h => of_int2 (fun x y M d e => by unfold oLt at e; split at e <;> first | (cases e; exact ⟨_, _, rfl, rfl, rfl⟩) | cases e) h
theorem op_le' : OpR X (compareOp .LtE) (rO X.K oLe) := OpR.imp op_le fun _ _ _ _ h => of_int2 (fun x y M d e => by unfold oLe at e; split at e <;> first | (cases e; exact ⟨_, _, rfl, rfl, rfl⟩) | cases e) h
theorem op_gt' : OpR X (compareOp .Gt) (rO X.K oGt) := OpR.imp op_gt fun _ _ _ _ h => of_int2 (fun x y M d e => by unfold oGt at e; split at e <;> first | (cases e; exact ⟨_, _, rfl, rfl, rfl⟩) | cases e) h
theorem op_ge' : OpR X (compareOp .GtE) (rO X.K oGe) := OpR.imp op_ge fun _ _ _ _ h => of_int2 (fun x y M d e => by unfold oGe at e; split at e <;> first | (cases e; exact ⟨_, _, rfl, rfl, rfl⟩) | cases e) h
def isNon : D → Bool
  | .non => true
  | _ => false
def oIs : OF := fun x y _ => match y with
  | .non => some (.bl (isNon x))
  | _ => none
def oIsNot : OF := fun x y _ => match y with
  | .non => some (.bl (!isNon x))
  | _ => none
theorem isNon_of {K : PySem.W.Frag} {ρ : List (Option Addr)} {Φ : Hp} {a : D} {x : V} (r : Den K ρ Φ a x) : decide (x = .non) = isNon a := by
  cases r <;> simp [isNon]
theorem op_is' : OpR X (compareOp .Is) (rO X.K oIs) := OpR.imp op_isN fun x y H Q ⟨ρ, M, a, b, d, S, ra, rb, e, q⟩ => by
  unfold oIs at e
  split at e
  · cases e
    cases rb
    exact ⟨rfl, by rw [isNon_of ra]; exact q _ H Nx.refl S (.bl _)⟩
  · cases e
theorem op_isNot' : OpR X (compareOp .IsNot) (rO X.K oIsNot) := OpR.imp op_notN fun x y H Q ⟨ρ, M, a, b, d, S, ra, rb, e, q⟩ => by
  unfold oIsNot at e
  split at e
  · cases e
    cases rb
    exact ⟨rfl, by rw [isNon_of ra]; exact q _ H Nx.refl S (.bl _)⟩
  · cases e

/-! ### arithmetic -/
def oAdd : OF := fun x y M => match x, y with
  | .int i, .int j => some (.int (i + j))
  | .str a, .str b => if a.length + b.length ≤ sizeLine then some (.str (a ++ b)) else none
  | .tup xs, .tup ys => if xs.length + ys.length ≤ sizeLine then some (.tup (xs ++ ys)) else none
  | x, y => match lvw M x, lvw M y with
    | some xs, some ys => if xs.length + ys.length ≤ sizeLine then some (.lst (xs ++ ys)) else none
    | _, _ => none
theorem op_add' : OpR X (binaryOp .Add) (rO X.K oAdd) := by
  intro pins s σ H x y v u Q I rx ry h
  obtain ⟨ρ, M, a, b, d, S, ra, rb, e, q⟩ := h
  unfold oAdd at e
  split at e
  · cases e
    cases ra
    cases rb
    exact op_add pins s σ H _ _ v u Q I rx ry ⟨_, _, rfl, rfl, q _ H Nx.refl S (.int _)⟩
  · split at e
    · cases e
      cases ra
      cases rb
      exact op_add_str pins s σ H _ _ v u Q I rx ry ⟨_, _, rfl, rfl, by assumption, q _ H Nx.refl S (.str _)⟩
    · cases e
  · rename_i xs ys
    split at e
    · rename_i hz
      cases e
      cases ra with
      | tup h1 r1 =>
        cases rb with
        | tup h2 r2 =>
          refine op_catA pins s σ H _ _ v u Q I rx ry ⟨_, _, _, _, rfl, rfl, same_sqT (frz_same ρ H) h1, same_sqT (frz_same ρ H) h2, by rw [← r1.length, ← r2.length]; exact hz, fun e0 => ?_, fun _ e0 => ?_, fun _ _ p hp => ?_⟩
          · subst e0
            cases r1
            exact q _ H Nx.refl S (.tup h2 r2)
          · subst e0
            cases r2
            rw [List.append_nil] at q
            exact q _ H Nx.refl S (.tup h1 r1)
          · exact q _ _ (Nx.new hp) (S.new hp) (.tup (.of (frz_at (S.notin hp) upd_same)) ((r1.mono (Nx.new hp).ext).append (r2.mono (Nx.new hp).ext)))
    · cases e
  · split at e
    · rename_i xs ys e1 e2
      split at e
      · rename_i hz
        cases e
        obtain ⟨l1, vs1, rfl, h1, r1⟩ := lvw_of S ra e1
        obtain ⟨l2, vs2, rfl, h2, r2⟩ := lvw_of S rb e2
        refine op_cat pins s σ H _ _ v u Q I rx ry ⟨_, _, _, _, rfl, rfl, h1, h2, by rw [← r1.length, ← r2.length]; exact hz, fun p hp => ?_⟩
        exact q _ _ (Nx.new hp) (S.new hp) (.lst (frz_at (S.notin hp) upd_same) ((r1.mono (Nx.new hp).ext).append (r2.mono (Nx.new hp).ext)))
      · cases e
    · cases e
def oSub : OF := fun x y _ => match x, y with
  | .int i, .int j => some (.int (i - j))
  | _, _ => none
theorem op_sub' : OpR X (binaryOp .Sub) (rO X.K oSub) := OpR.imp op_sub fun x y H Q ⟨ρ, M, a, b, d, S, ra, rb, e, q⟩ => by
  unfold oSub at e
  split at e
  · cases e; cases ra; cases rb; exact ⟨_, _, rfl, rfl, q _ H Nx.refl S (.int _)⟩
  · cases e
def oMod : OF := fun x y _ => match x, y with
  | .int i, .int j => if 0 < j then some (.int (i % j)) else none
  | _, _ => none
theorem op_mod' : OpR X (binaryOp .Mod) (rO X.K oMod) := OpR.imp op_mod fun x y H Q ⟨ρ, M, a, b, d, S, ra, rb, e, q⟩ => by
  unfold oMod at e
  split at e
  · split at e
    · cases e; cases ra; cases rb; exact ⟨_, _, rfl, rfl, by assumption, q _ H Nx.refl S (.int _)⟩
    · cases e
  · cases e
def oDiv : OF := fun x y _ => match x, y with
  | .int i, .int j => if 0 < j ∧ j.natAbs.log2 < 9000 then some (.int (i / j)) else none
  | _, _ => none
theorem op_div' : OpR X (binaryOp .FloorDiv) (rO X.K oDiv) := OpR.imp op_fdivW fun x y H Q ⟨ρ, M, a, b, d, S, ra, rb, e, q⟩ => by
  unfold oDiv at e
  split at e
  · split at e
    · rename_i h
      cases e; cases ra; cases rb; exact ⟨_, _, rfl, rfl, h, q _ H Nx.refl S (.int _)⟩
    · cases e
  · cases e
/-- powers of written numbers -/
def oPow : OF := fun x y _ => match x, y with
  | .int i, .int j => if 0 ≤ j ∧ (Builtin.Int.intBits i : Int) * j ≤ 2 ^ 27 then some (.int (i ^ j.toNat)) else none
  | _, _ => none
theorem op_pow' : OpR X (binaryOp .Pow) (rO X.K oPow) := by
  intro pins s σ H x y v u Q I rx ry h
  obtain ⟨ρ, M, a, b, d, S, ra, rb, e, q⟩ := h
  unfold oPow at e
  split at e
  · split at e
    · rename_i h
      cases e
      cases ra
      cases rb
      obtain ⟨t, rfl⟩ := rx
      obtain ⟨t', rfl⟩ := ry
      exact pow_int h.1 h.2 ⟨.int _, H, I.tok _, ⟨_, rfl⟩, q _ H Nx.refl S (.int _)⟩
    · cases e
  · cases e
def repL (k : Nat) (xs : List D) : List D := (List.replicate k xs).flatten
theorem Dens.rep {K : PySem.W.Frag} {ρ : List (Option Addr)} {Φ : Hp} {xs : List D} {vs : List V} (r : Dens K ρ Φ xs vs) : ∀ k : Nat, Dens K ρ Φ (repL k xs) (List.replicate k vs).flatten
  | 0 => .nil
  | k + 1 => by
    unfold repL
    rw [List.replicate_succ, List.replicate_succ, List.flatten_cons, List.flatten_cons]
    exact r.append (Dens.rep r k)
def oMul : OF := fun x y M => match x, y with
  | .int i, .int j => if i.natAbs.log2 + j.natAbs.log2 < 1000000 then some (.int (i * j)) else none
  | .tup xs, .int k => if (xs = [] ∨ 1 ≤ k) ∧ -1000 ≤ k ∧ k ≤ 1000 ∧ xs.length ≤ 1000 then some (.tup (repL k.toNat xs)) else none
  | x, .int k => match lvw M x with
    | some xs => if -(2 ^ 63) ≤ k ∧ k < 2 ^ 63 ∧ xs.length * k.toNat ≤ sizeLine then some (.lst (repL k.toNat xs)) else none
    | none => none
  | _, _ => none
theorem op_mul' : OpR X (binaryOp .Mult) (rO X.K oMul) := by
  intro pins s σ H x y v u Q I rx ry h
  obtain ⟨ρ, M, a, b, d, S, ra, rb, e, q⟩ := h
  unfold oMul at e
  split at e
  · split at e
    · rename_i h
      cases e
      cases ra
      cases rb
      exact op_mulW pins s σ H _ _ v u Q I rx ry ⟨_, _, rfl, rfl, h, q _ H Nx.refl S (.int _)⟩
    · cases e
  · split at e
    · rename_i h
      cases e
      cases ra with
      | tup h1 r1 =>
        cases rb
        rename_i xs0 k0 _ vs0
        by_cases h0 : xs0 = [] ∨ k0 = 1
        · have e1 : repL k0.toNat xs0 = xs0 := by
            rcases h0 with z | z
            · subst z; unfold repL; simp
            · subst z; unfold repL; simp
          rw [e1] at q
          refine op_rep1 pins s σ H _ _ v u Q I rx ry ⟨_, _, _, rfl, rfl, same_sqT (frz_same ρ H) h1, ?_, h.2.1, h.2.2.1, q _ H Nx.refl S (.tup h1 r1)⟩
          rcases h0 with z | z
          · subst z; cases r1; exact .inl rfl
          · exact .inr z
        refine op_repT pins s σ H _ _ v u Q I rx ry ⟨_, _, _, rfl, rfl, same_sqT (frz_same ρ H) h1, fun e0 => ?_, ?_, h.2.2.1, by rw [← r1.length]; exact h.2.2.2, fun p hp => ?_⟩
        · subst e0
          cases r1
          exact h0 (.inl rfl)
        · rcases h.1 with z | z
          · exact absurd (.inl z) h0
          · have : k0 ≠ 1 := fun z => h0 (.inr z)
            omega
        · exact q _ _ (Nx.new hp) (S.new hp) (.tup (.of (frz_at (S.notin hp) upd_same)) ((r1.mono (Nx.new hp).ext).rep _))
    · cases e
  · split at e
    · rename_i xs e1
      split at e
      · rename_i h
        cases e
        obtain ⟨l1, vs1, rfl, h1, r1⟩ := lvw_of S ra e1
        cases rb
        refine op_rep pins s σ H _ _ v u Q I rx ry ⟨_, _, _, rfl, rfl, h1, h.1, h.2.1, by rw [← r1.length]; exact h.2.2, fun p hp => ?_⟩
        exact q _ _ (Nx.new hp) (S.new hp) (.lst (frz_at (S.notin hp) upd_same) ((r1.mono (Nx.new hp).ext).rep _))
      · cases e
    · cases e
  · cases e
end
end L2.MK

end

section
set_option Elab.async false
set_option linter.all false
set_option maxRecDepth 100000
set_option maxHeartbeats 2000000
set_option autoImplicit false
/-! sorted of anything that can be gathered; all; repr. -/
namespace L2.MK
open PySem PySem.Spec PyProof.Rows PySem.W

section
variable {P : Program} {w : World} {A : Around} {E : Value → Shared → Prop} {s : Shared} {β : Type} {enc : β → PyData} {R : Value → β → Prop}
theorem collect_seq {Q : List Value → Shared → Prop} (it : Addr) {T : String} {o : Obj} {items : Array Value} {n : Nat} (hT : T = "list" ∨ T = "tuple")
    (ho : s.heap.get? it = some o) (hc : o.cls = .type T) (hd : o.data = .seq items n)
    (hQ : ∀ h', (∀ b o', s.heap.get? b = some o' → h'.get? b = some o') → s.heap.objs.size ≤ h'.objs.size → Q items.toList { s with heap := h' }) (hsz : items.size ≤ sizeLine := by size_fits) :
    wpAny (model P w) A (collect (.ref it)) Q E s := by
  unfold collect
  refine wpAny_bind (wpAny_runValue (codeAny_builtin PySem.F.entry_proto_collect ?_))
  rw [Around.under_plainId PySem.F.plain_proto_collect _]
  show wpAny _ A.in1 (newList [] >>= fun l => again (.builtin "list.__iadd__" ⟨[l, .ref it], []⟩)) _ _ s
  refine wpAny_bind (wpAny_newObj_type ?_)
  refine wpAny_pure ⟨plainId_quiet PySem.F.plain_list_iadd _, codeAny_builtin PySem.F.entry_list_iadd ?_⟩
  rw [Around.under_plainId PySem.F.plain_list_iadd _]
  show wpAny _ A.in1 (Builtin.List.listExtendWith (.ref s.heap.objs.size) (.ref it) (.ref s.heap.objs.size)) _ _ _
  have hS : (s.heap.push { cls := .type "list", data := .seq ([] : List Value).toArray }).get? s.heap.objs.size = some { cls := .type "list", data := .seq #[] 0 } := Heap.get?_push_size _ rfl
  have hS₂ := Heap.get?_update_self (Obj.mapSeq (· ++ items)) hS rfl
  have fin' : wpAny (model P w) A (match Value.ref s.heap.objs.size with
      | Value.ref a => do
        match (← load a).data with
          | Data.seq xs _ => pure xs.toList
          | _ => unsupported "internal:collect"
      | _ => unsupported "internal:collect") Q E { s with heap := (s.heap.push { cls := .type "list", data := .seq ([] : List Value).toArray }).update s.heap.objs.size (Obj.mapSeq (· ++ items)) } := by
    show wpAny _ A (load s.heap.objs.size >>= _) _ _ _
    refine wpAny_bind (wpAny_load hS₂ ?_)
    refine wpAny_pure ?_
    have e : ((#[] : Array Value) ++ items).toList = items.toList := by simp
    show Q ((#[] : Array Value) ++ items).toList _
    rw [e]
    refine hQ _ (fun b o' hb => ?_) (by rw [Heap.size_update, size_push']; exact Nat.le_succ _)
    exact (Heap.get?_update_other _ _ (Nat.ne_of_gt (Heap.lt_size hb))).trans (Heap.get?_push_of_some _ hb)
  refine wpAny_mono (wpAny_extend_seq (hsz := hsz) (A := A) (R := fun r s' => r = .ok (.ret (.ref s.heap.objs.size)) ∧ s' = { s with heap := (s.heap.push { cls := .type "list", data := .seq ([] : List Value).toArray }).update s.heap.objs.size (Obj.mapSeq (· ++ items)) })
    (s := { s with heap := s.heap.push { cls := .type "list", data := .seq ([] : List Value).toArray } }) _ it _ 0 hT hS (Heap.get?_push_of_some _ ho) hc hd ⟨rfl, rfl⟩) (fun fin s' h => ?_) (fun e s' h => ?_)
  · cases fin with
    | done f =>
      obtain ⟨e, rfl⟩ := h
      cases e
      exact fin'
    | again c' => exact ⟨h.1, codeAny_mono h.2 fun r s'' hr => by obtain ⟨rfl, rfl⟩ := hr; exact fin'⟩
  · exact absurd h.1 (by simp)
/-- what sorting asks -/
structure SortOk (A : Around) (enc : β → PyData) (bs : List β) : Prop where
  al : AllAlike (bs.map enc)
  so : Sortable (bs.map enc)
  len : bs.length ≤ sizeLine
  dep : ∀ b, b ∈ bs → A.units + 2 + (enc b).depth < cLine
theorem sorted_gen {x : Value} {Q : Value → Shared → Prop} (G : List β → Prop) (hG : ∀ bs, G bs → SortOk A enc bs)
    (hcol : ∀ (Q1 : List Value → Shared → Prop) (E' : Value → Shared → Prop), (∀ s1 vs bs, (∀ b o, s.heap.get? b = some o → s1.heap.get? b = some o) → s.heap.objs.size ≤ s1.heap.objs.size → s1.gens = s.gens → s1.os = s.os → EachIs R vs bs →
      EachIs (fun v b => ∃ as, Reads s1.heap v (enc b) as) vs bs → G bs → Q1 vs s1) → wpAny (model P w) A.in1 (collect x) Q1 E' s)
    (hQ : ∀ s' p bs (out : List Value) (c : Nat), (∀ b o, s.heap.get? b = some o → s'.heap.get? b = some o) → s'.gens = s.gens → s'.os = s.os → s.heap.objs.size ≤ p →
      s'.heap.get? p = some (seqObj "list" out.toArray c) → EachIs R out (bs.mergeSort (dataLe false enc)) → G bs → Q (.ref p) s') :
    wpAny (model P w) A (call (.builtin "sorted") [x]) Q E s := by
  refine Calls.call_function_entry kind_sorted plain_sorted entry_sorted (args_sorted1 _) ?_
  unfold Builtin.«sorted»
  refine wpAny_bind (m := checkCount "sorted" 1 1 _) (wpAny_pure ?_)
  refine wpAny_bind (hcol _ _ fun s1 vs bs k1 hz g1 o1 e er hg => ?_)
  have ok := hG bs hg
  have hL : vs.length ≤ sizeLine := by rw [e.length]; exact ok.len
  refine wpAny_bind (wpAny_newList ?_ hL)
  have hoL : (s1.heap.push (seqObj "list" vs.toArray 0)).get? s1.heap.objs.size = some (seqObj "list" vs.toArray 0) := Heap.get?_push_size _ rfl
  have er' : EachIs (fun v b => ∃ as, Reads (sortingHeap (s1.heap.push (seqObj "list" vs.toArray 0)) s1.heap.objs.size vs) v (enc b) as) vs bs := er.mono fun _ _ ⟨as, r⟩ =>
    ⟨as, PyProof.Rows.Reads.keeps (fun b o q => sortingHeap_old (Nat.ne_of_lt (Heap.lt_size q)) (Heap.get?_push_of_some _ q)) r⟩
  have S : SortsAt P w A.in1.in1 { s1 with heap := sortingHeap (s1.heap.push (seqObj "list" vs.toArray 0)) s1.heap.objs.size vs } (dataKind (sortingHeap (s1.heap.push (seqObj "list" vs.toArray 0)) s1.heap.objs.size vs) (bs.map enc)) vs :=
    SortsAt.data (s := { s1 with heap := sortingHeap (s1.heap.push (seqObj "list" vs.toArray 0)) s1.heap.objs.size vs }) (each_map (R := fun v d => ∃ as, Reads (sortingHeap (s1.heap.push (seqObj "list" vs.toArray 0)) s1.heap.objs.size vs) v d as) enc er') ok.al ok.so (bound_map ok.dep)
  refine wpAny_bind (wpAny_holding (wpAny_call_entry slot_list_sort ⟨_, hoL, rfl⟩ entry_list_sort (list_sort_vals hoL S hL ⟨_, rfl, ?_⟩) (args_list_sort _)))
  obtain ⟨c, hc⟩ := sortedHeap_at (vs := vs) (out := (sortVals (dataKind (sortingHeap (s1.heap.push (seqObj "list" vs.toArray 0)) s1.heap.objs.size vs) (bs.map enc)) false vs vs).toArray) hoL
  refine wpAny_pure ⟨_, rfl, hQ _ s1.heap.objs.size bs _ c (fun b u q => ?_) g1 o1 hz hc (sortVals_data false e er' ok.al) hg⟩
  have q2 := k1 b u q
  have hlt := Heap.lt_size q2
  show (sortedHeap (s1.heap.push (seqObj "list" vs.toArray 0)) s1.heap.objs.size vs _).get? b = some u
  rw [sortedHeap_old (Nat.ne_of_lt hlt) (by rw [size_push']; exact Nat.lt_succ_of_lt hlt)]
  exact Heap.get?_push_of_some _ q2
end

/-! ### sorted, all, repr, by data -/
theorem dpAll_each {K : PySem.W.Frag} {X : Cx} {pins : List (Addr × Obj)} {σ : St} {H : Hp} {s : Shared} (I : Inv X pins σ H s) : ∀ {bs : List (V × PyData)} {us : List Value}, (∀ b ∈ bs, Dp X.K H b.1 b.2) → Vals (bs.map (·.1)) us → EachIs (fun v b => ∃ as, Reads s.heap v b.2 as) us bs ∧ EachIs (fun v b => RelV b.1 v) us bs
  | [], _, _, .nil => ⟨.nil, .nil⟩
  | b :: bs, _, h, .cons r t => by
    obtain ⟨h1, h2⟩ := dpAll_each (K := K) I (fun b hb => h b (List.mem_cons_of_mem _ hb)) t
    obtain ⟨as, q⟩ := Dp.reads I b.2 b.1 _ (h b List.mem_cons_self) r
    exact ⟨.cons ⟨as, q⟩ h1, .cons r h2⟩
theorem each_vals : ∀ {bs : List (V × PyData)} {us : List Value}, EachIs (fun v b => RelV b.1 v) us bs → Vals (bs.map (·.1)) us
  | _, _, .nil => .nil
  | _, _, .cons h t => .cons h (each_vals t)
section
variable {X : Cx}
theorem inv_out {pins : List (Addr × Obj)} {σ : St} {H : Hp} {s s' : Shared} {Q : VK} {v : V} {u : Value} (J : Inv X pins σ H { s with heap := s'.heap, gens := s'.gens, drawn := s'.drawn, toks := s'.toks }) (o : s'.os = s.os) (r : RelV v u) (q : Q v H) : EP X pins σ Q u s' := by
  have e : s' = { s with heap := s'.heap, gens := s'.gens, drawn := s'.drawn, toks := s'.toks } := by
    cases s'
    cases s
    cases o
    rfl
  rw [e]
  exact ⟨v, _, J, r, q⟩
/-- sorted(xs), xs a list or tuple of data -/
def rSortDt (K : PySem.W.Frag) : List V → Hp → VK → Prop := fun xs H Q => ∃ (a : Addr) (bs : List (V × PyData)), xs = [.ref a] ∧ (SqL K H a (bs.map (·.1)) ∨ SqT K H a (bs.map (·.1))) ∧ (∀ b ∈ bs, Dp K H b.1 b.2) ∧
  AllAlike (bs.map (·.2)) ∧ Sortable (bs.map (·.2)) ∧ (∀ b ∈ bs, b.2.depth ≤ 60) ∧ ∀ p, H p = none → Q (.ref p) (upd H p (.lst ((bs.mergeSort (dataLe false Prod.snd)).map (·.1))))
theorem call_sortDt (hu : X.A.units + 64 < cLine) : CallR X (.builtin "sorted") (rSortDt X.K) := by
  intro pins s σ H xs us Q I r h
  obtain ⟨a, bs, rfl, hs, hd, hal, hso, hdp, q⟩ := h
  obtain ⟨u, rfl, ru⟩ := vals1 r
  cases ru
  have main : ∀ (its : List Value) (T : String) (o : Obj) (n : Nat), T = "list" ∨ T = "tuple" → s.heap.get? a = some o → o.cls = .type T → o.data = .seq its.toArray n → Vals (bs.map (·.1)) its → its.length ≤ sizeLine →
      wpAny (model X.prog X.w) X.A (call (.builtin "sorted") [.ref a]) (EP X pins σ Q) X.xe s := by
    intro its T o n hT ho hc hdt rv hz
    obtain ⟨e1, e2⟩ := dpAll_each (K := X.K) I hd rv
    have hlen : bs.length = its.length := by rw [← rv.length, List.length_map]
    refine sorted_gen (R := fun v b => RelV b.1 v) (enc := Prod.snd) (fun b => b = bs) (fun b e => by subst e; exact ⟨hal, hso, by omega, fun b hb => by have := hdp b hb; omega⟩)
      (fun Q1 E' h1 => collect_seq a hT ho hc hdt (fun h' kp kz => ?_) (by rw [List.size_toArray]; exact hz)) ?_
    · have e1' := e1.mono fun v b (⟨as, q⟩ : ∃ as, Reads s.heap v b.2 as) => (⟨as, PyProof.Rows.Reads.keeps kp q⟩ : ∃ as, Reads h' v b.2 as)
      rw [List.toList_toArray]
      exact h1 { s with heap := h' } its bs kp kz rfl rfl e2 e1' rfl
    · intro s' p b out c kp hg ho' hp hget he hb
      subst hb
      have rv' := each_vals he
      have hl : ((b.mergeSort (dataLe false Prod.snd)).map (·.1)).length ≤ sizeLine := by rw [List.length_map, (List.mergeSort_perm _ _).length_eq, hlen]; exact hz
      have hn : H p = none := I.hok.fresh hp
      have new : ObjOk X.prog X.w (upd H p (.lst ((b.mergeSort (dataLe false Prod.snd)).map (·.1)))) s'.heap p (.lst ((b.mergeSort (dataLe false Prod.snd)).map (·.1))) := ⟨hl, out, c, rv', hget⟩
      exact inv_out (I.call (g' := s'.gens) (d' := s'.drawn) (t' := s'.toks) (ch := []) (Un.laid kp hp hn) (I.hok.laid kp hp new) (by rw [hg]; exact I.bare) (fun _ z => nomatch z)) ho' (v := .ref p) rfl (q p hn)
  rcases hs with hs | hs
  · obtain ⟨its, rv, ⟨o, n, ho, hc, _, hdt⟩, hz⟩ := I.list hs
    exact main its "list" o n (.inl rfl) ho hc hdt rv (by rw [← rv.length]; exact hz)
  · obtain ⟨its, rv, ⟨o, ho, hc, n, hdt⟩, hz⟩ := I.tuple hs
    exact main its "tuple" o n (.inr rfl) ho hc hdt rv (by rw [← rv.length]; exact hz)
/-- all(xs), xs a list of data -/
def rAllD (K : PySem.W.Frag) : List V → Hp → VK → Prop := fun xs H Q => ∃ x ps, xs = [x] ∧ Dp K H x (.list ps) ∧ PyData.plainAll ps = true ∧ (∀ p ∈ ps, p.fits63) ∧ Q (.bl (ps.all PyData.truthy)) H
theorem call_allD (hc : X.calm = true) : CallR X (.builtin "all") (rAllD X.K) := by
  intro pins s σ H xs us Q I r h
  obtain ⟨x, ps, rfl, hx, hp, hf, q⟩ := h
  obtain ⟨u, rfl, ru⟩ := vals1 r
  cases hx with
  | lst hs ha =>
    cases ru
    obtain ⟨its, rv, ⟨o, n, ho, hcl, _, hd⟩, _⟩ := I.list hs
    obtain ⟨as, hr⟩ := Dp.readsAll I ps _ its ha rv
    exact all_list_data (I.ok.hd hc) (vs := its.toArray) ⟨o, ho, hcl, n, hd⟩ (by rw [List.toList_toArray]; exact hr) hp hf fun h' tk k => ⟨.bl _, H, I.kept (t' := tk) k, rfl, q⟩
/-- any(xs), xs a list of data -/
def rAnyD (K : PySem.W.Frag) : List V → Hp → VK → Prop := fun xs H Q => ∃ x ps, xs = [x] ∧ Dp K H x (.list ps) ∧ PyData.plainAll ps = true ∧ (∀ p ∈ ps, p.fits63) ∧ Q (.bl (ps.any PyData.truthy)) H
theorem call_anyD (hc : X.calm = true) : CallR X (.builtin "any") (rAnyD X.K) := by
  intro pins s σ H xs us Q I r h
  obtain ⟨x, ps, rfl, hx, hp, hf, q⟩ := h
  obtain ⟨u, rfl, ru⟩ := vals1 r
  cases hx with
  | lst hs ha =>
    cases ru
    obtain ⟨its, rv, ⟨o, n, ho, hcl, _, hd⟩, _⟩ := I.list hs
    obtain ⟨as, hr⟩ := Dp.readsAll I ps _ its ha rv
    exact any_list_data (I.ok.hd hc) (vs := its.toArray) ⟨o, ho, hcl, n, hd⟩ (by rw [List.toList_toArray]; exact hr) hp hf fun h' tk k => ⟨.bl _, H, I.kept (t' := tk) k, rfl, q⟩
/-- repr(x), x data -/
def rReprD (K : PySem.W.Frag) : List V → Hp → VK → Prop := fun xs H Q => ∃ x p, xs = [x] ∧ Dp K H x p ∧ p.showable = true ∧ p.hasDict = false ∧ p.depth ≤ 60 ∧ p.shown.length ≤ sizeLine ∧ Q (.str p.shown) H
theorem call_reprD (hu : X.A.units + 64 < cLine) (hg : X.A.guards = some []) : CallR X (.builtin "repr") (rReprD X.K) := by
  intro pins s σ H xs us Q I r h
  obtain ⟨x, p, rfl, hx, h1, h2, h3, h4, q⟩ := h
  obtain ⟨u, rfl, ru⟩ := vals1 r
  obtain ⟨as, hr⟩ := Dp.reads I p x _ hx ru
  cases hx with
  | non =>
    cases ru
    exact P.repr_of_none ⟨.str _, H, I.tok _, ⟨_, rfl⟩, q⟩
  | bl b =>
    cases ru
    refine P.repr_of_bool ⟨.str _, H, I.tok _, ⟨_, rfl⟩, ?_⟩
    cases b <;> exact q
  | int i =>
    obtain ⟨t, rfl⟩ := ru
    refine P.repr_of_int (by simpa [PyData.showable] using h1) ⟨.str _, H, I.tok _, ⟨_, rfl⟩, ?_⟩
    exact q
  | str z =>
    obtain ⟨t, rfl⟩ := ru
    exact P.repr_of_str ⟨.str _, H, I.tok _, ⟨_, rfl⟩, q⟩ h4
  | lst hs ha =>
    cases ru
    exact repr_of_reads' hr h1 (PyData.noDict_hsm h2) hg (by omega) (fun _ _ e => e) (fun h' u tk k => ⟨.str _, H, I.kept (t' := tk) k, ⟨u, rfl⟩, q⟩) h4
  | tup hs ha =>
    cases ru
    exact repr_of_reads' hr h1 (PyData.noDict_hsm h2) hg (by omega) (fun _ _ e => e) (fun h' u tk k => ⟨.str _, H, I.kept (t' := tk) k, ⟨u, rfl⟩, q⟩) h4
end
end L2.MK

end

section
set_option Elab.async false
set_option linter.all false
set_option maxRecDepth 100000
set_option maxHeartbeats 4000000
set_option autoImplicit false
/-! isinstance and fields of kept exceptions; own __init__ of exceptions. -/
namespace L2.MK
open PySem PySem.Spec PySem.Calls PyProof.Rows PySem.W
section
variable {prog : Program} {w : World} {A : Around} {E : Value → Shared → Prop} {s : Shared} {K : Frag} {x D : Addr} {ox : Obj}
theorem findObj_dataO {C : Addr} {od : Option Obj} {name : Str} {a g : Value} (hc : (clsIn K C).isSome = true) (ha : findIn K (.ref C) name = some (some a)) (hg : specialIn K a "__get__" = some (some g)) (ht : takesIn K a = some true) : findObj K C od name = some (.bind g a) := by
  obtain ⟨cd, hc⟩ := Option.isSome_iff_exists.mp hc
  unfold findObj
  rw [hc, Option.bind_some, ha, Option.bind_some]
  simp [hg, ht]
theorem kin_classO {od : Option Obj} {Q : Option Value → Shared → Prop} (hga : findIn K (.ref D) "__getattribute__" = some (some (.builtin "BaseException.__getattribute__"))) (hgt : findIn K (.ref D) "__getattr__" = some none) (hsub : subIn K (.ref D) (.type "BaseException") = some true)
    (hdct : hasDictIn K D = true) (ha : findIn K (.ref D) "__class__" = some (some (.builtin "object.__class__")))
    (hn : specialIn K (.builtin "object.__class__") "__get__" = some (some (.builtin "getset_descriptor.__get__"))) (htk : takesIn K (.builtin "object.__class__") = some true) (hm : mroIn K D (.type "object") = some true)
    (X : K.In s.heap) (I : InstAt s.heap x ox D od) (h : Q (some (.ref D)) { s with toks := s.toks + 1 }) : wpAny (model prog w) A (getAttr? (.ref x) "__class__") Q E s := by
  have hf : findObj K D od "__class__" = some (.bind (.builtin "getset_descriptor.__get__") (.builtin "object.__class__")) := findObj_dataO (by obtain ⟨cd, hc, _⟩ := any_some hdct; rw [hc]; rfl) ha hn htk
  obtain ⟨hp, g, d, t, os⟩ := s
  have L0 := I.type (M := model prog w)
  have L1 := looks_findIn (M := model prog w) X hga
  have L2 := looks_findIn (M := model prog w) X hgt
  have L3 := looks_find (M := model prog w) X I hf
  have sub : Looks (model prog w) hp (isInstance (.ref x) (.type "BaseException")) true := L0.andThen (looks_subIn X hsub)
  have hx0 : (false && onTheHeap (Value.builtin "BaseException.__getattribute__")) = false := rfl
  have hx2 : (Value.builtin "BaseException.__getattribute__" == Value.builtin "object.__getattribute__") = false := by decide +kernel
  have hx1 : (onTheHeap (Value.ref D) && Value.builtin "BaseException.__getattribute__" == Value.builtin "object.__getattribute__") = false := by rw [hx2]; rfl
  unfold getAttr? getAttrBy? getAttrBy
  refine wpAny_bind (wpAny_mkText (wpAny_bind (wpAny_attempt (wpAny_holding (wpAny_bind (L0.at (wpAny_bind (L1.at ?_))))))))
  show wpAny _ _ (if (onTheHeap (Value.ref D) && Value.builtin "BaseException.__getattribute__" == Value.builtin "object.__getattribute__") = true then _ else _) _ _ _
  rw [hx1, if_neg Bool.false_ne_true]
  unfold getAttrByItsOwn hookBefore
  refine wpAny_bind ?_
  rw [if_pos (show onTheHeap (Value.ref D) = true from rfl)]
  refine L2.at ?_
  refine wpAny_bind (wpAny_attempt (wpAny_holding ?_))
  unfold callGetattribute
  rw [hx0, if_neg Bool.false_ne_true]
  unfold boundAndCalled
  rw [PySem.F.excAttr_ValueError.ga.bind (.ref x)]
  refine wpAny_bind (wpAny_pure ?_)
  show wpAny _ _ (call (.builtin "BaseException.__getattribute__") [.ref x, .str "__class__" t]) _ _ _
  refine wpAny_call (codeAny_call_builtin PySem.F.excAttr_ValueError.ga.plain PySem.F.entry_bexc_ga ?_)
  refine @check_slot (model prog w) _ _ ⟨hp, g, d, t + 1, os⟩ "BaseException.__getattribute__" "BaseException" "__getattribute__" (.ref x) [.str "__class__" t] [] _ (by decide +kernel) (by decide +kernel) sub (PySem.F.args_bexc_ga (.ref x) (.str "__class__" t)) ?_
  unfold Builtin.«object.__getattribute__»
  refine wpAny_bind (wpAny_of_eq (a := ((Value.ref x : Value), [Value.str "__class__" t])) (by first | rfl | (simp only [slotArgs]; rfl)) ?_)
  refine wpAny_bind (wpAny_pure (wpAny_bind (L0.at (wpAny_bind (L3.at ?_)))))
  show wpAny _ _ (holding [Value.builtin "object.__class__"] (call (.builtin "getset_descriptor.__get__") [.builtin "object.__class__", .ref x, .ref D]) >>= ret) _ _ _
  refine wpAny_bind (wpAny_holding (wpAny_call (class_get (s := ⟨hp, g, d, t + 1, os⟩) (ox := ox) (od := od) X I hm ?_)))
  refine wpAny_pure ?_
  show wpAny _ _ (handedOut (.ref D)) _ _ _
  rw [handedOut_of (v := .ref D) rfl]
  first
    | exact wpAny_pure (wpAny_pure h)
    | exact wpAny_pure h
    | exact wpAny_pure (wpAny_bind (wpAny_pure (wpAny_pure h)))
theorem kitx_exO {od : Option Obj} (hga : findIn K (.ref D) "__getattribute__" = some (some (.builtin "BaseException.__getattribute__"))) (hgt : findIn K (.ref D) "__getattr__" = some none) (hsub : subIn K (.ref D) (.type "BaseException") = some true) (hdct : hasDictIn K D = true) (ha : findIn K (.ref D) "__class__" = some (some (.builtin "object.__class__")))
    (hn : specialIn K (.builtin "object.__class__") "__get__" = some (some (.builtin "getset_descriptor.__get__"))) (htk : takesIn K (.builtin "object.__class__") = some true) (hm : mroIn K D (.type "object") = some true) :
    KitX K (.ref x) (.ref D) (fun h => InstAt h x ox D od) where
  ty := fun _ _ _ I => I.type
  it := fun _ _ X _ => by
    obtain ⟨cdD, hcD, _⟩ := any_some hdct
    unfold clsIn at hcD
    split at hcD
    · rename_i c' d' cd' sl' ho
      intro A' Q' E' s' k q
      unfold isType loadHead
      exact wpAny_bind (wpAny_loadPart (k _ _ (X _ _ ho)) (wpAny_pure q))
    · cases hcD
  ne := fun h tp dd its n sl X htp => by
    obtain ⟨cdD, hcD, _⟩ := any_some hdct
    refine Bool.eq_false_iff.mpr fun q => ?_
    have e : D = tp := Value.ref.inj (beq_iff_eq.mp q)
    subst e
    unfold clsIn at hcD
    split at hcD
    · rename_i c' d' cd' sl' ho
      have z := (X _ _ ho).symm.trans htp
      cases z
    · cases hcD
  ca := fun X I k => kin_classO hga hgt hsub hdct ha hn htk hm X I k
end
/-- an exception that is tracked, as an instance -/
theorem exk_inst {X : Cx} {pins : List (Addr × Obj)} {σ : St} {H : Hp} {s : Shared} {a D : Addr} {d : Option Addr} (I : Inv X pins σ H s) (e : H a = some (exk a (.ref D) d)) (hd : ∀ dd, d = some dd → ∃ fs, H dd = some (.xd fs)) : ∃ oe od, InstAt s.heap a oe D od := by
  obtain ⟨o, vs, h1, h2, h3, h4⟩ := exk_at I.hok e
  have nc : notCls o = true := by unfold notCls; rw [h4] <;> rfl
  cases d with
  | none => exact ⟨o, none, h1, h2, nc, by rw [h3]; trivial⟩
  | some dd =>
    obtain ⟨fs, q⟩ := hd dd rfl
    obtain ⟨mA, ⟨od, es, ep, ho, _⟩, _⟩ := (show ObjOk X.prog X.w H s.heap dd (.xd fs) from I.hok dd _ q)
    exact ⟨o, some od, h1, h2, nc, by rw [h3]; exact ho⟩
/-- isinstance(e, c), e an exception that is tracked -/
def rIsX (K : Frag) : List V → Hp → VK → Prop := fun xs H Q => ∃ (a D : Addr) (d : Option Addr) (c : V) (cv : Value) (b : Bool), xs = [.ref a, c] ∧ H a = some (exk a (.ref D) d) ∧ (∀ dd, d = some dd → ∃ fs, H dd = some (.xd fs)) ∧ ExcC K D ∧ ClsV c cv ∧ kitOne K (.ref D) cv = some b ∧ Q (.bl b) H
theorem call_isX {X : Cx} : CallR X (.builtin "isinstance") (rIsX X.K) := by
  intro pins s σ H xs us Q I r h
  obtain ⟨a, D, d, c, cv, b, rfl, ha, hd, C, k, e, q⟩ := h
  obtain ⟨u1, u2, rfl, r1, r2⟩ := vals2 r
  have e2 := k.eq r2
  subst e2
  cases r1
  obtain ⟨oe, od, J⟩ := exk_inst I ha hd
  exact kia_one (kitx_exO C.hg C.hk C.hs C.hd C.ha C.hn C.ht C.hm) I.kIn J e (fun z => nomatch z) fun tk => ⟨.bl b, H, I.tok tk, rfl, q⟩
/-- e.f, e an exception that is tracked -/
def tXk (K : Frag) (f : Str) (te : TE) : TE := fun σ H Q => te σ H fun x H1 => ∃ (a C dd : Addr) (fs : List (Str × V)) (v : V), x = .ref a ∧ H1 a = some (exk a (.ref C) (some dd)) ∧ XfC K C ∧ findIn K (.ref C) f = some none ∧ H1 dd = some (.xd fs) ∧ fs.lookup f = some v ∧ Q v H1
theorem pe_xk {X : Cx} {e : Expr} {te : TE} {pos : Pos} {n : Str} (he : PE X e te) (hb : attributeBase e n X.env (eval e X.env) = eval e X.env := by rfl) : PE X (.Attribute e n pos) (tXk X.K n te) := by
  refine ⟨fun pins s σ H Q I h => ?_⟩
  refine attr_of hb (thn (he.run pins s σ H _ I h) fun u s1 hh => ?_)
  obtain ⟨x, H1, I1, rx, a, C, dd, fs, v, ex, ha, T, hno, ea, l, q⟩ := hh
  subst ex
  obtain rfl : u = Value.ref a := rx
  obtain ⟨o, vs, h1, h2, h3, h4⟩ := exk_at I1.hok ha
  have hx : ObjOk X.prog X.w H1 s1.heap dd (.xd fs) := I1.hok dd _ ea
  obtain ⟨mA, hns, hr⟩ := hx
  obtain ⟨od, ho, hl⟩ := lookIn_ns hns
  obtain ⟨u, hu, ru⟩ := RelO.some_of (v := v) (o := mA n) (by rw [← l]; exact hr n)
  have J : InstAt s1.heap a o C (some od) := ⟨h1, h2, by unfold notCls; rw [h4] <;> rfl, by rw [h3]; exact ho⟩
  exact HandSPX.exc_get I1.kIn J T.ga T.gg T.exC (findObj_own T.hdC hno rfl (by rw [hl, hu])) (handed_of ru) ⟨v, H1, I1.tok _, ru, q⟩
/-- C.__init__(self, ..) where C is an own class that has ValueError's -/
theorem pe_cveinit {X : Cx} {C : Addr} {mc : Value} {x : Str} {p1 p2 pos : Pos} {e : Expr} {es : List Expr} {ta : TA} {pl : Sem Bool} (hg : Gl X x) (hm : X.mg x = some (.ref C)) (hdb : (x == ("__debug__" : Str)) = false) (r : ClX.CRead X.K C mc)
    (vV : findCls X.K (.ref C) mc "__init__" = some (.val (.builtin "ValueError.__init__"))) (ha : PA X (e :: es) ta)
    (hc : eval (.Call (.Attribute (.Name x p1) "__init__" p2) (e :: es) [] pos) X.env = (do
      let ov ← eval (.Name x p1) X.env
      standAt p2.atName
      let (f, first) ← holding [ov] (getMethod ov "__init__" pl)
      callWith pos f first (backTo pos (starEach (e :: es) X.env)) (backToKw pos (keywordEach [] X.env))) := by rfl)
    (he : starEach (e :: es) X.env = (false, eval e X.env) :: starEach es X.env := by rfl) (hpl : (backTo pos (starEach es X.env)).any (·.1) = false := by rfl) :
    PE X (.Call (.Attribute (.Name x p1) "__init__" p2) (e :: es) [] pos) (tVeI X.K ta) := by
  refine ⟨fun pins s σ H Q I h => ?_⟩
  refine methodCall_KW (ld_glob I hg hm ?_ hdb) hc
  refine method_cls I.kIn r.ga (cls_value I.kIn r.rd vV rfl ?_)
  refine PyProof.Rows.callWith_method1 (thn (ha.run pos pins _ σ H _ (I.tok _) h) fun us s1 ⟨vs, H1, I1, r1, a, C, ws, ev, hl, T, ea, q⟩ => ?_) he hpl
  subst ev
  cases r1 with
  | @cons _ u0 _ ur ra rw' =>
    obtain rfl : u0 = Value.ref a := ra
    have hlen : ur.length ≤ sizeLine := by
      rw [← Paired.length rw', sizeLine_eq]
      omega
    exact oinit_ok T I1 ea hlen fun s' J => ⟨.non, H1, J, rfl, q⟩
end L2.MK

end

section
set_option Elab.async false
set_option linter.all false
set_option maxRecDepth 100000
set_option maxHeartbeats 1000000
set_option autoImplicit false
/-! Displays, tests, parts, calls of built-ins. -/
namespace L2.MK
open PySem PySem.Spec PyProof.Rows

section
variable {K : PySem.W.Frag} {ρ : List (Option Addr)} {H : Hp} {M : Sto} {a p : Addr} {o : HO}
/-- one thing more that changes -/
theorem Nx.push (hp : H p = none) : Nx ρ H (ρ ++ [some p]) (upd H p o) := ⟨fun i a h => by
  rw [List.getElem?_append_left (List.getElem?_eq_some_iff.mp h).1]
  exact h, fun b u h => by
  obtain ⟨n, e⟩ := frz_of h
  have nb := ne_of_none e hp
  refine frz_at (fun z => ?_) (by rw [upd_ne nb]; exact e)
  rcases List.mem_append.mp z with z | z
  · exact n z
  · exact nb (Option.some.inj (List.mem_singleton.mp z)), by simp, fun a φ _ h => by rw [upd_ne (ne_of_none h hp)]; exact h⟩
theorem StOk.push {m : MO} (S : StOk K ρ M H) (hp : H p = none) (hm : MOk K (ρ ++ [some p]) (upd H p o) p m) : StOk K (ρ ++ [some p]) (M ++ [m]) (upd H p o) := by
  have x := (Nx.push (ρ := ρ) (o := o) hp).ext
  have lift : ∀ {a : Addr} {m : MO}, MOk K ρ H a m → MOk K (ρ ++ [some p]) (upd H p o) a m := fun {a m} h => by
    cases m with
    | lst ds => obtain ⟨vs, h1, h2⟩ := h; exact ⟨vs, same_new hp _ _ h1, h2.mono x⟩
    | dK ds => obtain ⟨vs, h1, h2⟩ := h; exact ⟨vs, same_new hp _ _ h1, h2.mono x⟩
    | ins C fs => obtain ⟨dx, vs, h1, h2⟩ := h; exact ⟨dx, vs, same_new hp _ _ h1, h2.mono x⟩
    | opq => obtain ⟨o, h1⟩ := h; exact ⟨o, same_new hp _ _ h1⟩
    | dead => exact h
  have cases_ : ∀ {i : Nat} {q : Option Addr}, (ρ ++ [some p])[i]? = some q → (ρ[i]? = some q) ∨ (i = ρ.length ∧ q = some p) := fun {i q} h => by
    by_cases hi : i < ρ.length
    · rw [List.getElem?_append_left hi] at h; exact .inl h
    · rw [List.getElem?_append_right (by omega)] at h
      have : i - ρ.length = 0 := by
        have := (List.getElem?_eq_some_iff.mp h).1
        simp at this
        omega
      rw [this] at h
      exact .inr ⟨by omega, by simpa using h.symm⟩
  have notp : ∀ i : Nat, ρ[i]? = some (some p) → False := fun i h => S.notin hp (List.mem_of_getElem? h)
  refine ⟨by simp [S.len], fun i j a h1 h2 => ?_, fun i a h => ?_, fun i h => ?_⟩
  · rcases cases_ h1 with h1 | ⟨h1, e1⟩ <;> rcases cases_ h2 with h2 | ⟨h2, e2⟩
    · exact S.inj i j a h1 h2
    · cases e2; exact (notp i h1).elim
    · cases e1; exact (notp j h2).elim
    · omega
  · rcases cases_ h with h | ⟨hi, e⟩
    · obtain ⟨m', h1, h2⟩ := S.at_ i a h
      refine ⟨m', ?_, lift h2⟩
      rw [List.getElem?_append_left (List.getElem?_eq_some_iff.mp h1).1]
      exact h1
    · cases e
      subst hi
      refine ⟨m, ?_, hm⟩
      rw [S.len, List.getElem?_append_right (Nat.le_refl _)]
      simp
  · rcases cases_ h with h | ⟨_, e⟩
    · have h1 := S.dead i h
      rw [List.getElem?_append_left (List.getElem?_eq_some_iff.mp h1).1]
      exact h1
    · cases e
/-- one of them changes -/
theorem Nx.write {i : Nat} (h : ρ[i]? = some (some a)) (hx : ∀ φ, H a ≠ some (.ext φ)) : Nx ρ H ρ (upd H a o) := ⟨fun _ _ h => h, fun b u z => by
  obtain ⟨n, e⟩ := frz_of z
  refine frz_at n ?_
  rw [upd_ne (fun q => n (by rw [q]; exact List.mem_of_getElem? h))]
  exact e, Nat.le_refl _, fun b φ _ q => by
    by_cases e : b = a
    · rw [e] at q; exact (hx φ q).elim
    · rw [upd_ne e]; exact q⟩
theorem StOk.write {m : MO} {i : Nat} (S : StOk K ρ M H) (h : ρ[i]? = some (some a)) (hx : ∀ φ, H a ≠ some (.ext φ)) (hm : MOk K ρ (upd H a o) a m) : StOk K ρ (M.set i m) (upd H a o) := by
  have x := (Nx.write (H := H) (o := o) h hx).ext
  refine ⟨by simp [S.len], S.inj, fun j b hb => ?_, fun j hj => ?_⟩
  · by_cases e : j = i
    · subst e
      rw [h] at hb
      cases hb
      refine ⟨m, ?_, hm⟩
      have hl : j < M.length := by rw [← S.len]; exact (List.getElem?_eq_some_iff.mp h).1
      simp [hl]
    · obtain ⟨m', h1, h2⟩ := S.at_ j b hb
      have nb : b ≠ a := fun q => e (S.inj j i a (by rw [← q]; exact hb) h)
      refine ⟨m', by rw [List.getElem?_set_ne (Ne.symm e)]; exact h1, ?_⟩
      cases m' with
      | lst ds => obtain ⟨vs, h1, h2⟩ := h2; exact ⟨vs, by rw [upd_ne nb]; exact h1, h2.mono x⟩
      | dK ds => obtain ⟨vs, h1, h2⟩ := h2; exact ⟨vs, by rw [upd_ne nb]; exact h1, h2.mono x⟩
      | ins C fs => obtain ⟨dx, vs, h1, h2⟩ := h2; exact ⟨dx, vs, by rw [upd_ne nb]; exact h1, h2.mono x⟩
      | opq => obtain ⟨o, h1⟩ := h2; exact ⟨o, by rw [upd_ne nb]; exact h1⟩
      | dead => exact h2
  · have e : j ≠ i := fun e => by subst e; rw [h] at hj; cases hj
    rw [List.getElem?_set_ne (Ne.symm e)]
    exact S.dead j hj
end

section
variable {X : Cx} {W : WX}
/-! ### argument lists, displays -/
def aNil : AF := fun _ => Ev.pure []
def aCons (f : EF) (g : AF) : AF := fun δ => f δ >>= fun d => g δ >>= fun ds => Ev.pure (d :: ds)
theorem rdA_bindL {K : PySem.W.Frag} {f : AF} {g : List D → Ev (List D)} {Q : List V → Hp → Prop} {ρ : List (Option Addr)} {H : Hp} {σ : St} {δ : Env} {M : Sto} (hE : DenE K ρ (frz ρ H) δ σ) (hS : StOk K ρ M H)
    (h : ResL K (fun c d H' => W c d σ H') ρ H Q ((f δ >>= g) M)) :
    rdA K W f σ H fun xs H1 => ∃ ρ1 ds M1, Nx ρ H ρ1 H1 ∧ DenE K ρ1 (frz ρ1 H1) δ σ ∧ StOk K ρ1 M1 H1 ∧ Dens K ρ1 (frz ρ1 H1) ds xs ∧ ResL K (fun c d H' => W c d σ H') ρ1 H1 Q (g ds M1) := by
  refine ⟨ρ, δ, M, hE, hS, ?_⟩
  rw [Ev.bind_run] at h
  cases e : f δ M with
  | ok d M' =>
    rw [e] at h
    exact fun ρ' v H' n s r => ⟨ρ', d, M', n, hE.mono n.ext, s, r, ResL.nx n h⟩
  | exc C fs M' =>
    rw [e] at h
    exact fun ρ' d H' n s r => h ρ' d H' n s r
  | stuck => rw [e] at h; exact h
theorem pda_nil : PDA X W [] aNil := pa_mono pa_nil fun σ H Q ⟨ρ, δ, M, hE, hS, h⟩ => h ρ [] H Nx.refl hS .nil
theorem pda_cons {e : Expr} {es : List Expr} {f : EF} {g : AF} (ha : PD X W e f) (hr : PDA X W es g) (hs : starEach (e :: es) X.env = (false, eval e X.env) :: starEach es X.env := by rfl) : PDA X W (e :: es) (aCons f g) :=
  pa_mono (pa_cons ha hr hs) fun σ H Q ⟨ρ, δ, M, hE, hS, h⟩ =>
    rd_mono (rd_bindL (f := f) (g := fun d => g δ >>= fun ds => Ev.pure (d :: ds)) hE hS h) fun x H1 ⟨ρ1, d1, M1, n1, e1, s1, r1, h1⟩ =>
      rdA_mono (rdA_bindL (f := g) (g := fun ds => Ev.pure (d1 :: ds)) e1 s1 h1) fun xs H2 ⟨ρ2, ds, M2, n2, e2, s2, r2, h2⟩ => h2 ρ2 (x :: xs) H2 Nx.refl s2 (.cons (r1.mono n2.ext) r2)
def eTup (f : AF) : EF := fun δ => f δ >>= fun ds => opt fun _ => if ds.length ≤ sizeLine then some (.tup ds) else none
def eLst (f : AF) : EF := fun δ => f δ >>= fun ds => opt fun _ => if ds.length ≤ sizeLine then some (.lst ds) else none
/-- a list that will change -/
def eLstM (f : AF) : EF := fun δ => f δ >>= fun ds M => if ds.length ≤ sizeLine then .ok (.ref M.length) (M ++ [.lst ds]) else .stuck
theorem pd_tup {es : List Expr} {f : AF} {x1 : Nat} {pos : Pos} (h : PDA X W es f) : PD X W (.Tuple es x1 pos) (eTup f) := pe_mono (pe_tup h) fun σ H Q ⟨ρ, δ, M, hE, hS, h⟩ =>
  rdA_mono (rdA_bind (f := f) (g := fun ds => opt fun _ => if ds.length ≤ sizeLine then some (.tup ds) else none) hE hS h) fun xs H1 ⟨ρ1, ds, M1, n1, e1, s1, r1, h1⟩ => by
    obtain ⟨z, ez, hz⟩ := opt_of h1
    split at ez
    · rename_i hl
      cases ez
      exact ⟨by rw [← r1.length]; exact hl, fun p hp => hz _ _ (Nx.new hp) (s1.new hp) (.tup (.of (frz_at (s1.notin hp) upd_same)) (r1.mono (Nx.new hp).ext))⟩
    · cases ez
theorem pd_lst {es : List Expr} {f : AF} {pos : Pos} (h : PDA X W es f) : PD X W (.List es pos) (eLst f) := pe_mono (pe_lst h) fun σ H Q ⟨ρ, δ, M, hE, hS, h⟩ =>
  rdA_mono (rdA_bind (f := f) (g := fun ds => opt fun _ => if ds.length ≤ sizeLine then some (.lst ds) else none) hE hS h) fun xs H1 ⟨ρ1, ds, M1, n1, e1, s1, r1, h1⟩ => by
    obtain ⟨z, ez, hz⟩ := opt_of h1
    split at ez
    · rename_i hl
      cases ez
      exact ⟨by rw [← r1.length]; exact hl, fun p hp => hz _ _ (Nx.new hp) (s1.new hp) (.lst (frz_at (s1.notin hp) upd_same) (r1.mono (Nx.new hp).ext))⟩
    · cases ez
/-- a new list joins the store -/
theorem joinL {K : PySem.W.Frag} {W' : Value → Option Addr → Hp → Prop} {ρ : List (Option Addr)} {H : Hp} {Q : VK} {ds : List D} {M : Sto} {vs : List V} {p : Addr} (h : Res K W' ρ H Q (.ok (.ref M.length) (M ++ [.lst ds]))) (S : StOk K ρ M H) (r : Dens K ρ (frz ρ H) ds vs) (hp : H p = none) : Q (.ref p) (upd H p (.lst vs)) := by
  have n := Nx.push (ρ := ρ) (o := .lst vs) hp
  refine h (ρ ++ [some p]) _ _ n (S.push hp ⟨vs, upd_same, r.mono n.ext⟩) (.ref ?_)
  rw [← S.len, List.getElem?_append_right (Nat.le_refl _)]
  simp
theorem pd_lstM {es : List Expr} {f : AF} {pos : Pos} (h : PDA X W es f) : PD X W (.List es pos) (eLstM f) := pe_mono (pe_lst h) fun σ H Q ⟨ρ, δ, M, hE, hS, h⟩ =>
  rdA_mono (rdA_bind (f := f) (g := fun ds M => if ds.length ≤ sizeLine then .ok (.ref M.length) (M ++ [.lst ds]) else .stuck) hE hS h) fun xs H1 ⟨ρ1, ds, M1, n1, e1, s1, r1, h1⟩ => by
    by_cases hl : ds.length ≤ sizeLine
    · rw [if_pos hl] at h1
      exact ⟨by rw [← r1.length]; exact hl, fun p hp => joinL h1 s1 r1 hp⟩
    · rw [if_neg hl] at h1
      exact h1.elim
/-- {} that will change -/
def eDctM : EF := fun _ M => .ok (.ref M.length) (M ++ [.dK []])
theorem pd_dctM {pos : Pos} : PD X W (.Dict [] [] pos) eDctM := pe_mono pe_dnewK fun σ H Q ⟨ρ, δ, M, hE, S, h⟩ p hp => by
  have n := Nx.push (ρ := ρ) (o := .dK []) hp
  refine h (ρ ++ [some p]) _ _ n (S.push hp ⟨[], upd_same, trivial⟩) (.ref ?_)
  rw [← S.len, List.getElem?_append_right (Nat.le_refl _)]
  simp

/-! ### truth -/
def truD (M : Sto) (d : D) : Option Bool := match vw M d with
  | .non => some false
  | .bl b => some b
  | .int i => some (i != 0)
  | .str x => if x.length ≤ sizeLine then some ((x.length : Int) != 0) else none
  | .tup xs => some !xs.isEmpty
  | .lst xs => some !xs.isEmpty
  | .rol xs => some !xs.isEmpty
  | _ => none
def tru (d : D) : Ev Bool := fun M => match truD M d with
  | some b => .ok b M
  | none => .stuck
theorem dens_empty {K : PySem.W.Frag} {ρ : List (Option Addr)} {Φ : Hp} {ds : List D} {vs : List V} (r : Dens K ρ Φ ds vs) : (!vs.isEmpty) = !ds.isEmpty := by
  cases r <;> rfl
theorem truD_of {K : PySem.W.Frag} {ρ : List (Option Addr)} {H : Hp} {M : Sto} {d : D} {v : V} {k : Bool} (S : StOk K ρ M H) (r : Den K ρ (frz ρ H) d v) (e : truD M d = some k) : TruV K v H k := by
  have s := seen_of S r
  unfold truD at e
  generalize vw M d = d' at s e
  cases s with
  | den z =>
    cases z with
    | non => cases e; rfl
    | bl b => cases e; rfl
    | int i => cases e; rfl
    | str x =>
      simp only at e
      split at e
      · cases e; exact ⟨by assumption, rfl⟩
      · cases e
    | ty T => cases e
    | cls C => cases e
    | tup h z2 => cases e; exact .inr (.inl ⟨_, same_sqT (frz_same ρ H) h, (dens_empty z2).symm⟩)
    | lst h z2 => cases e; exact .inl ⟨_, .of (frz_of h).2, (dens_empty z2).symm⟩
    | rol h z2 => cases e; exact .inl ⟨_, (frz_same ρ H).seq h, (dens_empty z2).symm⟩
    | dct h h2 z2 => cases e
    | ref h => cases e
    | ins h r => cases e
    | exc h h2 h3 r => cases e
  | lst h z2 => cases e; exact .inl ⟨_, .of h, (dens_empty z2).symm⟩
theorem tru_of {M M' : Sto} {d : D} {k : Bool} (e : tru d M = .ok k M') : M' = M ∧ truD M d = some k := by
  unfold tru at e
  cases q : truD M d with
  | none => rw [q] at e; cases e
  | some b => rw [q] at e; cases e; exact ⟨rfl, rfl⟩
def bTru (f : EF) : BF := fun δ => f δ >>= tru
/-- the truth of what is at hand, and what follows -/
theorem tru_next {α : Type} {M : Sto} {d : D} {g : Bool → Ev α} {P : Out α → Prop} (h : P ((tru d >>= g) M)) (hs : ¬ P .stuck) : ∃ k, truD M d = some k ∧ P (g k M) := by
  rw [Ev.bind_run] at h
  unfold tru at h
  cases q : truD M d with
  | none => rw [q] at h; exact (hs h).elim
  | some b => rw [q] at h; exact ⟨b, rfl, h⟩
theorem pd_truth {a : Expr} {f : EF} (ha : PD X W a f) (he : ∀ whole, isTrue a X.env whole = (do let v ← whole; standAt a.pos; holding [v] (truthy v)) := by intro _; rfl) : PDB X W a (bTru f) := pt_mono (pt_truth ha he) fun σ H Q ⟨ρ, δ, M, hE, hS, h⟩ =>
  rd_mono (rd_bindB (f := f) (g := tru) hE hS h) fun x H1 ⟨ρ1, d1, M1, n1, e1, s1, r1, h1⟩ => by
    unfold tru at h1
    cases q : truD M1 d1 with
    | none => rw [q] at h1; exact h1.elim
    | some k => rw [q] at h1; exact ⟨k, truD_of s1 r1 q, h1 ρ1 H1 Nx.refl s1⟩

/-! ### and, or, not, if -/
def eAnd (f g : EF) : EF := fun δ => f δ >>= fun x => tru x >>= fun k => if k = true then g δ else Ev.pure x
def eOr (f g : EF) : EF := fun δ => f δ >>= fun x => tru x >>= fun k => if k = true then Ev.pure x else g δ
def eNot (f : EF) : EF := fun δ => f δ >>= fun x => tru x >>= fun k => Ev.pure (.bl !k)
theorem pd_and {a b : Expr} {rest : List Expr} {pos : Pos} {f g : EF} (ha : PD X W a f) (hb : PD X W (.BoolOp .And (b :: rest) pos) g) : PD X W (.BoolOp .And (a :: b :: rest) pos) (eAnd f g) := pe_mono (pe_andT ha hb) fun σ H Q ⟨ρ, δ, M, hE, hS, h⟩ =>
  rd_mono (rd_bind (f := f) (g := fun x => tru x >>= fun k => if k = true then g δ else Ev.pure x) hE hS h) fun x H1 ⟨ρ1, d1, M1, n1, e1, s1, r1, h1⟩ => by
    obtain ⟨k, ek, hk⟩ := tru_next (P := Res X.K (fun c d H' => W c d σ H') ρ1 H1 Q) h1 (fun z => z)
    refine ⟨k, truD_of s1 r1 ek, ?_⟩
    cases k with
    | true => exact ⟨ρ1, δ, M1, e1, s1, hk⟩
    | false => exact hk.here s1 r1
theorem pd_or {a b : Expr} {rest : List Expr} {pos : Pos} {f g : EF} (ha : PD X W a f) (hb : PD X W (.BoolOp .Or (b :: rest) pos) g) : PD X W (.BoolOp .Or (a :: b :: rest) pos) (eOr f g) := pe_mono (pe_orT ha hb) fun σ H Q ⟨ρ, δ, M, hE, hS, h⟩ =>
  rd_mono (rd_bind (f := f) (g := fun x => tru x >>= fun k => if k = true then Ev.pure x else g δ) hE hS h) fun x H1 ⟨ρ1, d1, M1, n1, e1, s1, r1, h1⟩ => by
    obtain ⟨k, ek, hk⟩ := tru_next (P := Res X.K (fun c d H' => W c d σ H') ρ1 H1 Q) h1 (fun z => z)
    refine ⟨k, truD_of s1 r1 ek, ?_⟩
    cases k with
    | true => exact hk.here s1 r1
    | false => exact ⟨ρ1, δ, M1, e1, s1, hk⟩
theorem pd_one {op : BoolOp} {a : Expr} {pos : Pos} {f : EF} (ha : PD X W a f) : PD X W (.BoolOp op [a] pos) f := pe_one ha
theorem pd_not {a : Expr} {pos : Pos} {f : EF} (ha : PD X W a f) : PD X W (.UnaryOp .Not a pos) (eNot f) := pe_mono (pe_notT ha) fun σ H Q ⟨ρ, δ, M, hE, hS, h⟩ =>
  rd_mono (rd_bind (f := f) (g := fun x => tru x >>= fun k => Ev.pure (.bl !k)) hE hS h) fun x H1 ⟨ρ1, d1, M1, n1, e1, s1, r1, h1⟩ => by
    obtain ⟨k, ek, hk⟩ := tru_next (P := Res X.K (fun c d H' => W c d σ H') ρ1 H1 Q) h1 (fun z => z)
    exact ⟨k, truD_of s1 r1 ek, Res.here (W' := fun c d H' => W c d σ H') (show Res X.K _ ρ1 H1 Q (.ok (.bl !k) M1) from hk) s1 (.bl _)⟩
abbrev PDW (X : Cx) (W : WX) (e : Expr) (f : BF) : Prop := PW X e (rdB X.K W f)
theorem pw_mono {X : Cx} {e : Expr} {t t' : TT} (h : PW X e t) (m : ∀ σ H Q, t' σ H Q → t σ H Q) : PW X e t' := ⟨fun wh pins s σ H Q I q => h.run wh pins s σ H Q I (m σ H Q q)⟩
def bAnd (f g : BF) : BF := fun δ => f δ >>= fun k => if k = true then g δ else Ev.pure false
def bOr (f g : BF) : BF := fun δ => f δ >>= fun k => if k = true then Ev.pure true else g δ
def bNot (f : BF) : BF := fun δ => f δ >>= fun k => Ev.pure !k
theorem pdw_and1 {a : Expr} {pos : Pos} {f : BF} (ha : PDB X W a f) : PDW X W (.BoolOp .And [a] pos) f := pw_and1 ha
theorem pdw_or1 {a : Expr} {pos : Pos} {f : BF} (ha : PDB X W a f) : PDW X W (.BoolOp .Or [a] pos) f := pw_or1 ha
theorem pdw_and {a b : Expr} {rest : List Expr} {pos : Pos} {f g : BF} (ha : PDB X W a f) (hb : PDW X W (.BoolOp .And (b :: rest) pos) g) : PDW X W (.BoolOp .And (a :: b :: rest) pos) (bAnd f g) := pw_mono (pw_and ha hb) fun σ H Q ⟨ρ, δ, M, hE, hS, h⟩ =>
  rdB_mono (rdB_bindB (f := f) (g := fun k => if k = true then g δ else Ev.pure false) hE hS h) fun k H1 ⟨ρ1, M1, n1, e1, s1, h1⟩ => by
    cases k with
    | true => exact ⟨ρ1, δ, M1, e1, s1, h1⟩
    | false => exact h1 ρ1 H1 Nx.refl s1
theorem pdw_or {a b : Expr} {rest : List Expr} {pos : Pos} {f g : BF} (ha : PDB X W a f) (hb : PDW X W (.BoolOp .Or (b :: rest) pos) g) : PDW X W (.BoolOp .Or (a :: b :: rest) pos) (bOr f g) := pw_mono (pw_or ha hb) fun σ H Q ⟨ρ, δ, M, hE, hS, h⟩ =>
  rdB_mono (rdB_bindB (f := f) (g := fun k => if k = true then Ev.pure true else g δ) hE hS h) fun k H1 ⟨ρ1, M1, n1, e1, s1, h1⟩ => by
    cases k with
    | true => exact h1 ρ1 H1 Nx.refl s1
    | false => exact ⟨ρ1, δ, M1, e1, s1, h1⟩
theorem pdb_w {e : Expr} {f : BF} (h : PDW X W e f) : PDB X W e f := h.pt
theorem pdb_not {a : Expr} {pos : Pos} {f : BF} (ha : PDB X W a f) : PDB X W (.UnaryOp .Not a pos) (bNot f) := pt_mono (pt_not ha) fun σ H Q ⟨ρ, δ, M, hE, hS, h⟩ =>
  rdB_mono (rdB_bindB (f := f) (g := fun k => Ev.pure !k) hE hS h) fun k H1 ⟨ρ1, M1, n1, e1, s1, h1⟩ => h1 ρ1 H1 Nx.refl s1
def eIf (c : BF) (f g : EF) : EF := fun δ => c δ >>= fun k => if k = true then f δ else g δ
theorem pd_if {c a b : Expr} {pos : Pos} {fc : BF} {f g : EF} (hc : PDB X W c fc) (ha : PD X W a f) (hb : PD X W b g) : PD X W (.IfExp c a b pos) (eIf fc f g) := pe_mono (pe_ifExp hc ha hb) fun σ H Q ⟨ρ, δ, M, hE, hS, h⟩ =>
  rdB_mono (rdB_bind (f := fc) (g := fun k => if k = true then f δ else g δ) hE hS h) fun k H1 ⟨ρ1, M1, n1, e1, s1, h1⟩ => by
    cases k with
    | true => exact ⟨ρ1, δ, M1, e1, s1, h1⟩
    | false => exact ⟨ρ1, δ, M1, e1, s1, h1⟩
/-- a op b op' c -/
def eChain (g g' : OF) (fa fb fc : EF) : EF := fun δ => fa δ >>= fun x => fb δ >>= fun y => opt (g x y) >>= fun z => isBl z >>= fun k => if k = true then fc δ >>= fun w => opt (g' y w) else Ev.pure (.bl false)
theorem opt_next {α : Type} {M : Sto} {o : Sto → Option D} {g : D → Ev α} {P : Out α → Prop} (h : P ((opt o >>= g) M)) (hs : ¬ P .stuck) : ∃ d, o M = some d ∧ P (g d M) := by
  rw [Ev.bind_run] at h
  unfold opt at h
  cases q : o M with
  | none => rw [q] at h; exact (hs h).elim
  | some d => rw [q] at h; exact ⟨d, rfl, h⟩
theorem isBl_next {α : Type} {M : Sto} {d : D} {g : Bool → Ev α} {P : Out α → Prop} (h : P ((isBl d >>= g) M)) (hs : ¬ P .stuck) : ∃ b, d = .bl b ∧ P (g b M) := by
  rw [Ev.bind_run] at h
  cases d with
  | bl b => exact ⟨b, rfl, h⟩
  | _ => exact (hs h).elim
theorem chain_of {K : PySem.W.Frag} {g g' : OF} {fa fb fc : EF} {σ : St} {H : Hp} {Q : VK} (h : rd K W (eChain g g' fa fb fc) σ H Q) : tChain (rO K g) (rO K g') (rd K W fa) (rd K W fb) (rd K W fc) σ H Q := by
  obtain ⟨ρ, δ, M, hE, hS, h⟩ := h
  exact rd_mono (rd_bind (f := fa) (g := fun x => fb δ >>= fun y => opt (g x y) >>= fun z => isBl z >>= fun k => if k = true then fc δ >>= fun w => opt (g' y w) else Ev.pure (.bl false)) hE hS h) fun x H1 ⟨ρ1, d1, M1, n1, e1, s1, r1, h1⟩ =>
    rd_mono (rd_bind (f := fb) (g := fun y => opt (g d1 y) >>= fun z => isBl z >>= fun k => if k = true then fc δ >>= fun w => opt (g' y w) else Ev.pure (.bl false)) e1 s1 h1) fun y H2 ⟨ρ2, d2, M2, n2, e2, s2, r2, h2⟩ => by
      obtain ⟨z, ez, hz⟩ := opt_next (P := Res K (fun c d H' => W c d σ H') ρ2 H2 Q) h2 (fun z => z)
      obtain ⟨k, rfl, hk⟩ := isBl_next (P := Res K (fun c d H' => W c d σ H') ρ2 H2 Q) hz (fun z => z)
      refine ⟨ρ2, M2, d1, d2, _, s2, r1.mono n2.ext, r2, ez, fun v H3 n3 s3 r3 => ?_⟩
      cases r3
      refine ⟨k, rfl, ?_⟩
      cases k with
      | true =>
        have hk' : Res K (fun c d H' => W c d σ H') ρ2 H2 Q ((fc δ >>= fun w => opt (g' d2 w)) M2) := hk
        rw [if_pos rfl]
        exact rd_mono (rd_bind (f := fc) (g := fun w => opt (g' d2 w)) (e2.mono n3.ext) s3 (Res.nx n3 hk')) fun w H4 ⟨ρ4, d4, M4, n4, e4, s4, r4, h4⟩ => by
          obtain ⟨z, ez, hz⟩ := opt_of h4
          exact ⟨ρ4, M4, d2, d4, z, s4, (r2.mono n3.ext).mono n4.ext, r4, ez, hz⟩
      | false =>
        rw [if_neg Bool.false_ne_true]
        exact (show Res K (fun c d H' => W c d σ H') ρ2 H2 Q (.ok (.bl false) M2) from hk) ρ2 _ H3 n3 s3 (.bl _)
theorem pd_chain {op op' : CmpOp} {g g' : OF} {a b c : Expr} {fa fb fc : EF} {pos : Pos} (ho : OpR X (compareOp op) (rO X.K g)) (ho' : OpR X (compareOp op') (rO X.K g')) (ha : PD X W a fa) (hb : PD X W b fb) (hc : PD X W c fc)
    (hm : lastMarks [op, op'] [b, c] = false := by with_unfolding_all rfl) : PD X W (.Compare a [op, op'] [b, c] pos) (eChain g g' fa fb fc) := pe_mono (pe_chain ho ho' ha hb hc hm) fun _ _ _ h => chain_of h
theorem pd_chainB {op op' : CmpOp} {g g' : OF} {a b c : Expr} {fa fb fc : EF} {pos : Pos} (ho : OpR X (compareOp op) (rO X.K g)) (ho' : OpR X (compareOp op') (rO X.K g')) (ha : PD X W a fa) (hb : PD X W b fb) (hc : PD X W c fc)
    (hm : lastMarks [op, op'] [b, c] = false := by with_unfolding_all rfl) : PDB X W (.Compare a [op, op'] [b, c] pos) (bOf (eChain g g' fa fb fc)) := pt_mono (pt_chain ho ho' ha hb hc hm) fun _ _ _ h => by
  have q := tst_of h
  unfold tTest at q ⊢
  exact chain_of q
/-- -a -/
def eUn (g : D → Sto → Option D) (f : EF) : EF := fun δ => f δ >>= fun x => opt (g x)
def oNeg : D → Sto → Option D := fun x _ => match x with
  | .int i => some (.int (-i))
  | _ => none
theorem pd_neg {a : Expr} {pos : Pos} {f : EF} (ha : PD X W a f) : PD X W (.UnaryOp .USub a pos) (eUn oNeg f) := pe_mono (pe_un un_neg ha) fun σ H Q ⟨ρ, δ, M, hE, hS, h⟩ =>
  rd_mono (rd_bind (f := f) (g := fun x => opt (oNeg x)) hE hS h) fun x H1 ⟨ρ1, d1, M1, n1, e1, s1, r1, h1⟩ => by
    obtain ⟨z, ez, hz⟩ := opt_of h1
    unfold oNeg at ez
    split at ez
    · cases ez
      cases r1
      exact ⟨_, rfl, hz _ H1 Nx.refl s1 (.int _)⟩
    · cases ez

/-! ### items, slices -/
def oIx : OF := fun x y M => match y with
  | .int i => (match vw M x with
    | .lst xs => atI xs i
    | .rol xs => atI xs i
    | .tup xs => atI xs i
    | .str z => if z.length ≤ sizeLine then (atI z.cps.toList i).map fun c => .str ⟨#[c]⟩ else none
    | _ => none)
  | _ => none
theorem atI_den {K : PySem.W.Frag} {ρ : List (Option Addr)} {Φ : Hp} {ds : List D} {vs : List V} {i : Int} {d : D} (r : Dens K ρ Φ ds vs) (e : atI ds i = some d) : ∃ v, atI vs i = some v ∧ Den K ρ Φ d v := by
  unfold atI at e ⊢
  rw [← r.length]
  cases q : ixN ds.length i with
  | none => rw [q] at e; cases e
  | some j =>
    rw [q] at e
    exact r.get (show ds[j]? = some d from e)
theorem ix_of {K : PySem.W.Frag} {x y : V} {H : Hp} {Q : VK} (h : rO K oIx x y H Q) : rIx K x y H Q := by
  obtain ⟨ρ, M, a, b, d, S, ra, rb, e, q⟩ := h
  unfold oIx at e
  split at e
  · rename_i i
    cases rb
    have s := seen_of S ra
    generalize vw M a = a' at s e
    cases s with
    | den z =>
      cases z with
      | lst h r =>
        obtain ⟨v, h1, h2⟩ := atI_den r e
        exact .inl ⟨_, _, _, v, rfl, rfl, .of (frz_of h).2, h1, q v H Nx.refl S h2⟩
      | rol h r =>
        obtain ⟨v, h1, h2⟩ := atI_den r e
        exact .inl ⟨_, _, _, v, rfl, rfl, (frz_same ρ H).seq h, h1, q v H Nx.refl S h2⟩
      | tup h r =>
        obtain ⟨v, h1, h2⟩ := atI_den r e
        exact .inr (.inl ⟨_, _, _, v, rfl, rfl, same_sqT (frz_same ρ H) h, h1, q v H Nx.refl S h2⟩)
      | str z =>
        simp only at e
        split at e
        · rename_i hl
          cases ec : atI z.cps.toList i with
          | none => rw [ec] at e; cases e
          | some c => rw [ec] at e; cases e; exact .inr (.inr ⟨_, _, c, rfl, rfl, hl, ec, q _ H Nx.refl S (.str _)⟩)
        · cases e
      | _ => cases e
    | lst h r =>
      obtain ⟨v, h1, h2⟩ := atI_den r e
      exact .inl ⟨_, _, _, v, rfl, rfl, .of h, h1, q v H Nx.refl S h2⟩
  · cases e
theorem pd_ix {a b : Expr} {fa fb : EF} {pos : Pos} (ha : PD X W a fa) (hb : PD X W b fb) (hs : PlainIx b := by exact fun _ _ => rfl) : PD X W (.Subscript a b pos) (eBin oIx fa fb) := pe_mono (pe_ix ix_seq ha hb hs) fun σ H Q h => by
  have q := bin_of h
  exact rd_mono q fun x H1 h1 => rd_mono h1 fun y H2 h2 => ix_of h2
/-- the parts of a slice -/
abbrev OF1 := Env → Ev (Option Int)
def ResO (K : PySem.W.Frag) (W' : Value → Option Addr → Hp → Prop) (ρ : List (Option Addr)) (H : Hp) (Q : Option Int → Hp → Prop) : Out (Option Int) → Prop
  | .ok d M' => ∀ ρ' H', Nx ρ H ρ' H' → StOk K ρ' M' H' → Q d H'
  | .exc C fs M' => ∀ ρ' d H', Nx ρ H ρ' H' → StOk K ρ' M' H' → ExD K ρ' (frz ρ' H') fs d → W' (.ref (He.ga K C)) d H'
  | .stuck => False
def rdO (K : PySem.W.Frag) (W : WX) (f : OF1) : TO := fun σ H Q => ∃ ρ δ M, DenE K ρ (frz ρ H) δ σ ∧ StOk K ρ M H ∧ ResO K (fun c d H' => W c d σ H') ρ H Q (f δ M)
def PDO (X : Cx) (W : WX) (e : Option Expr) (f : OF1) : Prop := PO X e (rdO X.K W f)
theorem po_mono {e : Option Expr} {t t' : TO} (h : PO X e t) (m : ∀ σ H Q, t' σ H Q → t σ H Q) : PO X e t' := ⟨fun pins s σ H Q I q => h.run pins s σ H Q I (m σ H Q q)⟩
def sNo : OF1 := fun _ => Ev.pure none
def isI : D → Ev (Option Int)
  | .int i => Ev.pure (some i)
  | _ => Ev.fail
def sAt (f : EF) : OF1 := fun δ => f δ >>= isI
theorem pdo_none : PDO X W none sNo := po_mono po_none fun σ H Q ⟨ρ, δ, M, hE, hS, h⟩ => h ρ H Nx.refl hS
theorem pdo_some {e : Expr} {f : EF} (h : PD X W e f) : PDO X W (some e) (sAt f) := po_mono (po_some h) fun σ H Q ⟨ρ, δ, M, hE, hS, h⟩ => by
  refine ⟨ρ, δ, M, hE, hS, ?_⟩
  have h : ResO X.K (fun c d H' => W c d σ H') ρ H Q ((f δ >>= isI) M) := h
  rw [Ev.bind_run] at h
  cases e : f δ M with
  | ok d M' =>
    rw [e] at h
    intro ρ' v H' n s r
    cases r with
    | int i => exact ⟨i, rfl, h ρ' H' n s⟩
    | _ => exact h.elim
  | exc C fs M' => rw [e] at h; exact h
  | stuck => rw [e] at h; exact h
def cutD (xs : List D) (lo hi : Option Int) : List D := (xs.drop (HT.sIx xs.length 0 lo)).take (HT.sIx xs.length xs.length hi - HT.sIx xs.length 0 lo)
def oCut (x : D) (lo hi : Option Int) : Sto → Option D := fun M => match vw M x with
  | .lst xs => some (.lst (cutD xs lo hi))
  | .rol xs => some (.lst (cutD xs lo hi))
  | .tup xs => some (.tup (cutD xs lo hi))
  | _ => none
/-- .. into the store -/
def evCutM (x : D) (lo hi : Option Int) : Ev D := fun M => match rvw M x with
  | some xs => .ok (.ref M.length) (M ++ [.lst (cutD xs lo hi)])
  | none => .stuck
theorem cut_den {K : PySem.W.Frag} {ρ : List (Option Addr)} {Φ : Hp} {ds : List D} {vs : List V} (r : Dens K ρ Φ ds vs) (lo hi : Option Int) : Dens K ρ Φ (cutD ds lo hi) (cutV vs lo hi) := by
  unfold cutD cutV
  rw [← r.length]
  exact (r.drop _).take _
theorem cutD_whole {xs : List D} {lo hi : Option Int} (h : HT.sIx xs.length 0 lo = 0 ∧ HT.sIx xs.length xs.length hi = xs.length) : cutD xs lo hi = xs := by
  unfold cutD
  rw [h.1, h.2]
  simp
def eCut (f : EF) (lo hi : OF1) : EF := fun δ => f δ >>= fun x => lo δ >>= fun l => hi δ >>= fun h => opt (oCut x l h)
def eCutM (f : EF) (lo hi : OF1) : EF := fun δ => f δ >>= fun x => lo δ >>= fun l => hi δ >>= fun h => evCutM x l h
theorem rdO_bind {K : PySem.W.Frag} {f : OF1} {g : Option Int → Ev D} {Q : VK} {ρ : List (Option Addr)} {H : Hp} {σ : St} {δ : Env} {M : Sto} (hE : DenE K ρ (frz ρ H) δ σ) (hS : StOk K ρ M H)
    (h : Res K (fun c d H' => W c d σ H') ρ H Q ((f δ >>= g) M)) :
    rdO K W f σ H fun i H1 => ∃ ρ1 M1, Nx ρ H ρ1 H1 ∧ DenE K ρ1 (frz ρ1 H1) δ σ ∧ StOk K ρ1 M1 H1 ∧ Res K (fun c d H' => W c d σ H') ρ1 H1 Q (g i M1) := by
  refine ⟨ρ, δ, M, hE, hS, ?_⟩
  rw [Ev.bind_run] at h
  cases e : f δ M with
  | ok d M' =>
    rw [e] at h
    exact fun ρ' H' n s => ⟨ρ', M', n, hE.mono n.ext, s, Res.nx n h⟩
  | exc C fs M' =>
    rw [e] at h
    exact fun ρ' d H' n s r => h ρ' d H' n s r
  | stuck => rw [e] at h; exact h
theorem rdO_mono {K : PySem.W.Frag} {f : OF1} {σ : St} {H : Hp} {Q Q' : Option Int → Hp → Prop} (h : rdO K W f σ H Q) (m : ∀ v H', Q v H' → Q' v H') : rdO K W f σ H Q' := by
  obtain ⟨ρ, δ, M, hE, hS, h⟩ := h
  refine ⟨ρ, δ, M, hE, hS, ?_⟩
  revert h
  generalize f δ M = r
  intro h
  cases r with
  | ok d M' => exact fun ρ' H' n s => m _ _ (h ρ' H' n s)
  | exc C fs M' => exact h
  | stuck => exact h
theorem pd_cut {e : Expr} {lo hi : Option Expr} {f : EF} {l h : OF1} {pos p2 : Pos} (he : PD X W e f) (hl : PDO X W lo l) (hh : PDO X W hi h) : PD X W (.Subscript e (.Slice lo hi none p2) pos) (eCut f l h) :=
  pe_mono (pe_slice (sl_list.or sl_tupA) he hl hh) fun σ H Q ⟨ρ, δ, M, hE, hS, q⟩ =>
    rd_mono (rd_bind (f := f) (g := fun x => l δ >>= fun i => h δ >>= fun j => opt (oCut x i j)) hE hS q) fun x H1 ⟨ρ1, d1, M1, n1, e1, s1, r1, h1⟩ =>
      rdO_mono (rdO_bind (f := l) (g := fun i => h δ >>= fun j => opt (oCut d1 i j)) e1 s1 h1) fun i H2 ⟨ρ2, M2, n2, e2, s2, h2⟩ =>
        rdO_mono (rdO_bind (f := h) (g := fun j => opt (oCut d1 i j)) e2 s2 h2) fun j H3 ⟨ρ3, M3, n3, e3, s3, h3⟩ => by
          obtain ⟨z, ez, hz⟩ := opt_of h3
          have r3 := (r1.mono n2.ext).mono n3.ext
          have sn := seen_of s3 r3
          unfold oCut at ez
          generalize vw M3 d1 = a' at sn ez
          cases sn with
          | den z =>
            cases z with
            | lst h r =>
              cases ez
              exact .inl ⟨_, _, rfl, .of (frz_of h).2, fun p hp => hz _ _ (Nx.new hp) (s3.new hp) (.lst (frz_at (s3.notin hp) upd_same) (cut_den (r.mono (Nx.new hp).ext) i j))⟩
            | rol h r =>
              cases ez
              exact .inl ⟨_, _, rfl, (frz_same ρ3 H3).seq h, fun p hp => hz _ _ (Nx.new hp) (s3.new hp) (.lst (frz_at (s3.notin hp) upd_same) (cut_den (r.mono (Nx.new hp).ext) i j))⟩
            | tup h r =>
              cases ez
              refine .inr ⟨_, _, rfl, same_sqT (frz_same ρ3 H3) h, fun w => ?_, fun _ p hp => hz _ _ (Nx.new hp) (s3.new hp) (.tup (.of (frz_at (s3.notin hp) upd_same)) (cut_den (r.mono (Nx.new hp).ext) i j))⟩
              rw [← r.length] at w
              rw [cutD_whole w] at hz
              exact hz _ _ Nx.refl s3 (.tup h r)
            | _ => cases ez
          | lst h r =>
            cases ez
            exact .inl ⟨_, _, rfl, .of h, fun p hp => hz _ _ (Nx.new hp) (s3.new hp) (.lst (frz_at (s3.notin hp) upd_same) (cut_den (r.mono (Nx.new hp).ext) i j))⟩
theorem pd_cutM {e : Expr} {lo hi : Option Expr} {f : EF} {l h : OF1} {pos p2 : Pos} (he : PD X W e f) (hl : PDO X W lo l) (hh : PDO X W hi h) : PD X W (.Subscript e (.Slice lo hi none p2) pos) (eCutM f l h) :=
  pe_mono (pe_slice sl_list he hl hh) fun σ H Q ⟨ρ, δ, M, hE, hS, q⟩ =>
    rd_mono (rd_bind (f := f) (g := fun x => l δ >>= fun i => h δ >>= fun j => evCutM x i j) hE hS q) fun x H1 ⟨ρ1, d1, M1, n1, e1, s1, r1, h1⟩ =>
      rdO_mono (rdO_bind (f := l) (g := fun i => h δ >>= fun j => evCutM d1 i j) e1 s1 h1) fun i H2 ⟨ρ2, M2, n2, e2, s2, h2⟩ =>
        rdO_mono (rdO_bind (f := h) (g := fun j => evCutM d1 i j) e2 s2 h2) fun j H3 ⟨ρ3, M3, n3, e3, s3, h3⟩ => by
          have r3 := (r1.mono n2.ext).mono n3.ext
          unfold evCutM at h3
          cases ev : rvw M3 d1 with
          | none => rw [ev] at h3; exact h3.elim
          | some xs =>
            rw [ev] at h3
            obtain ⟨a, vs, rfl, hs, r⟩ := rvw_of s3 r3 ev
            exact ⟨_, _, rfl, hs, fun p hp => joinL h3 s3 (cut_den r i j) hp⟩
end
end L2.MK

end

section
set_option Elab.async false
set_option linter.all false
set_option maxRecDepth 100000
set_option maxHeartbeats 3200000
set_option autoImplicit false
/-! Sets of ints and texts, made from lists, sorted. -/
namespace L2.MK
open PySem PySem.Spec PyProof.Rows PySem.W

/-! ### what a set of keys is -/
def keyB (e : Int × Value) : Key := match e.2 with | .int i _ => .inl i | .str x _ => .inr x | _ => .inl 0
def GoodB (w : World) (e : Int × Value) : Prop := ∃ k, keyIs k e.2 = true ∧ e.1 = keyH w k
theorem keyB_of {k : Key} {e : Int × Value} (h : keyIs k e.2 = true) : keyB e = k := by
  unfold keyB
  rcases keyIs_shape h with ⟨i, t, rfl, e2⟩ | ⟨x, t, rfl, e2⟩ <;> rw [e2]
theorem key_scan' {k : Key} {v : Value} (h : keyIs k v = true) : v.scannable = true := by
  rcases keyIs_shape h with ⟨i, t, rfl, rfl⟩ | ⟨x, t, rfl, rfl⟩ <;> rfl
/-- the set of keys at a: S its members, n their number; its table rises and can be walked -/
def SetB (w : World) (h : Heap) (a : Addr) (S : Key → Bool) (n : Nat) : Prop :=
  ∃ o es ep t, h.get? a = some o ∧ o.ExactSet ∧ o.data = .set es ep t ∧ (∀ e ∈ es.toList, GoodB w e) ∧ (es.toList.map keyB).Nodup ∧ (∀ k, S k = true ↔ k ∈ es.toList.map keyB) ∧
    es.size < scanBound ∧ t.fits es.size = true ∧ es.size = n ∧ Ris t.place.toList ∧ (w.params.followText "set-order" = true ∨ t.led = true)

section
variable {P : Program} {w : World} {h h' : Heap} {a : Addr} {S : Key → Bool} {n : Nat}

theorem SetB.at (R : SetB w h a S n) (k : ∀ o, h.get? a = some o → h'.get? a = some o) : SetB w h' a S n := by
  obtain ⟨o, es, ep, t, ho, r⟩ := R
  exact ⟨o, es, ep, t, k o ho, r⟩
theorem SetB.lt (R : SetB w h a S n) : a < h.objs.size := by
  obtain ⟨o, es, ep, t, ho, r⟩ := R
  exact Heap.lt_size ho
theorem SetB.congr {S' : Key → Bool} (R : SetB w h a S n) (e : ∀ k, S' k = S k) : SetB w h a S' n := by
  have q : S' = S := funext e
  rw [q]; exact R
theorem goodB_elems {l : List (Int × Value)} (g : ∀ e ∈ l, GoodB w e) : ElemsOf (mixKind P w) l := fun e he => by
  obtain ⟨k, h1, h2⟩ := g e he
  exact ⟨⟨k, h1, h2⟩, key_scan' h1⟩
theorem goodB_is {e : Int × Value} (g : GoodB w e) (k : Key) : (mixKind P w).is k e.2 = true ↔ keyB e = k := by
  obtain ⟨k0, h1, _⟩ := g
  rw [keyB_of h1]
  exact ⟨fun h2 => (mixKind P w).inj e.2 k0 k h1 h2, fun q => q ▸ h1⟩
theorem goodB_mem {l : List (Int × Value)} (g : ∀ e ∈ l, GoodB w e) (k : Key) : k ∈ l.map keyB ↔ ∃ e ∈ l, (mixKind P w).is k e.2 = true := by
  rw [List.mem_map]
  constructor
  · rintro ⟨e, he, q⟩
    exact ⟨e, he, (goodB_is (g e he) k).2 q⟩
  · rintro ⟨e, he, q⟩
    exact ⟨e, he, (goodB_is (g e he) k).1 q⟩
theorem SetB.setOf (R : SetB w h a S n) : h.SetOf (mixKind P w) a S n := by
  obtain ⟨o, es, ep, t, ho, hx, hd, g, nd, hm, hb, hf, hn, _⟩ := R
  exact ⟨o, es, ep, t, ho, hx, hd, goodB_elems g, fun k => (hm k).trans (goodB_mem g k), hb, hf, hn⟩
end

section
variable {P : Program} {w : World} {A : Around} {E : Value → Shared → Prop} {s : Shared} {a : Addr} {S : Key → Bool} {n : Nat}

/-! ### add -/
theorem storeB_at {h : Heap} {a : Addr} {o : Obj} {es es' : Array (Int × Value)} {ep : Nat} {t t' : SetTable} (ho : h.get? a = some o) (hd : o.data = .set es ep t) :
    (h.update a (Obj.putSet es' t')).get? a = some { o with data := .set es' (ep + 1) t' } := by
  have q := Heap.get?_update_self (Obj.putSet es' t') ho (by rw [putSet_of es' t' hd]; rfl)
  rw [putSet_of es' t' hd] at q
  exact q

theorem setB_add_tail {g : Bool → Sem Unit} (hg : ∀ (b : Bool) (s₁ : Shared) (Q' : Unit → Shared → Prop), Q' () s₁ → wpAny (model P w) A (g b) Q' E s₁)
    {o : Obj} {es : Array (Int × Value)} {ep : Nat} {t : SetTable} (ho : s.heap.get? a = some o) (hex : o.ExactSet) (hd : o.data = .set es ep t)
    {es1 : Array (Int × Value)} {t2 : SetTable} {S' : Key → Bool} (g1 : ∀ e ∈ es1.toList, GoodB w e) (nd1 : (es1.toList.map keyB).Nodup) (m1 : ∀ k, S' k = true ↔ k ∈ es1.toList.map keyB)
    (hb1 : es1.size < scanBound) (hf2 : t2.fits es1.size = true) (hr : Ris t2.place.toList) (hl : w.params.followText "set-order" = true ∨ t2.led = true) {wasDummy : Bool} {R : Option Bool → Shared → Prop}
    (hR : ∀ h', Heap.SameBut a s.heap h' → SetB w h' a S' es1.size → R (some true) { s with heap := h' }) :
    wpAny (model P w) A (do
        storeSet a es1 t2
        if (!wasDummy && t2.tooFull) = true then do
            g (relayAll t2 es1 (SetTable.grown es1.size)).2.2
            storeSet a (relayAll t2 es1 (SetTable.grown es1.size)).1 (relayAll t2 es1 (SetTable.grown es1.size)).2.1
            pure (some true)
          else pure (some true)) R E s := by
  refine wpAny_bind (wpAny_storeSet_of ho hd ?_ (fits_of_scanBound hb1))
  have ho1 := storeB_at (es' := es1) (t' := t2) ho hd
  have sb1 := Heap.SameBut.update s.heap a (Obj.putSet es1 t2)
  split
  · have pm := relayAll_perm t2 es1 (SetTable.grown es1.size)
    have hf3 := relayAll_fits t2 es1 (SetTable.grown es1.size)
    have hr3 := relayAll_ris t2 es1 (SetTable.grown es1.size)
    have hl3 := relayAll_led t2 es1 (SetTable.grown es1.size)
    generalize relayAll t2 es1 (SetTable.grown es1.size) = Z at pm hf3 hr3 hl3 ⊢
    obtain ⟨es2, t3, gave⟩ := Z
    dsimp only at pm hf3 hr3 hl3 ⊢
    have hsz : es2.size = es1.size := by rw [← Array.length_toList, pm.length_eq, Array.length_toList]
    have hb2 : es2.size < scanBound := by rw [hsz]; exact hb1
    refine wpAny_bind (hg _ _ _ ?_)
    refine wpAny_bind (wpAny_storeSet_of ho1 rfl ?_ (fits_of_scanBound hb2))
    have ho2 := storeB_at (es' := es2) (t' := t3) ho1 rfl
    refine wpAny_pure (hR _ (sb1.trans (Heap.SameBut.update _ a _)) ?_)
    exact ⟨_, es2, _, t3, ho2, hex, rfl, fun e he => g1 e (pm.mem_iff.mp he), (pm.map keyB).nodup_iff.mpr nd1, fun k => (m1 k).trans (pm.map keyB).mem_iff.symm, hb2, hf3, hsz, hr3,
      hl.imp id fun z => by rw [hl3]; exact z⟩
  · exact wpAny_pure (hR _ sb1 ⟨_, es1, _, t2, ho1, hex, rfl, g1, nd1, m1, hb1, hf2, rfl, hr, hl⟩)

theorem setB_add_hashed {k : Key} {x : Value} {Q : Bool → Shared → Prop} (hkey : keyIs k x = true) (R : SetB w s.heap a S n) (room : n + 1 < scanBound)
    (hQ : ∀ h', Heap.SameBut a s.heap h' → SetB w h' a (fun j => S j || decide (j = k)) (if S k = true then n else n + 1) → Q (!S k) { s with heap := h' }) :
    wpAny (model P w) A (setAddHashed a x ((mixKind P w).hash k)) Q E s := by
  obtain ⟨o, es, ep, t, ho, hex, hd, g, nd, hm, hb, hf, hn, hr, hl⟩ := R
  have hsc : x.scannable = true := key_scan' hkey
  have hel : ElemsOf (mixKind P w) es.toList := goodB_elems g
  unfold setAddHashed setAddHashedIn
  refine wpAny_holding (wpAny_bind (wpAny_setState_of ho hd hf ?_))
  dsimp only
  rw [byScan_of hsc hb hel]
  simp only [↓reduceIte]
  unfold setAddByScan
  refine wpAny_bind ?_
  refine wpAny_bind (wpAny_rule ?_)
  refine wpAny_bind (wpAny_setScan_of hkey ho hd hf hel ?_)
  cases hfi : List.findIdx? (fun e => (mixKind P w).is k e.2) es.toList with
  | some j =>
    dsimp only
    obtain ⟨hj, pj, _⟩ := List.findIdx?_eq_some_iff_getElem.mp hfi
    have hSk : S k = true := (hm k).2 ((goodB_mem (P := P) (w := w) g k).2 ⟨es.toList[j], List.getElem_mem hj, pj⟩)
    refine wpAny_pure (wpAny_pure ?_)
    have q := hQ s.heap (Heap.SameBut.refl a s.heap) ⟨o, es, ep, t, ho, hex, hd, g, nd, fun i => by
      rw [Bool.or_eq_true, decide_eq_true_eq, ← hm i]
      exact ⟨fun z => z.elim id (fun e => e ▸ hSk), .inl⟩, hb, hf, by rw [if_pos hSk]; exact hn, hr, hl⟩
    rw [hSk] at q
    exact q
  | none =>
    dsimp only
    have hnk : k ∉ es.toList.map keyB := fun z => by
      obtain ⟨e, he, q⟩ := (goodB_mem (P := P) (w := w) g k).1 z
      have c := List.findIdx?_eq_none_iff.mp hfi e he
      rw [q] at c
      cases c
    have hSk : S k = false := by
      cases q : S k with
      | false => rfl
      | true => exact absurd ((hm k).1 q) hnk
    have hgw : ∀ (b : Bool) {s₁ : Shared} {Q' : Unit → Shared → Prop}, Q' () s₁ → wpAny (model P w) A (match b with | true => rule "set.scan.the-table-gave-way" | false => pure ()) Q' E s₁ :=
      fun b s₁ Q' q => by cases b <;> first | exact wpAny_pure q | exact wpAny_rule q
    have pm := layNew_perm t es ((mixKind P w).hash k) x
    have hf1 := layNew_fits t es ((mixKind P w).hash k) x
    have hr1 := layNew_ris t es ((mixKind P w).hash k) x hr
    have hl1 := layNew_led t es ((mixKind P w).hash k) x
    generalize layNew t es ((mixKind P w).hash k) x = Z at pm hf1 hr1 hl1 ⊢
    obtain ⟨es1, t1, wasDummy, gave⟩ := Z
    dsimp only at pm hf1 hr1 hl1 ⊢
    rw [Array.toList_push] at pm
    have pc : es1.toList.Perm (((mixKind P w).hash k, x) :: es.toList) := pm.trans (List.perm_append_singleton _ _)
    have pk : (es1.toList.map keyB).Perm (k :: es.toList.map keyB) := by
      have z := pc.map keyB
      rw [List.map_cons, keyB_of (e := ((mixKind P w).hash k, x)) hkey] at z
      exact z
    have g1 : ∀ e ∈ es1.toList, GoodB w e := fun e he => by
      rcases List.mem_cons.mp (pc.mem_iff.mp he) with z | z
      · rw [z]; exact ⟨k, hkey, rfl⟩
      · exact g e z
    have nd1 : (es1.toList.map keyB).Nodup := pk.nodup_iff.mpr (List.nodup_cons.mpr ⟨hnk, nd⟩)
    have m1 : ∀ i, (S i || decide (i = k)) = true ↔ i ∈ es1.toList.map keyB := fun i => by
      rw [Bool.or_eq_true, decide_eq_true_eq, hm i, pk.mem_iff, List.mem_cons]
      exact Or.comm
    have hsz : es1.size = n + 1 := by rw [← Array.length_toList, pc.length_eq, List.length_cons, Array.length_toList, hn]
    have hb1 : es1.size < scanBound := by rw [hsz]; exact room
    have hled : w.params.followText "set-order" = true ∨ t1.led = true := hl.imp id fun z => by rw [hl1]; exact z
    have fin : ∀ h', Heap.SameBut a s.heap h' → SetB w h' a (fun j => S j || decide (j = k)) es1.size → Q true { s with heap := h' } := fun h' sb r => by
      have q := hQ h' sb
      rw [hSk] at q
      rw [hsz] at r
      exact q r
    refine wpAny_bind (hgw _ ?_)
    split
    · refine wpAny_bind ?_
      rw [hashByValue_scannable 8 hsc]
      refine wpAny_pure ?_
      refine setB_add_tail ?_ ho hex hd g1 nd1 m1 hb1 ?_ ?_ ?_ ?_
      · intro b s₁ Q' q; cases b <;> first | exact wpAny_pure q | exact wpAny_rule q
      · first | (split <;> first | exact hf1 | exact SetTable.fits_plain_off hf1) | exact hf1
      · first | (split <;> exact hr1) | exact hr1
      · first | (split <;> exact hled) | exact hled
      · intro h' sb r; dsimp only; exact wpAny_pure (fin h' sb r)
    · refine wpAny_bind (wpAny_pure ?_)
      simp only [↓reduceIte]
      refine setB_add_tail ?_ ho hex hd g1 nd1 m1 hb1 hf1 hr1 hled ?_
      · intro b s₁ Q' q; cases b <;> first | exact wpAny_pure q | exact wpAny_rule q
      · intro h' sb r; dsimp only; exact wpAny_pure (fin h' sb r)
theorem setB_fresh {h : Heap} (w : World) : SetB w (h.push { cls := .type "set", dict := none, data := .set #[] 0 (.fresh 0 0 (!w.params.followText "set-order")) }) h.objs.size (fun _ => false) 0 :=
  ⟨_, #[], 0, _, Heap.get?_push_size _ rfl, ⟨rfl, rfl, rfl⟩, rfl, (fun e he => by simp at he), (by simp), (fun k => by simp), (by decide), (by rfl), rfl, List.Pairwise.nil, by
    show _ ∨ (!w.params.followText "set-order") = true
    cases w.params.followText "set-order"
    · exact .inr rfl
    · exact .inl rfl⟩
end
/-! ### set(xs), by an invariant -/
section
variable {P : Program} {w : World} {A : Around} {E : Value → Shared → Prop} {s : Shared}
/-- what a step of the filling shows -/
def AddStep (P : Program) (w : World) (h0 : Heap) (S : Addr) (items : Nat → Value → Prop) (B : Around → Prop) (J : Nat → Heap → Prop) : Prop :=
  ∀ (i : Nat) (v : Value) (A : Around) (E : Value → Shared → Prop) (s : Shared) (Q : Bool → Shared → Prop), B A → items i v → (∀ b o, h0.get? b = some o → s.heap.get? b = some o) → J i s.heap →
    (∀ b h' tk, s.toks ≤ tk → Heap.SameBut S s.heap h' → J (i + 1) h' → Q b { s with heap := h', toks := tk }) → wpAny (model P w) A (setAdd S v) Q E s
theorem set_update_J {I : Addr} {fp wr : List Addr} {G : Array GenState → Array GenState → Prop} {n : Nat} {Pv : Nat → Value → Prop} {St : Nat → Shared → Prop} {R : Result → Shared → Prop} {B : Around → Prop} {J : Nat → Heap → Prop}
    (W : WalksS P w A.in1 I fp wr G n Pv St) (S : Addr) (hSf : S ∉ fp) (h0 : Heap) (hS0 : h0.get? S = none) (hw0 : ∀ b ∈ wr, h0.get? b = none) (hB : B A.in1)
    (hst0 : ∀ i h h', J i h → (∀ o, h.get? S = some o → h'.get? S = some o) → (∀ b o, h0.get? b = some o → h'.get? b = some o) → J i h') (hadd : AddStep P w h0 S Pv B J) :
    ∀ (k i : Nat) (s : Shared), n - i = k → i ≤ n → St i s → (∀ b o, h0.get? b = some o → s.heap.get? b = some o) → J i s.heap →
      (∀ s', Moved (S :: wr) G s s' → J n s'.heap → (∀ b o, h0.get? b = some o → s'.heap.get? b = some o) → R (.ok (.ret .none)) s') →
      codeAny (model P w) A (.builtin "set.update.loop" ⟨[.ref S, .ref I], []⟩) R s := by
  have hSw : S ∉ wr := fun h => hSf (W.sub _ h)
  have hsub : ∀ b ∈ wr, b ∈ S :: wr := fun b hb => List.mem_cons_of_mem _ hb
  have keepM : ∀ {s s' : Shared}, Moved wr G s s' → (∀ b o, h0.get? b = some o → s.heap.get? b = some o) → ∀ b o, h0.get? b = some o → s'.heap.get? b = some o := fun hm hkp b o e =>
    hm.heap b o (fun hb => by rw [hw0 b hb] at e; cases e) (hkp b o e)
  intro k
  induction k with
  | zero =>
    intro i s hk' hi hst hkp hJ hR
    have hin : i = n := by omega
    subst hin
    refine codeAny_builtin PyProof.Rows.F.entry_set_update_loop ?_
    rw [Around.under_plainId PyProof.Rows.F.plain_set_update_loop _]
    show wpAny _ A.in1 (pyNext (.ref I) >>= _) _ _ s
    refine wpAny_bind (W.done s _ _ hst fun s' hm => ?_)
    show wpAny _ A.in1 (ret Value.none) _ _ s'
    have hkp' := keepM hm hkp
    exact wpAny_pure (hR s' (hm.mono hsub) (hst0 _ _ _ hJ (fun o e => hm.heap S o hSw e) hkp') hkp')
  | succ k ih =>
    intro i s hk' hi hst hkp hJ hR
    have hlt : i < n := by omega
    refine codeAny_builtin PyProof.Rows.F.entry_set_update_loop ?_
    rw [Around.under_plainId PyProof.Rows.F.plain_set_update_loop _]
    show wpAny _ A.in1 (pyNext (.ref I) >>= _) _ _ s
    refine wpAny_bind (W.item i s _ _ hlt hst fun v s' hP hst' hm => ?_)
    have hkp' := keepM hm hkp
    have hJ' : J i s'.heap := hst0 _ _ _ hJ (fun o e => hm.heap S o hSw e) hkp'
    show wpAny _ A.in1 (holding [v] (setAdd S v) >>= _) _ _ s'
    refine wpAny_bind (wpAny_holding (hadd i v _ _ s' _ hB hP hkp' hJ' fun b h' tk htk hsb hJ2 => ?_))
    have hkp2 : ∀ b o, h0.get? b = some o → h'.get? b = some o := fun b o e => (hsb.2 b (fun z => by rw [z, hS0] at e; cases e)).trans (hkp' b o e)
    refine wpAny_pure ⟨plainId_quiet PyProof.Rows.F.plain_set_update_loop _, ih (i + 1) _ (by omega) hlt (W.frame _ s' _ _ hst' htk fun b hb o e => ?_) hkp2 hJ2 fun s'' hm'' hJ'' hkp'' => ?_⟩
    · rw [hsb.2 b (fun h : b = S => hSf (by rw [← h]; exact hb))]; exact e
    · refine hR s'' (Moved.trans W.gtrans ((hm.mono hsub).then_heap htk fun b o hb e => ?_) hm'') hJ'' hkp''
      rw [hsb.2 b (fun h : b = S => hb (by rw [h]; exact List.mem_cons_self))]; exact e

set_option maxRecDepth 100000 in
set_option maxHeartbeats 3200000 in
/-- set(xs) -/
theorem call_set_J {l : Addr} {items : Array Value} {Q : Value → Shared → Prop} {B : Around → Prop} {J : Nat → Heap → Prop} (hh : A.handled = none) (hl : s.heap.IsList l items) (hB : B A.in1.in1.in1)
    (hst0 : ∀ i h h', J i h → (∀ o, h.get? s.heap.objs.size = some o → h'.get? s.heap.objs.size = some o) → (∀ b o, s.heap.get? b = some o → h'.get? b = some o) → J i h')
    (hJ0 : ∀ h : Heap, h.get? s.heap.objs.size = some { cls := .type "set", dict := none, data := .set #[] 0 (.fresh 0 0 (!w.params.followText "set-order")) } → (∀ b o, s.heap.get? b = some o → h.get? b = some o) → J 0 h)
    (hadd : AddStep P w s.heap s.heap.objs.size (fun i v => items[i]? = some v) B J)
    (h : ∀ (h' : Heap) (tk : Nat), J items.size h' → (∀ b o, s.heap.get? b = some o → h'.get? b = some o) → Q (.ref s.heap.objs.size) { s with heap := h', toks := tk }) :
    wpAny (model P w) A (call (.type "set") [.ref l]) Q E s := by
  obtain ⟨c, tl, hmro⟩ := PySem.F.called_set.mro
  have hmade := PySem.F.called_set.made
  have hsub := PySem.F.called_set.sub
  refine wpAny_call (codeAny_of_tree ?_)
  show wpAny _ _ (callAny (.type "set") _) _ _ _
  refine wpAny_pure ⟨Code.quiet_builtin _ (by decide +kernel), codeAny_builtin PySem.F.entry_type_call ?_⟩
  rw [Around.under_plain (weight_type_call_type "set" [.ref l] []) rfl]
  have h1 := PySem.F.called_set.notType
  have h2 := PySem.F.called_set.canCreate
  have hct := PySem.F.typeCall_set_1 (.ref l)
  repeat (any_goals (first | assumption | wp_step))

  refine codeAny_mono (code_set_led1 (.ref l) (E := E) (Q₁ := fun obj s₁ => obj = .ref s.heap.objs.size ∧ s₁ = { s with heap := s.heap.push { cls := .type "set", dict := none, data := .set #[] 0 (.fresh 0 0 (!w.params.followText "set-order")) } }) ⟨rfl, rfl⟩) fun r s₁ hr => ?_
  cases r with
  | error e => exact hr
  | ok fl =>
    cases fl with
    | ret obj =>
      obtain ⟨rfl, rfl⟩ := hr
      have hS : (s.heap.push { cls := .type "set", dict := none, data := .set #[] 0 (.fresh 0 0 (!w.params.followText "set-order")) }).get? s.heap.objs.size = some { cls := .type "set", dict := none, data := .set #[] 0 (.fresh 0 0 (!w.params.followText "set-order")) } := Heap.get?_push_size _ rfl
      have hT : Shared.TypeIs { s with heap := s.heap.push { cls := .type "set", dict := none, data := .set #[] 0 (.fresh 0 0 (!w.params.followText "set-order")) } } (.ref s.heap.objs.size) "set" := ⟨_, hS, rfl⟩
      have hli := PySem.F.called_set.init.lookup
      have hbi := PySem.F.called_set.init.bind (.ref s.heap.objs.size)
      repeat (any_goals (first | assumption | wp_step))

      refine codeAny_mono (codeAny_call_builtin (R := wants (fun r s₂ => r = .none ∧ ∃ h' tk, s₂ = { s with heap := h', toks := tk } ∧ J items.size h' ∧
          (∀ b o, s.heap.get? b = some o → h'.get? b = some o)) E) PySem.F.called_set.init.plain PySem.F.entry_set_init (check_set_init_1 hT ?_)) fun r₂ s₂ hr₂ => ?_
      · obtain ⟨ol, hol, hcl, nl, hdl⟩ := hl
        obtain ⟨ocls, odict, odata, oslots⟩ := ol
        simp only at hcl hdl
        subst hcl; subst hdl
        have hol' : (s.heap.push { cls := .type "set", dict := none, data := .set #[] 0 (.fresh 0 0 (!w.params.followText "set-order")) }).get? l = some { cls := .type "list", dict := odict, data := .seq items nl, slots := oslots } := Heap.get?_push_of_some _ hol
        have hsls := PySem.F.sub_list_set
        have hslf := PySem.F.sub_list_frozenset
        have hne : (Value.type "list" == Value.type "dict") = false := by decide
        have hl1 : (s.heap.push { cls := .type "set", dict := none, data := .set #[] 0 (.fresh 0 0 (!w.params.followText "set-order")) }).IsList l items := ⟨_, hol', rfl, nl, rfl⟩
        unfold Builtin.«set.__init__» noKeywords Builtin.Frozenset.updateFrom
        generalize hPI : pyIter = PI
        wp_walk
        subst hPI

        refine wpAny_pyIter_list hl1 ?_
        refine wpAny_bind (wpAny_runValue ?_)
        have hlS : l < s.heap.objs.size := Heap.lt_size hol
        have hh3 : A.in1.in1.in1.handled = none := by simp [hh]
        have hz1 : (s.heap.push { cls := .type "set", dict := none, data := .set #[] 0 (.fresh 0 0 (!w.params.followText "set-order")) }).objs.size = s.heap.objs.size + 1 := Heap.size_push ..
        have hneI : l ≠ (s.heap.push { cls := .type "set", dict := none, data := .set #[] 0 (.fresh 0 0 (!w.params.followText "set-order")) }).objs.size := by
          rw [Heap.size_push]; exact Nat.ne_of_lt (Nat.lt_succ_of_lt hlS)
        have hSf : s.heap.objs.size ∉ [(s.heap.push { cls := .type "set", dict := none, data := .set #[] 0 (.fresh 0 0 (!w.params.followText "set-order")) }).objs.size, l] := by
          rw [Heap.size_push]; simp only [List.mem_cons, List.mem_singleton, List.not_mem_nil, or_false, not_or]
          exact ⟨Nat.ne_of_lt (Nat.lt_succ_self _), Nat.ne_of_gt hlS⟩
        have none_of : ∀ b, s.heap.objs.size ≤ b → s.heap.get? b = none := fun b hb => by
          cases q : s.heap.get? b with
          | none => rfl
          | some o => exact absurd (Nat.lt_of_lt_of_le (Heap.lt_size q) hb) (Nat.lt_irrefl _)
        refine set_update_J (B := B) (J := J) ((Walks.list hh3 _ l hneI items).toS) s.heap.objs.size
          hSf s.heap (none_of _ (Nat.le_refl _)) (fun b hb => none_of b (by
            rw [List.mem_singleton.mp hb, Heap.size_push]
            exact Nat.le_succ _)) hB hst0 hadd (items.size - 0) 0 _ (by omega) (Nat.zero_le _)
          ⟨⟨_, Heap.get?_push_size _ rfl, rfl, rfl⟩, (hl1.push _)⟩ (fun b o e => Heap.get?_push_of_some _ (Heap.get?_push_of_some _ e)) ?hS0 ?hR
        case hS0 =>
          have hget : ((s.heap.push { cls := .type "set", dict := none, data := .set #[] 0 (.fresh 0 0 (!w.params.followText "set-order")) }).push { cls := .type "list_iterator", data := .fields #[.ref l, .int 0 0] }).get? s.heap.objs.size
              = some { cls := .type "set", dict := none, data := .set #[] 0 (.fresh 0 0 (!w.params.followText "set-order")) } := Heap.get?_push_of_some _ hS
          exact hJ0 _ hget (fun b o e => Heap.get?_push_of_some _ (Heap.get?_push_of_some _ e))
        case hR =>
          intro s' hm hS' hkp
          obtain ⟨h', g2, d', tk', os'⟩ := s'
          have eg : g2 = s.gens := hm.gens
          have ed : d' = s.drawn := hm.drawn
          have eo : os' = s.os := hm.os
          subst eg; subst ed; subst eo
          show wpAny _ _ _ _ _ _
          refine wpAny_pure ?_
          show wpAny _ _ (ret Value.none) _ _ _
          exact wpAny_pure ⟨rfl, h', tk', rfl, hS', hkp⟩

      · cases r₂ with
        | error e => exact hr₂
        | ok fl₂ =>
          cases fl₂ with
          | ret r =>
            obtain ⟨rfl, h', tk, rfl, hS', hk'⟩ := hr₂
            repeat (any_goals (first | assumption | wp_step))
            exact h _ _ hS' hk'
          | _ => exact hr₂.elim
    | _ => exact hr.elim
end
end L2.MK

end

section
set_option Elab.async false
set_option linter.all false
set_option maxRecDepth 100000
set_option maxHeartbeats 1000000
set_option autoImplicit false
/-! sorted(set(..)) of texts, of ints. -/
namespace L2.MK
open PySem PySem.Spec PyProof.Rows PySem.W

section
variable {P : Program} {w : World} {A : Around} {E : Value → Shared → Prop} {s : Shared}
/-- the values are these keys -/
def KeysAre : List Value → List Key → Prop
  | [], [] => True
  | v :: vs, k :: ks => keyIs k v = true ∧ KeysAre vs ks
  | _, _ => False
theorem KeysAre.get : ∀ {vs : List Value} {ks : List Key} {i : Nat} {v : Value}, KeysAre vs ks → vs[i]? = some v → ∃ k, ks[i]? = some k ∧ keyIs k v = true
  | [], [], _, _, _, e => by simp at e
  | v :: vs, k :: ks, 0, _, h, e => by simp at e; subst e; exact ⟨k, rfl, h.1⟩
  | v :: vs, k :: ks, i + 1, _, h, e => by simpa using KeysAre.get (i := i) h.2 (by simpa using e)
  | [], _ :: _, _, _, h, _ => h.elim
  | _ :: _, [], _, _, h, _ => h.elim
theorem KeysAre.length : ∀ {vs : List Value} {ks : List Key}, KeysAre vs ks → vs.length = ks.length
  | [], [], _ => rfl
  | _ :: _, _ :: _, h => congrArg (· + 1) (KeysAre.length h.2)
  | [], _ :: _, h => h.elim
  | _ :: _, [], h => h.elim
theorem keysAre_vals : ∀ {ks : List Key} {us : List Value}, Vals (ks.map kV) us → KeysAre us ks
  | [], _, .nil => trivial
  | .inl i :: ks, _, .cons r t => by obtain ⟨u, rfl⟩ := r; exact ⟨keyIs_int _ _, keysAre_vals t⟩
  | .inr x :: ks, _, .cons r t => by obtain ⟨u, rfl⟩ := r; exact ⟨keyIs_str _ _, keysAre_vals t⟩
/-- the set at a, with the keys S -/
def SetKs (w : World) (h : Heap) (a : Addr) (S : Key → Bool) : Prop := ∃ n, SetB w h a S n
def SetKO (w : World) (a : Addr) (S : Key → Bool) : HO := .ext fun h => SetKs w h a S
theorem setKO_new {H : Hp} {h : Heap} {a : Addr} {S : Key → Bool} (R : SetKs w h a S) : ObjOk P w H h a (SetKO w a S) := by
  have ⟨n, o, _, _, _, ho, _⟩ := R
  exact ⟨R, ⟨o, ho⟩, fun h1 h2 ⟨m, p⟩ k => ⟨m, SetB.at p k⟩⟩
theorem call_set_keys {l : Addr} {items : Array Value} {ks : List Key} {Q : Value → Shared → Prop} (hh : A.handled = none) (hl : s.heap.IsList l items) (hk : KeysAre items.toList ks) (hz : ks.length + 1 < scanBound)
    (h : ∀ (h' : Heap) (tk : Nat), SetKs w h' s.heap.objs.size (fun k => ks.any fun x => decide (x = k)) → (∀ b o, s.heap.get? b = some o → h'.get? b = some o) → Q (.ref s.heap.objs.size) { s with heap := h', toks := tk }) :
    wpAny (model P w) A (call (.type "set") [.ref l]) Q E s := by
  have hsz : items.size = ks.length := by rw [← Array.length_toList]; exact hk.length
  refine call_set_J (B := fun _ => True) (J := fun i h' => ∃ n, n ≤ i ∧ SetB w h' s.heap.objs.size (fun k => (ks.take i).any fun x => decide (x = k)) n) hh hl trivial (fun i h1 h2 ⟨n, hn, r⟩ k1 _ => ⟨n, hn, r.at k1⟩) (fun h1 e _ => ?_) ?_ fun h' tk ⟨n, hn, r⟩ kp => ?_
  · refine ⟨0, Nat.le_refl _, _, #[], 0, _, e, ⟨rfl, rfl, rfl⟩, rfl, (fun e he => by simp at he), (by simp), (fun k => by simp), (by decide), (by rfl), rfl, List.Pairwise.nil, ?_⟩
    show _ ∨ (!w.params.followText "set-order") = true
    cases w.params.followText "set-order"
    · exact .inr rfl
    · exact .inl rfl
  · intro i v A E s1 Q1 _ hv kp ⟨n, hn, r⟩ hQ
    obtain ⟨k, e1, e2⟩ := hk.get (i := i) (v := v) (by rw [Array.getElem?_toList]; exact hv)
    have hi : i < ks.length := (List.getElem?_eq_some_iff.mp e1).1
    unfold setAdd
    refine wpAny_holding (wpAny_bind ((mixKind P w).pyHash (k := k) e2 ?_))
    refine setB_add_hashed (s := { s1 with toks := s1.toks + 1 }) e2 r (by omega) fun h' sb r2 => hQ _ h' _ (Nat.le_succ _) sb ⟨_, ?_, r2.congr fun j => ?_⟩
    · split <;> omega
    · rw [List.take_succ, e1]
      simp only [Option.toList_some, List.any_append, List.any_cons, List.any_nil, Bool.or_false]
      congr 1
      by_cases h : k = j
      · rw [decide_eq_true h, decide_eq_true h.symm]
      · rw [decide_eq_false h, decide_eq_false (fun q => h q.symm)]
  · refine h h' tk ⟨n, ?_⟩ kp
    rw [hsz, List.take_length] at r
    exact r
/-- the order of texts -/
def strLe (x y : Str) : Bool := decide (x.cps.toList ≤ y.cps.toList)
/-- each once -/
def dedupL {α : Type} [DecidableEq α] : List α → List α
  | [] => []
  | x :: xs => if x ∈ xs then dedupL xs else x :: dedupL xs
theorem mem_dedupL {α : Type} [DecidableEq α] {a : α} : ∀ {l : List α}, a ∈ dedupL l ↔ a ∈ l
  | [] => Iff.rfl
  | x :: xs => by
    unfold dedupL
    split
    · rename_i h
      rw [mem_dedupL, List.mem_cons]
      exact ⟨.inr, fun q => q.elim (fun e => e ▸ h) id⟩
    · rw [List.mem_cons, mem_dedupL, List.mem_cons]
theorem nodup_dedupL {α : Type} [DecidableEq α] : ∀ l : List α, (dedupL l).Nodup
  | [] => List.nodup_nil
  | x :: xs => by
    unfold dedupL
    split
    · exact nodup_dedupL xs
    · rename_i h
      exact List.nodup_cons.mpr ⟨fun q => h (mem_dedupL.mp q), nodup_dedupL xs⟩
theorem length_dedupL {α : Type} [DecidableEq α] : ∀ l : List α, (dedupL l).length ≤ l.length
  | [] => Nat.le_refl _
  | x :: xs => by
    unfold dedupL
    have := length_dedupL xs
    split <;> simp <;> omega
/-- each once, in order -/
def sortU (xs : List Str) : List Str := (dedupL xs).mergeSort strLe
theorem strLe_trans (a b c : Str) : strLe a b = true → strLe b c = true → strLe a c = true := fun h1 h2 => decide_eq_true (Std.le_trans (of_decide_eq_true h1) (of_decide_eq_true h2))
theorem strLe_total (a b : Str) : (strLe a b || strLe b a) = true := by
  rcases Std.le_total (a := a.cps.toList) (b := b.cps.toList) with h | h
  · rw [show strLe a b = true from decide_eq_true h]; rfl
  · rw [show strLe b a = true from decide_eq_true h, Bool.or_true]
theorem strLe_anti (a b : Str) (h1 : strLe a b = true) (h2 : strLe b a = true) : a = b := by
  have e := Std.le_antisymm (of_decide_eq_true h1) (of_decide_eq_true h2)
  cases a with
  | mk x => cases b with
    | mk y =>
      have e' : x.toList = y.toList := e
      have : x = y := by rw [← Array.toArray_toList (xs := x), e', Array.toArray_toList]
      rw [this]
theorem perm_sorted_eq {α : Type} {le : α → α → Bool} (anti : ∀ a b, le a b = true → le b a = true → a = b) : ∀ {l1 l2 : List α}, l1.Perm l2 → l1.Pairwise (fun a b => le a b = true) → l2.Pairwise (fun a b => le a b = true) → l1 = l2
  | [], l2, p, _, _ => (List.perm_nil.mp p.symm).symm
  | a :: l1, [], p, _, _ => by have := p.length_eq; simp at this
  | a :: l1, b :: l2, p, h1, h2 => by
    have e : a = b := by
      have ha : a ∈ b :: l2 := p.mem_iff.mp List.mem_cons_self
      have hb : b ∈ a :: l1 := p.mem_iff.mpr List.mem_cons_self
      rcases List.mem_cons.mp ha with q | q
      · exact q
      · rcases List.mem_cons.mp hb with r | r
        · exact r.symm
        · exact anti _ _ ((List.pairwise_cons.mp h1).1 _ r) ((List.pairwise_cons.mp h2).1 _ q)
    subst e
    rw [perm_sorted_eq anti ((List.perm_cons a).mp p) (List.pairwise_cons.mp h1).2 (List.pairwise_cons.mp h2).2]
theorem perm_of_mem {α : Type} [DecidableEq α] {l1 l2 : List α} (n1 : l1.Nodup) (n2 : l2.Nodup) (h : ∀ a, a ∈ l1 ↔ a ∈ l2) : l1.Perm l2 := (List.perm_ext_iff_of_nodup n1 n2).mpr h
theorem sortU_of {xs ys : List Str} (n : ys.Nodup) (m : ∀ a, a ∈ ys ↔ a ∈ xs) : ys.mergeSort strLe = sortU xs := by
  refine perm_sorted_eq strLe_anti ?_ (List.pairwise_mergeSort strLe_trans strLe_total _) (List.pairwise_mergeSort strLe_trans strLe_total _)
  refine (List.mergeSort_perm _ _).trans (((perm_of_mem n (nodup_dedupL xs) fun a => (m a).trans mem_dedupL.symm)).trans (List.mergeSort_perm _ _).symm)
theorem sorted_keys {a : Addr} {xs : List Str} {Q : Value → Shared → Prop} (hh : A.handled = none) (hu : A.units + 64 < cLine) (R : SetKs w s.heap a (fun k => (xs.map Sum.inr).any fun x => decide (x = k)))
    (hQ : ∀ s' p (out : List Value) (c : Nat), (∀ b o, s.heap.get? b = some o → s'.heap.get? b = some o) → s'.gens = s.gens → s'.os = s.os → s.heap.objs.size ≤ p →
      s'.heap.get? p = some (seqObj "list" out.toArray c) → StrsAre out (sortU xs) → (sortU xs).length ≤ sizeLine → Q (.ref p) s') :
    wpAny (model P w) A (call (.builtin "sorted") [.ref a]) Q E s := by
  obtain ⟨n, o, es, ep, t, ho, hex, hd, g, nd, hm, hb, hf, hn, hr, hl⟩ := R
  have kE : ∀ e ∈ es.toList, ∃ x u, e.2 = .str x u ∧ x ∈ xs ∧ keyB e = .inr x := fun e he => by
    obtain ⟨k, h1, _⟩ := g e he
    have h2 := (hm k).mpr (List.mem_map.mpr ⟨e, he, keyB_of h1⟩)
    obtain ⟨z, hz, ez⟩ := List.any_eq_true.mp h2
    obtain ⟨x, hx, rfl⟩ := List.mem_map.mp hz
    have e3 : (Sum.inr x : Key) = k := of_decide_eq_true ez
    subst e3
    rcases keyIs_shape h1 with ⟨i, t, q, _⟩ | ⟨y, t, q, e4⟩
    · cases q
    · cases q
      exact ⟨x, t, e4, hx, keyB_of h1⟩
  have memK : ∀ x, x ∈ xs → ∃ e ∈ es.toList, keyB e = .inr x := fun x hx => by
    have h2 : (Sum.inr x : Key) ∈ es.toList.map keyB := (hm (.inr x)).mp (List.any_eq_true.mpr ⟨.inr x, List.mem_map.mpr ⟨x, hx, rfl⟩, decide_eq_true rfl⟩)
    obtain ⟨e, he, q⟩ := List.mem_map.mp h2
    exact ⟨e, he, q⟩
  let un : Value → Str := fun v => match v with | .str x _ => x | _ => ⟨#[]⟩
  have ndE : ((es.toList.map (·.2)).map un).Nodup := by
    have e1 : es.toList.map keyB = ((es.toList.map (·.2)).map un).map Sum.inr := by
      rw [List.map_map, List.map_map]
      refine List.map_congr_left fun e he => ?_
      obtain ⟨x, u, e1, _, e2⟩ := kE e he
      rw [e2]
      show Sum.inr x = Sum.inr (un e.2)
      rw [e1]
    rw [e1] at nd
    exact List.Pairwise.of_map _ (fun a b h e => h (congrArg _ e)) nd
  refine sorted_gen (β := Str) (enc := fun x => .str x) (R := fun v x => ∃ u, v = .str x u) (fun bs => bs.Nodup ∧ (∀ a, a ∈ bs ↔ a ∈ xs) ∧ bs.length ≤ sizeLine)
    (fun bs hg => ⟨AllAlike.of fun _ _ => rfl, Sortable.others fun b => ⟨(fun z => nomatch z), fun _ z => nomatch z⟩, hg.2.2, fun b _ => by show A.units + 2 + 0 < cLine; omega⟩)
    (fun Q1 E' h1 => collect_set (A := A.in1) hh ⟨o, ho, hex.1, hd⟩ hf hb hr hl fun s1 vs k1 hz g1 o1 pm => ?_) fun s' p bs out c kp hg ho' hp hget he hgood => ?_
  · have each : ∀ {vs : List Value}, (∀ v ∈ vs, ∃ x u, v = .str x u) → EachIs (fun v x => ∃ u, v = Value.str x u) vs (vs.map un) := by
      intro vs
      induction vs with
      | nil => intro _; exact .nil
      | cons v vs ih =>
        intro h
        obtain ⟨x, u, rfl⟩ := h v List.mem_cons_self
        exact .cons ⟨u, rfl⟩ (ih fun y hy => h y (List.mem_cons_of_mem _ hy))
    have hv : ∀ v ∈ vs, ∃ x u, v = Value.str x u := fun v hv => by
      obtain ⟨e, he, q⟩ := List.mem_map.mp (pm.mem_iff.mp hv)
      obtain ⟨x, u, e1, _⟩ := kE e he
      exact ⟨x, u, by rw [← q]; exact e1⟩
    refine h1 s1 vs (vs.map un) k1 hz g1 o1 (each hv) ((each hv).mono fun v x ⟨u, e⟩ => ⟨_, by rw [e]; exact Reads.str x u⟩) ⟨?_, fun a => ?_, ?_⟩
    · exact ((pm.map un).nodup_iff).mpr ndE
    · rw [(pm.map un).mem_iff, List.mem_map]
      constructor
      · rintro ⟨v, hv, rfl⟩
        obtain ⟨e, he, rfl⟩ := List.mem_map.mp hv
        obtain ⟨x, u, e1, e2, _⟩ := kE e he
        show un e.2 ∈ xs
        rw [e1]; exact e2
      · intro ha
        obtain ⟨e, he, q⟩ := memK a ha
        obtain ⟨x, u, e1, _, e2⟩ := kE e he
        rw [e2] at q
        cases q
        exact ⟨e.2, List.mem_map.mpr ⟨e, he, rfl⟩, by rw [e1]⟩
    · rw [List.length_map, pm.length_eq, List.length_map, Array.length_toList]
      exact fits_of_scanBound hb
  · have e1 : bs.mergeSort (dataLe false fun x => PyData.str x) = sortU xs := by
      rw [show (dataLe false fun x : Str => PyData.str x) = strLe from dataLe_str id]
      exact sortU_of hgood.1 hgood.2.1
    rw [e1] at he
    refine hQ s' p out c kp hg ho' hp hget ?_ ?_
    · clear hget e1
      revert he
      generalize sortU xs = l
      intro he
      induction he with
      | nil => exact .nil
      | cons h _ ih => obtain ⟨u, rfl⟩ := h; exact .cons _ _ ih
    · rw [← e1, (List.mergeSort_perm _ _).length_eq]
      exact hgood.2.2
end
section
variable {X : Cx}
/-- set(xs) of texts -/
def rSetS (w : World) (K : PySem.W.Frag) : List V → Hp → VK → Prop := fun xs H Q => ∃ (l : Addr) (ks : List Str), xs = [.ref l] ∧ SqL K H l (ks.map V.str) ∧ ks.length < 1000 ∧ ∀ p, H p = none → Q (.ref p) (upd H p (SetKO w p fun k => (ks.map Sum.inr).any fun x => decide (x = k)))
theorem call_setS (hc : X.calm = true) : CallR X (.type "set") (rSetS X.w X.K) := by
  intro pins s σ H xs us Q I r h
  obtain ⟨l, ks, rfl, hs, hz, q⟩ := h
  obtain ⟨u, rfl, ru⟩ := vals1 r
  cases ru
  obtain ⟨its, rv, ⟨o, n, ho, hcl, _, hd⟩, _⟩ := I.list hs
  have hk : KeysAre its (ks.map Sum.inr) := keysAre_vals (by rw [List.map_map]; exact rv)
  refine call_set_keys (I.ok.hd hc) (items := its.toArray) ⟨o, ho, hcl, n, hd⟩ (by rw [List.toList_toArray]; exact hk) (by rw [List.length_map]; unfold scanBound; omega) fun h' tk R kp => ?_
  have hn : H s.heap.objs.size = none := I.hok.fresh (Nat.le_refl _)
  exact ⟨.ref _, _, I.laid (t' := tk) kp (Nat.le_refl _) (setKO_new R), rfl, q _ hn⟩
/-- sorted(set) of texts -/
def rSortS (w : World) : List V → Hp → VK → Prop := fun xs H Q => ∃ (a : Addr) (ks : List Str), xs = [.ref a] ∧ H a = some (SetKO w a fun k => (ks.map Sum.inr).any fun x => decide (x = k)) ∧ ∀ p, H p = none → Q (.ref p) (upd H p (.lst ((sortU ks).map V.str)))
theorem vals_strs : ∀ {vs : List Value} {xs : List Str}, StrsAre vs xs → Vals (xs.map V.str) vs
  | _, _, .nil => .nil
  | _, _, .cons x t r => .cons ⟨_, rfl⟩ (vals_strs r)
theorem call_sortS (hc : X.calm = true) (hu : X.A.units + 64 < cLine) : CallR X (.builtin "sorted") (rSortS X.w) := by
  intro pins s σ H xs us Q I r h
  obtain ⟨a, ks, rfl, ha, q⟩ := h
  obtain ⟨u, rfl, ru⟩ := vals1 r
  cases ru
  have R := (I.hok a _ ha).1
  refine sorted_keys (I.ok.hd hc) hu R fun s' p out c kp hg ho' hp hget hs hl => ?_
  have hn : H p = none := I.hok.fresh hp
  have new : ObjOk X.prog X.w (upd H p (.lst ((sortU ks).map V.str))) s'.heap p (.lst ((sortU ks).map V.str)) := ⟨by rw [List.length_map]; exact hl, out, c, vals_strs hs, hget⟩
  exact inv_out (I.call (g' := s'.gens) (d' := s'.drawn) (t' := s'.toks) (ch := []) (Un.laid kp hp hn) (I.hok.laid kp hp new) (by rw [hg]; exact I.bare) (fun _ z => nomatch z)) ho' (v := .ref p) rfl (q p hn)
end
end L2.MK

end

section
set_option Elab.async false
set_option linter.all false
set_option maxRecDepth 100000
set_option maxHeartbeats 2000000
set_option autoImplicit false
/-! Set comprehensions of texts and ints, two clauses. -/
namespace L2.MK
open PySem PySem.Spec PyProof.Rows PySem.W L2

/-- the set of keys at a, n of them -/
def SetBk (w : World) (a : Addr) (S : Key → Bool) (n : Nat) : HO := .ext fun h => SetB w h a S n
theorem setBk_new {w : World} {P : Program} {H : Hp} {h : Heap} {a : Addr} {S : Key → Bool} {n : Nat} (R : SetB w h a S n) : ObjOk P w H h a (SetBk w a S n) := by
  have ⟨o, _, _, _, ho, _⟩ := R
  exact ⟨R, ⟨o, ho⟩, fun h1 h2 p k => SetB.at p k⟩
theorem keyIs_rel {c : Key} {u : Value} (r : RelV (kV c) u) : keyIs c u = true := by
  cases c with
  | inl i => obtain ⟨t, rfl⟩ := r; exact keyIs_int _ _
  | inr x => obtain ⟨t, rfl⟩ := r; exact keyIs_str _ _
section
variable {X : Cx}
theorem setBk_get {pins : List (Addr × Obj)} {σ : L2.St} {H : Hp} {s : Shared} {a : Addr} {S : Key → Bool} {n : Nat} (I : Inv X pins σ H s) (ha : H a = some (SetBk X.w a S n)) : SetB X.w s.heap a S n := (I.hok a _ ha).1
theorem call_set_addK {A : Around} {E : Value → Shared → Prop} {s : Shared} {P : Program} {w : World} {a : Addr} {S : Key → Bool} {n : Nat} {k : Key} {x : Value} {Q : Value → Shared → Prop} (hk : keyIs k x = true) (R : SetB w s.heap a S n) (room : n + 1 < scanBound)
    (hQ : ∀ h', Heap.SameBut a s.heap h' → SetB w h' a (fun j => S j || decide (j = k)) (if S k = true then n else n + 1) → Q .none { s with heap := h', toks := s.toks + 1 }) :
    wpAny (model P w) A (call (.builtin "set.add") [.ref a, x]) Q E s := by
  have hS : s.heap.SetOf (mixKind P w) a S n := R.setOf
  refine wpAny_call_entry F.slot_set_add hS.typeIs F.entry_set_add ?_ (F.args_set_add_2 _ _)
  unfold Builtin.«set.add» Builtin.Frozenset.oneOther
  simp only [List.isEmpty_nil, bind_assoc]
  unfold Builtin.Frozenset.addrOf setAdd
  refine wpAny_bind (wpAny_pure ?_)
  try dsimp only
  refine wpAny_bind (wpAny_pure ?_)
  try dsimp only
  refine wpAny_bind ?_
  refine wpAny_holding ?_
  refine wpAny_bind ((mixKind P w).pyHash (k := k) hk ?_)
  refine setB_add_hashed (s := { s with toks := s.toks + 1 }) hk R room fun h' sb r => ?_
  show wpAny _ _ (ret Value.none) _ _ _
  exact wpAny_pure ⟨_, rfl, hQ h' sb r⟩
theorem addBk_ok {pins : List (Addr × Obj)} {σ : L2.St} {H : Hp} {s : Shared} {E : Value → Shared → Prop} {D : Addr} {S : Key → Bool} {n : Nat} {y : Key} {u : Value} {Q : Value → Shared → Prop} (I : Inv X pins σ H s) (hD : H D = some (SetBk X.w D S n)) (room : n + 1 < scanBound) (hk : keyIs y u = true)
    (h : ∀ s', Inv X pins σ (upd H D (SetBk X.w D (fun j => S j || decide (j = y)) (if S y = true then n else n + 1))) s' → Q .none s') : wpAny (model X.prog X.w) X.A (call (.builtin "set.add") [.ref D, u]) Q E s := by
  have R := setBk_get I hD
  refine call_set_addK hk R room fun h' sb new => ?_
  have he : ∃ u, h'.get? D = some u := by
    have ⟨o, _, _, _, ho, _⟩ := new
    exact ⟨o, ho⟩
  exact h _ (I.write (e := D) (t' := s.toks + 1) (by rw [hD]; trivial) (.inl rfl) (fun b u hb hu => (sb.2 b hb).trans hu) he (setBk_new new))
end
theorem compTurn2_outS (elt t0 i0 t1 i1 : Expr) (ifs0 ifs1 : List Expr) (scope : Scope) (pos : Pos) (it acc : Value) (env : PySem.Env) :
    compTurn (.SetComp elt [⟨t0, i0, ifs0, 0⟩, ⟨t1, i1, ifs1, 0⟩] scope pos) 0 it acc env = (do
      standAt i0.pos
      match ← pyNext it with
      | none => pure (.done .next)
      | some v =>
        letOwnedTupleGo t0 it v
        assign t0 env v
        let mut ok := true
        for c in ifs0 do
          if ok then ok ← isTrue c env (eval c env)
        if ok then
          let x ← eval i1 env
          standAt i1.pos
          let x ← foldedSetIterable i1 env x
          let _ ← runOwn (.compStart (.SetComp elt [⟨t0, i0, ifs0, 0⟩, ⟨t1, i1, ifs1, 0⟩] scope pos) 1 (← holding [x] (pyIter x)) acc env) env
        again (.compLoop (.SetComp elt [⟨t0, i0, ifs0, 0⟩, ⟨t1, i1, ifs1, 0⟩] scope pos) 0 it acc env)) := by rfl
theorem compTurn2_inS (elt t0 i0 t1 i1 : Expr) (ifs0 ifs1 : List Expr) (scope : Scope) (pos : Pos) (it acc : Value) (env : PySem.Env) :
    compTurn (.SetComp elt [⟨t0, i0, ifs0, 0⟩, ⟨t1, i1, ifs1, 0⟩] scope pos) 1 it acc env = (do
      standAt i1.pos
      match ← pyNext it with
      | none => pure (.done .next)
      | some v =>
        letOwnedTupleGo t1 it v
        assign t1 env v
        let mut ok := true
        for c in ifs1 do
          if ok then ok ← isTrue c env (eval c env)
        if ok then
          (do let v ← eval elt env; standAt elt.pos; let _ ← call (.builtin "set.add") [acc, v])
        again (.compLoop (.SetComp elt [⟨t0, i0, ifs0, 0⟩, ⟨t1, i1, ifs1, 0⟩] scope pos) 1 it acc env)) := by rfl

section
variable {prog : Program} {w : World} {A : Around} {R : Result → Shared → Prop} {s : Shared} {elt t0 i0 t1 i1 : Expr} {ifs0 ifs1 : List Expr} {scope : Scope} {pos : Pos} {it acc : Value} {env : PySem.Env}
/-- the loop of the first clause -/
theorem compLoop2_outS (hs : ∀ x, foldedSetIterable i1 env x = pure x) (I : Nat → Shared → Prop)
    (turn : ∀ n s, I n s → wpAny (model prog w) A (pyNext it) (fun r s₁ => match r with
      | none => R (.ok .next) s₁
      | some v => wpAny (model prog w) A (letOwnedTupleGo t0 it v) (fun _ s₁' => wpAny (model prog w) A (assign t0 env v) (fun _ s₂ =>
          wpAny (model prog w) A (forIn ifs0 true fun c r => if r = true then do let ok ← isTrue c env (eval c env); pure (ForInStep.yield ok) else pure (ForInStep.yield r)) (fun ok s₃ =>
            if ok = true then wpAny (model prog w) A (eval i1 env) (fun x s₄ => wpAny (model prog w) A (pyIter x) (fun it1 s₅ =>
              codeAny (model prog w) A (.compStart (.SetComp elt [⟨t0, i0, ifs0, 0⟩, ⟨t1, i1, ifs1, 0⟩] scope pos) 1 it1 acc env) (fun r s' => match r with
                | .ok _ => ∃ m, m < n ∧ I m s'
                | .error _ => False) s₅) (notedBy (model prog w) A env fun e s' => R (.error e) s') s₄) (notedBy (model prog w) A env fun e s' => R (.error e) s') s₃
            else ∃ m, m < n ∧ I m s₃) (notedBy (model prog w) A env fun e s' => R (.error e) s') s₂) (notedBy (model prog w) A env fun e s' => R (.error e) s') s₁') (notedBy (model prog w) A env fun e s' => R (.error e) s') s₁) (notedBy (model prog w) A env fun e s' => R (.error e) s') s)
    (n : Nat) (h : I n s) :
    codeAny (model prog w) A (.compLoop (.SetComp elt [⟨t0, i0, ifs0, 0⟩, ⟨t1, i1, ifs1, 0⟩] scope pos) 0 it acc env) R s := by
  refine codeAny_loop rfl I (fun n s hI => ?_) n h
  show wpAny _ A ((compTurn (.SetComp elt [⟨t0, i0, ifs0, 0⟩, ⟨t1, i1, ifs1, 0⟩] scope pos) 0 it acc env).onRaise (fun x => do noteFrame x env; theTreesLotGoes x)) _ _ s
  refine wpAny_noted ?_
  rw [compTurn2_outS]
  refine wpAny_bind (wpAny_standAt (wpAny_bind (wpAny_mono (turn n s hI) (fun r s₁ h₁ => ?_) fun _ _ h' => h')))
  cases r with
  | none => exact wpAny_pure h₁
  | some v =>
    refine wpAny_bind (wpAny_mono h₁ (fun _ s₁' h₁' => ?_) fun _ _ h' => h')
    refine wpAny_bind (wpAny_mono h₁' (fun _ s₂ h₂ => wpAny_bind (wpAny_mono h₂ (fun ok s₃ h₃ => ?_) fun _ _ h' => h')) fun _ _ h' => h')
    cases ok with
    | false => exact wpAny_pure ⟨rfl, h₃⟩
    | true =>
      refine wpAny_bind (wpAny_mono h₃ (fun x s₄ h₄ => ?_) fun _ _ h' => h')
      refine wpAny_bind (wpAny_standAt (wpAny_bind (wpAny_of_eq (hs x) (wpAny_bind (wpAny_holding (wpAny_mono h₄ (fun it1 s₅ h₅ => ?_) fun _ _ h' => h'))))))
      refine wpAny_bind (wpAny_runOwn ?_)
      rw [Around.mark_none]
      refine codeAny_mono h₅ fun r s' hr => ?_
      cases r with
      | ok f =>
        first
          | exact wpAny_pure ⟨rfl, hr⟩
          | exact wpAny_bind (wpAny_pure (wpAny_pure ⟨rfl, hr⟩))
      | error e => exact hr.elim
/-- the loop of the second -/
theorem compLoop2_inS (I : Nat → Shared → Prop)
    (turn : ∀ n s, I n s → wpAny (model prog w) A (pyNext it) (fun r s₁ => match r with
      | none => R (.ok .next) s₁
      | some v => wpAny (model prog w) A (letOwnedTupleGo t1 it v) (fun _ s₁' => wpAny (model prog w) A (assign t1 env v) (fun _ s₂ =>
          wpAny (model prog w) A (forIn ifs1 true fun c r => if r = true then do let ok ← isTrue c env (eval c env); pure (ForInStep.yield ok) else pure (ForInStep.yield r)) (fun ok s₃ =>
            if ok = true then wpAny (model prog w) A (eval elt env) (fun x s₄ =>
              wpAny (model prog w) A (call (.builtin "set.add") [acc, x]) (fun _ s₅ => ∃ m, m < n ∧ I m s₅) (notedBy (model prog w) A env fun e s' => R (.error e) s') s₄) (notedBy (model prog w) A env fun e s' => R (.error e) s') s₃
            else ∃ m, m < n ∧ I m s₃) (notedBy (model prog w) A env fun e s' => R (.error e) s') s₂) (notedBy (model prog w) A env fun e s' => R (.error e) s') s₁') (notedBy (model prog w) A env fun e s' => R (.error e) s') s₁) (notedBy (model prog w) A env fun e s' => R (.error e) s') s)
    (n : Nat) (h : I n s) :
    codeAny (model prog w) A (.compLoop (.SetComp elt [⟨t0, i0, ifs0, 0⟩, ⟨t1, i1, ifs1, 0⟩] scope pos) 1 it acc env) R s := by
  refine codeAny_loop rfl I (fun n s hI => ?_) n h
  show wpAny _ A ((compTurn (.SetComp elt [⟨t0, i0, ifs0, 0⟩, ⟨t1, i1, ifs1, 0⟩] scope pos) 1 it acc env).onRaise (fun x => do noteFrame x env; theTreesLotGoes x)) _ _ s
  refine wpAny_noted ?_
  rw [compTurn2_inS]
  refine wpAny_bind (wpAny_standAt (wpAny_bind (wpAny_mono (turn n s hI) (fun r s₁ h₁ => ?_) fun _ _ h' => h')))
  cases r with
  | none => exact wpAny_pure h₁
  | some v =>
    refine wpAny_bind (wpAny_mono h₁ (fun _ s₁' h₁' => ?_) fun _ _ h' => h')
    refine wpAny_bind (wpAny_mono h₁' (fun _ s₂ h₂ => wpAny_bind (wpAny_mono h₂ (fun ok s₃ h₃ => ?_) fun _ _ h' => h')) fun _ _ h' => h')
    cases ok with
    | false => exact wpAny_pure ⟨rfl, h₃⟩
    | true =>
      exact wpAny_bind (wpAny_bind (wpAny_mono h₃ (fun x s₄ h₄ => wpAny_bind (wpAny_standAt (wpAny_bind (wpAny_mono h₄ (fun _ s₅ h₅ => wpAny_pure (wpAny_pure ⟨rfl, h₅⟩)) fun _ _ h' => h')))) fun _ _ h' => h'))
/-- the second clause's start -/
theorem compStart1_okS (h0 : codeAny (model prog w) A (.compLoop (.SetComp elt [⟨t0, i0, ifs0, 0⟩, ⟨t1, i1, ifs1, 0⟩] scope pos) 1 it acc env) R s)
    (h : wpAny (model prog w) A (pyIter it) (fun it' s' => codeAny (model prog w) A (.compLoop (.SetComp elt [⟨t0, i0, ifs0, 0⟩, ⟨t1, i1, ifs1, 0⟩] scope pos) 1 it' acc env) R s')
      (notedBy (model prog w) A env fun x s' => R (.error x) s') s) :
    codeAny (model prog w) A (.compStart (.SetComp elt [⟨t0, i0, ifs0, 0⟩, ⟨t1, i1, ifs1, 0⟩] scope pos) 1 it acc env) R s := by
  refine codeAny_of_tree ?_
  show wpAny _ _ ((compStart (.SetComp elt [⟨t0, i0, ifs0, 0⟩, ⟨t1, i1, ifs1, 0⟩] scope pos) 1 it acc env).onRaise (fun x => do noteFrame x env; standAt theWindowsPlace)) _ _ s
  refine wpAny_notedAt ?_
  unfold compStart
  show wpAny _ _ (ask >>= _) _ _ s
  refine wpAny_bind (wpAny_askSetting (wpAny_ite ?_))
  split
  · first
      | exact wpAny_bind (wpAny_pure (wpAny_pure (And.intro rfl h0)))
      | exact wpAny_pure (And.intro rfl h0)
  · first
      | exact wpAny_bind (wpAny_rule (wpAny_bind (wpAny_standAt (wpAny_bind (wpAny_mono h (fun it' s' h' => wpAny_pure (And.intro rfl h')) fun _ _ x => x)))))
      | (refine wpAny_bind (wpAny_rule ?_); show wpAny _ _ (standAt i1.pos >>= _) _ _ s; exact wpAny_bind (wpAny_standAt (wpAny_bind (wpAny_mono h (fun it' s' h' => wpAny_pure (And.intro rfl h')) fun _ _ x => x))))
end

section
variable {X : Cx}
/-- [elt for tg in iter if .. for tg1 in iter1 if ..]: behind the first clause's store and tests the second source's own loop, from which Nx is reached. vs: the block's names; vs1: those of the second target -/
def tSc2 (w : World) (wi : TI) (g : TG) (tt : TT) (wi1 : TI) (g1 : TG) (tt1 : TT) (te : TE) (vs vs1 : List Nat) : TE := fun σ H Q => wi σ H fun J H1 => ∀ D, H1 D = none → ∃ W : Nat → Nat → Hp → Prop, (∃ m, W 0 m (upd H1 D (SetBk w D (fun _ => false) 0))) ∧ ∀ i m H, W i m H →
  (J.stop i H ∧ Q (.ref D) H) ∨ (J.go i H ∧ ∃ Nx : Hp → Prop, (∀ H', Nx H' → ∃ m', m' < m ∧ W (i + 1) m' H') ∧ ∀ x H', J.yld i H x H' → g x (wipe σ vs) H' fun σ2 H2 => wipe σ2 vs = wipe σ vs ∧ tt σ2 H2 fun b H3 =>
    if b = true then wi1 σ2 H3 fun J1 H4 => ∃ W1 : Nat → Nat → Hp → Prop, (∃ m, W1 0 m H4) ∧ ∀ j k H, W1 j k H →
      (J1.stop j H ∧ Nx H) ∨ (J1.go j H ∧ ∃ Nx1 : Hp → Prop, (∀ H', Nx1 H' → ∃ k', k' < k ∧ W1 (j + 1) k' H') ∧ ∀ x H', J1.yld j H x H' → g1 x (wipe σ2 vs1) H' fun σ3 H5 => wipe σ3 vs1 = wipe σ2 vs1 ∧ tt1 σ3 H5 fun b H6 =>
        if b = true then te σ3 H6 fun y H7 => ∃ (c : Key) (S : Key → Bool) (n : Nat), y = kV c ∧ H7 D = some (SetBk w D S n) ∧ n + 1 < scanBound ∧ Nx1 (upd H7 D (SetBk w D (fun j => S j || decide (j = c)) (if S c = true then n else n + 1))) else Nx1 H6)
    else Nx H3)
theorem sc2_core {pins : List (Addr × Obj)} {s : Shared} {σ : St} {H : Hp} {Q : VK} {elt tg iter tg1 iter1 : Expr} {ifs ifs1 : List Expr} {scope : Scope} {own : List (Str × Nat)} {vs1 : List Nat} {pos pos' : Pos} {wi wi1 : TI} {g g1 : TG} {tt tt1 : TT} {te : TE} {use : Option (Value → Sem Unit)} {Qf : Value → Shared → Prop}
    (hc : X.calm = true) (hN : X.N.Nodup) (I : Inv X pins σ H s) (hi : PI X tg iter wi) (ok : BlkOk X.N X.env.scope scope own) (hv : ∀ i ∈ vs1, i ∈ own.map (·.2))
    (hg : ∀ (s : Shared) (H : Hp) (C : Addr) (cl : List (Str × Addr)) (fp : List Addr), PG (X.blk s H scope (compEnvC scope cl C X.env) fp) tg g) (ht : ∀ (s : Shared) (H : Hp) (C : Addr) (cl : List (Str × Addr)) (fp : List Addr), PTs (X.blk s H scope (compEnvC scope cl C X.env) fp) ifs tt)
    (he : ∀ (s : Shared) (H : Hp) (C : Addr) (cl : List (Str × Addr)) (fp : List Addr), PE (X.blk s H scope (compEnvC scope cl C X.env) fp) elt te) (hs : ∀ x, foldedSetIterable iter X.env x = pure x)
    (hi1 : ∀ (s : Shared) (H : Hp) (C : Addr) (cl : List (Str × Addr)) (fp : List Addr), PI (X.blk s H scope (compEnvC scope cl C X.env) fp) tg1 iter1 wi1)
    (hg1 : ∀ (s : Shared) (H : Hp) (C : Addr) (cl : List (Str × Addr)) (fp : List Addr), PG (X.blk s H scope (compEnvC scope cl C X.env) fp) tg1 g1)
    (ht1 : ∀ (s : Shared) (H : Hp) (C : Addr) (cl : List (Str × Addr)) (fp : List Addr), PTs (X.blk s H scope (compEnvC scope cl C X.env) fp) ifs1 tt1)
    (hs1 : ∀ env x, foldedSetIterable iter1 env x = pure x)
    (h : tSc2 X.w wi g tt wi1 g1 tt1 te (own.map (·.2)) vs1 σ H Q)
    (hRR : ∀ D C s' m H', Inv X pins σ H' s' → Q (.ref D) H' → s'.heap.Ns C m → FpOk X pins H' C → compPost (model X.prog X.w) X.A X.xe use Qf (.ref D) C (.ok .next) s') :
    wpAny (model X.prog X.w) X.A (comprehension (.SetComp elt [⟨tg, iter, ifs, 0⟩, ⟨tg1, iter1, ifs1, 0⟩] scope pos) scope X.env pos' (newSet (.type "set")) false (eval iter X.env) use) Qf X.xe s := by
  have hfree : ∀ y ∈ scope.names, y.2 = .free → ∃ c, X.env.cells.lookup y.1 = some c := fun y hy e => by
    rcases ok.free y hy e with k | k
    · exact I.ok.has _ (.inl k)
    · exact I.ok.has _ (.inr k)
  refine wpAny_comprehension_free (use := use) rfl hs (closure_ok hfree) ok.kind (fun y hy e => by rw [ok.uniq y hy, e])
    (thn (hi.run pins s σ H _ I h) fun xv s1 hx => thn hx fun itv s2 h2 => ?_)
  obtain ⟨it, fp, tn, J, H2, e, I2, T, st2, f2, q⟩ := h2
  subst e
  refine PpSet.newSet_ok (newEnv_comp ?_)
  generalize hD : s2.heap.objs.size = D
  have hDn : H2 D = none := I2.hok.fresh (Nat.le_of_eq hD)
  obtain ⟨W, ⟨m0, w0⟩, turn⟩ := q D hDn
  -- the new list
  generalize hs3 : ({ s2 with heap := s2.heap.push { cls := .type "set", dict := none, data := .set #[] 0 (.fresh 0 0 (!X.w.params.followText "set-order")) } } : Shared) = s3
  have I3 : Inv X pins σ (upd H2 D (SetBk X.w D (fun _ => false) 0)) s3 := by
    rw [← hs3]
    refine I2.laid (t' := s2.toks) (fun b o e => Heap.get?_push_of_some _ e) (Nat.le_of_eq hD) ?_
    rw [← hD]
    exact setBk_new (setB_fresh X.w)
  have h3 : s3.heap = s2.heap.push { cls := .type "set", dict := none, data := .set #[] 0 (.fresh 0 0 (!X.w.params.followText "set-order")) } := by rw [← hs3]
  have sz : ∀ b ∈ fp, b < s2.heap.objs.size := fun b hb => by
    obtain ⟨o, e, _⟩ := T.obj _ _ st2 b hb
    exact Heap.lt_size e
  have f3 : ∀ b ∈ fp, FpOk X pins (upd H2 D (SetBk X.w D (fun _ => false) 0)) b ∧ b < s3.heap.objs.size := fun b hb => by
    have hlt := sz b hb
    refine ⟨⟨?_, (f2 b hb).2⟩, by rw [h3, Heap.size_push]; exact Nat.lt_succ_of_lt hlt⟩
    rw [upd_ne (by rw [← hD]; exact Nat.ne_of_lt hlt)]
    exact (f2 b hb).1
  have st3 : tn 0 s3.heap := T.keep _ _ _ st2 fun b _ o e => by rw [h3]; exact Heap.get?_push_of_some _ e
  have I4 := block_start I3 ok hN f3
  have pg := hg s3 (upd H2 D (SetBk X.w D (fun _ => false) 0)) s3.heap.objs.size (cellsFrom (s3.heap.objs.size + 1) scope.names (cloFrom X.env.cells scope.names [])) fp
  have pt := ht s3 (upd H2 D (SetBk X.w D (fun _ => false) 0)) s3.heap.objs.size (cellsFrom (s3.heap.objs.size + 1) scope.names (cloFrom X.env.cells scope.names [])) fp
  have pe := he s3 (upd H2 D (SetBk X.w D (fun _ => false) 0)) s3.heap.objs.size (cellsFrom (s3.heap.objs.size + 1) scope.names (cloFrom X.env.cells scope.names [])) fp
  have pi1 := hi1 s3 (upd H2 D (SetBk X.w D (fun _ => false) 0)) s3.heap.objs.size (cellsFrom (s3.heap.objs.size + 1) scope.names (cloFrom X.env.cells scope.names [])) fp
  have pg1 := hg1 s3 (upd H2 D (SetBk X.w D (fun _ => false) 0)) s3.heap.objs.size (cellsFrom (s3.heap.objs.size + 1) scope.names (cloFrom X.env.cells scope.names [])) fp
  have pt1 := ht1 s3 (upd H2 D (SetBk X.w D (fun _ => false) 0)) s3.heap.objs.size (cellsFrom (s3.heap.objs.size + 1) scope.names (cloFrom X.env.cells scope.names [])) fp
  show codeAny _ _ (.compStart (.SetComp elt [⟨tg, iter, ifs, 0⟩, ⟨tg1, iter1, ifs1, 0⟩] scope pos) 0 (.ref it) (.ref D) (compEnvC scope (cellsFrom (s3.heap.objs.size + 1) scope.names (cloFrom X.env.cells scope.names [])) s3.heap.objs.size X.env)) (compPost (model X.prog X.w) X.A X.xe use Qf (.ref D) s3.heap.objs.size) { s3 with heap := pushCells (s3.heap.push { cls := .type "dict", data := .dict #[] }) scope.names }
  have nfp : ∀ b ∈ fp, (upd H2 D (SetBk X.w D (fun _ => false) 0)) b = none := fun b hb => (f3 b hb).1.1
  generalize hce : compEnvC scope (cellsFrom (s3.heap.objs.size + 1) scope.names (cloFrom X.env.cells scope.names [])) s3.heap.objs.size X.env = ce at I4 pg pt pe pi1 pg1 pt1 ⊢
  have cL : ce.locals = s3.heap.objs.size := by subst hce; rfl
  generalize hH3 : upd H2 D (SetBk X.w D (fun _ => false) 0) = H3 at I3 I4 pg pt pe pi1 pg1 pt1 w0 nfp f3
  generalize hs4 : ({ s3 with heap := pushCells (s3.heap.push { cls := .type "dict", data := .dict #[] }) scope.names } : Shared) = s4 at I4 ⊢
  have st4 : tn 0 s4.heap := T.keep _ _ _ st3 fun b _ o e => by rw [← hs4]; exact pushCells_keeps _ _ _ _ (Heap.get?_push_of_some _ e)
  have stat : ∀ {σ' : St} {H' : Hp} {s' : Shared}, Inv (X.blk s3 H3 scope ce fp) [] σ' H' s' → (∀ b ∈ fp, H' b = none) → ∀ b ∈ fp, FpOk (X.blk s3 H3 scope ce fp) [] H' b := fun {σ' H' s'} I' hn b hb =>
    ⟨hn b hb, (I'.ok.exf b hb).1, I'.ok.exfs b hb, .inl hb, fun x c e => (I'.ok.exf b hb).2 x c e, fun p hp => absurd (show p ∈ ([] : List (Addr × Obj)) ++ [] from hp) (by simp)⟩
  have loop : codeAny (model X.prog X.w) X.A (.compLoop (.SetComp elt [⟨tg, iter, ifs, 0⟩, ⟨tg1, iter1, ifs1, 0⟩] scope pos) 0 (.ref it) (.ref D) ce) (compPost (model X.prog X.w) X.A X.xe use Qf (.ref D) s3.heap.objs.size) s4 := by
    refine compLoop2_outS (hs1 ce) (fun n s' => ∃ i H', Inv (X.blk s3 H3 scope ce fp) [] (wipe σ (own.map (·.2))) H' s' ∧ tn i s'.heap ∧ (∀ b ∈ fp, H' b = none) ∧ W i n H') ?_ m0 ⟨0, H3, I4, st4, nfp, w0⟩
    rintro n s5 ⟨i, H5, I5, st5, n5, w5⟩
    rcases turn i n H5 w5 with ⟨stop, qq⟩ | ⟨go, Nx, hNx, step⟩
    · have td := T.done (X.blk s3 H3 scope ce fp) rfl rfl rfl hc i [] s5 _ H5 (fun _ _ => False) I5 (stat I5 n5) st5 stop
      refine thnF td fun r s6 ⟨hr, I6⟩ => ?_
      subst hr
      -- back in the def's context
      have I7 : Inv X pins σ H5 s6 := I3.call' (ch := fp) I6.os I6.base I6.hok I6.bare fun b hb => ⟨(f3 b hb).1.2.2.2.1, (f3 b hb).1.2.1, (f3 b hb).1.2.2.2.2.1, (f3 b hb).1.2.2.2.2.2⟩
      have nC : H5 s3.heap.objs.size = none := by
        have z : H5 ce.locals = none := I6.free
        rw [cL] at z
        exact z
      obtain ⟨m, hn, _⟩ := I6.loc
      have hn : s6.heap.Ns ce.locals m := hn
      rw [cL] at hn
      exact hRR D s3.heap.objs.size s6 m H5 I7 qq hn (I3.fpOk (Nat.le_refl _) nC)
    · have ti := T.item (X.blk s3 H3 scope ce fp) rfl rfl rfl hc i [] s5 _ H5 (fun _ _ => False) I5 (stat I5 n5) st5 go
      refine thnF ti fun r s6 ⟨u, hr, h6⟩ => ?_
      subst hr
      refine thnF h6 fun _ s7 ⟨x, H7, I7, r7, y7, st7, n7⟩ => ?_
      have I7' := I7.pinned (stat I7 n7) (T.obj _ _ st7)
      refine thnF (pg.run _ s7 _ H7 x u _ I7' r7 (step x H7 y7)) fun _ s8 ⟨σ8, H8, I8, hw8, q8⟩ => ?_
      refine thnF (pt.run _ s8 σ8 H8 _ I8 q8) fun b s9 ⟨H9, I9, q9⟩ => ?_
      -- the turn's end, from any slots that know what the block knew at its start
      have fin : ∀ {σ9 : St} {s' : Shared} {H' : Hp}, Inv (X.blk s3 H3 scope ce fp) ([] ++ pinsAt fp s7.heap) σ9 H' s' → (wipe σ (own.map (·.2))).length = σ9.length → (∀ (j : Nat) v, (wipe σ (own.map (·.2)))[j]? = some (some v) → σ9[j]? = some (some v)) → Nx H' →
          ∃ m, m < n ∧ ∃ i H', Inv (X.blk s3 H3 scope ce fp) [] (wipe σ (own.map (·.2))) H' s' ∧ tn i s'.heap ∧ (∀ b ∈ fp, H' b = none) ∧ W i m H' := fun {σ9 s' H'} I' hl hk nx => by
        obtain ⟨m', hm, w'⟩ := hNx H' nx
        have pin' : ∀ b ∈ fp, ∀ o, s7.heap.get? b = some o → s'.heap.get? b = some o ∧ H' b = none := fun b hb o e =>
          let z := I'.pin (b, o) (List.mem_append_right _ (List.mem_append_right _ (mem_pinsAt hb e)))
          ⟨z.1, z.2.1⟩
        refine ⟨m', hm, i + 1, H', (I'.unpinned (pins := [])).weak hl hk, T.keep _ _ _ st7 fun b hb o e => (pin' b hb o e).1, fun b hb => ?_, w'⟩
        obtain ⟨o, e, _⟩ := T.obj _ _ st7 b hb
        exact (pin' b hb o e).2
      have hl8 : (wipe σ (own.map (·.2))).length = σ8.length := by rw [← hw8, wipe_length]
      have hk8 : ∀ (j : Nat) v, (wipe σ (own.map (·.2)))[j]? = some (some v) → σ8[j]? = some (some v) := fun j v e => by
        rw [← hw8] at e
        exact (wipe_some e).1
      have hk9 : ∀ (j : Nat) v, (wipe σ (own.map (·.2)))[j]? = some (some v) → (wipe σ8 vs1)[j]? = some (some v) := fun j v e => by
        rw [← hw8] at e
        obtain ⟨e1, e2⟩ := wipe_some e
        rw [wipe_out fun z => e2 (hv j z)]
        exact e1
      cases b with
      | false =>
        simp only [Bool.false_eq_true, if_false] at q9 ⊢
        exact fin I9 hl8 hk8 q9
      | true =>
        simp only [if_true] at q9 ⊢
        refine thnF (pi1.run _ s9 σ8 H9 _ I9 q9) fun xv s10 hx => thnF hx fun itv s11 h11 => ?_
        obtain ⟨it1, fp1, tn1, J1, H11, e1, I11, T1, st11, f11, W1, ⟨m1, w1⟩, turn1⟩ := h11
        subst e1
        -- the inner loop
        have stat1 : ∀ {H' : Hp}, (∀ b ∈ fp1, H' b = none) → ∀ b ∈ fp1, FpOk (X.blk s3 H3 scope ce fp) ([] ++ pinsAt fp s7.heap) H' b := fun hn b hb => ⟨hn b hb, (f11 b hb).2⟩
        have loop1 : codeAny (model X.prog X.w) X.A (.compLoop (.SetComp elt [⟨tg, iter, ifs, 0⟩, ⟨tg1, iter1, ifs1, 0⟩] scope pos) 1 (.ref it1) (.ref D) ce)
            (fun r s' => match r with
              | .ok _ => ∃ m, m < n ∧ ∃ i H', Inv (X.blk s3 H3 scope ce fp) [] (wipe σ (own.map (·.2))) H' s' ∧ tn i s'.heap ∧ (∀ b ∈ fp, H' b = none) ∧ W i m H'
              | .error _ => False) s11 := by
          refine compLoop2_inS (fun k s' => ∃ j H', Inv (X.blk s3 H3 scope ce fp) ([] ++ pinsAt fp s7.heap) (wipe σ8 vs1) H' s' ∧ tn1 j s'.heap ∧ (∀ b ∈ fp1, H' b = none) ∧ W1 j k H') ?_ m1 ⟨0, H11, I11.weak (wipe_length _ _) (fun j v e => (wipe_some e).1), st11, fun b hb => (f11 b hb).1, w1⟩
          rintro k s12 ⟨j, H12, I12, st12, n12, w12⟩
          rcases turn1 j k H12 w12 with ⟨stop1, nx1⟩ | ⟨go1, Nx1, hNx1, step1⟩
          · refine thnF (T1.done (X.blk s3 H3 scope ce fp) rfl rfl rfl hc j _ s12 (wipe σ8 vs1) H12 (fun _ _ => False) I12 (stat1 n12) st12 stop1) fun r s13 ⟨hr, I13⟩ => ?_
            subst hr
            exact fin I13 (hl8.trans (wipe_length σ8 vs1).symm) hk9 nx1
          · refine thnF (T1.item (X.blk s3 H3 scope ce fp) rfl rfl rfl hc j _ s12 (wipe σ8 vs1) H12 (fun _ _ => False) I12 (stat1 n12) st12 go1) fun r s13 ⟨u1, hr, h13⟩ => ?_
            subst hr
            refine thnF h13 fun _ s14 ⟨x1, H14, I14, r14, y14, st14, n14⟩ => ?_
            have I14' := I14.pinned (stat1 n14) (T1.obj _ _ st14)
            refine thnF (pg1.run _ s14 (wipe σ8 vs1) H14 x1 u1 _ I14' r14 (step1 x1 H14 y14)) fun _ s15 ⟨σ15, H15, I15, hw15, q15⟩ => ?_
            refine thnF (pt1.run _ s15 σ15 H15 _ I15 q15) fun b1 s16 ⟨H16, I16, q16⟩ => ?_
            have fin1 : ∀ {s' : Shared} {H' : Hp}, Inv (X.blk s3 H3 scope ce fp) (([] ++ pinsAt fp s7.heap) ++ pinsAt fp1 s14.heap) σ15 H' s' → Nx1 H' → ∃ m, m < k ∧ ∃ j H', Inv (X.blk s3 H3 scope ce fp) ([] ++ pinsAt fp s7.heap) (wipe σ8 vs1) H' s' ∧ tn1 j s'.heap ∧ (∀ b ∈ fp1, H' b = none) ∧ W1 j m H' := fun {s' H'} I' nx => by
              obtain ⟨m', hm, w'⟩ := hNx1 H' nx
              have pin' : ∀ b ∈ fp1, ∀ o, s14.heap.get? b = some o → s'.heap.get? b = some o ∧ H' b = none := fun b hb o e =>
                let z := I'.pin (b, o) (List.mem_append_right _ (List.mem_append_right _ (mem_pinsAt hb e)))
                ⟨z.1, z.2.1⟩
              refine ⟨m', hm, j + 1, H', I'.unpinned.weak (by rw [← hw15, wipe_length]) (fun j v e => by rw [← hw15] at e; exact (wipe_some e).1), T1.keep _ _ _ st14 fun b hb o e => (pin' b hb o e).1, fun b hb => ?_, w'⟩
              obtain ⟨o, e, _⟩ := T1.obj _ _ st14 b hb
              exact (pin' b hb o e).2
            cases b1 with
            | false =>
              simp only [Bool.false_eq_true, if_false] at q16 ⊢
              exact fin1 I16 q16
            | true =>
              simp only [if_true] at q16 ⊢
              refine thnF (pe.run _ s16 σ15 H16 _ I16 q16) fun z s17 ⟨yv, H17, I17, r17, ck, S0, n0, ey, hD17, hz17, nx⟩ => ?_
              subst ey
              exact addBk_ok (X := X.blk s3 H3 scope ce fp) I17 hD17 hz17 (keyIs_rel r17) fun s18 I18 => fin1 I18 nx
        exact compStart1_okS loop1 (T1.self X.A 0 _ _ _ st11 loop1)
  exact PpSet.codeAny_compStart_set loop (T.self X.A 0 _ _ _ st4 loop)
/-- as a value -/
theorem pe_sc2 {elt tg iter tg1 iter1 : Expr} {ifs ifs1 : List Expr} {scope : Scope} {own : List (Str × Nat)} {vs1 : List Nat} {pos : Pos} {wi wi1 : TI} {g g1 : TG} {tt tt1 : TT} {te : TE} (hc : X.calm = true) (hN : X.N.Nodup) (hi : PI X tg iter wi) (ok : BlkOk X.N X.env.scope scope own) (hv : ∀ i ∈ vs1, i ∈ own.map (·.2))
    (hg : ∀ (s : Shared) (H : Hp) (C : Addr) (cl : List (Str × Addr)) (fp : List Addr), PG (X.blk s H scope (compEnvC scope cl C X.env) fp) tg g) (ht : ∀ (s : Shared) (H : Hp) (C : Addr) (cl : List (Str × Addr)) (fp : List Addr), PTs (X.blk s H scope (compEnvC scope cl C X.env) fp) ifs tt)
    (hi1 : ∀ (s : Shared) (H : Hp) (C : Addr) (cl : List (Str × Addr)) (fp : List Addr), PI (X.blk s H scope (compEnvC scope cl C X.env) fp) tg1 iter1 wi1)
    (hg1 : ∀ (s : Shared) (H : Hp) (C : Addr) (cl : List (Str × Addr)) (fp : List Addr), PG (X.blk s H scope (compEnvC scope cl C X.env) fp) tg1 g1) (ht1 : ∀ (s : Shared) (H : Hp) (C : Addr) (cl : List (Str × Addr)) (fp : List Addr), PTs (X.blk s H scope (compEnvC scope cl C X.env) fp) ifs1 tt1)
    (he : ∀ (s : Shared) (H : Hp) (C : Addr) (cl : List (Str × Addr)) (fp : List Addr), PE (X.blk s H scope (compEnvC scope cl C X.env) fp) elt te) (hs : ∀ x, foldedSetIterable iter X.env x = pure x := by intro _; rfl) (hs1 : ∀ env x, foldedSetIterable iter1 env x = pure x := by intro _ _; rfl) :
    PE X (.SetComp elt [⟨tg, iter, ifs, 0⟩, ⟨tg1, iter1, ifs1, 0⟩] scope pos) (tSc2 X.w wi g tt wi1 g1 tt1 te (own.map (·.2)) vs1) := by
  refine ⟨fun pins s σ H Q I h => ?_⟩
  rw [PpSet.eval_SetComp]
  refine sc2_core hc hN I hi ok hv hg ht he hs hi1 hg1 ht1 hs1 h fun D C s' m H' I' q hn f => ⟨m, hn, fun h'' sb => ?_⟩
  obtain ⟨f0, f1, f2, f3, f4, f5⟩ := f
  exact ⟨.ref D, H', I'.turned (t' := s'.toks) (fun b o hb e => (sb.2 b hb).trans e) f0 f1 f3 f4 f5, rfl, q⟩
end
end L2.MK

end

section
set_option Elab.async false
set_option linter.all false
set_option maxRecDepth 100000
set_option maxHeartbeats 2000000
set_option autoImplicit false
/-! enumerate(tuple). -/
namespace L2.MK
open PySem PySem.Spec PyProof.Rows PySem.W

theorem meets_enum_newT (l : Addr) (items : Array Value) (n : Nat) (dct : Option Addr) (sl : Array (Option Value)) :
    Meets (Builtin.«enumerate.__new__» ⟨[.type "enumerate", .ref l], []⟩) (fun _ R s => s.heap.get? l = some { cls := .type "tuple", dict := dct, data := .seq items n, slots := sl } ∧
      R (.ok (.ret (.ref (s.heap.push { cls := .type "tuple_iterator", data := .fields #[.ref l, .int 0 0] }).objs.size)))
        { s with heap := (s.heap.push { cls := .type "tuple_iterator", data := .fields #[.ref l, .int 0 0] }).push { cls := .type "enumerate", data := .fields #[.none, .bool false, .ref s.heap.objs.size, rawInt 0, .none, .none] } }) :=
  .of_wp fun prog w A R s h => by
    obtain ⟨hp, g, d, tk, os⟩ := s; obtain ⟨hl, h⟩ := h
    have hsub := sub_enumerate
    have hL : Heap.IsTuple (Shared.heap ⟨hp, g, d, tk, os⟩) l items := ⟨_, hl, rfl, n, rfl⟩
    wp_walk using AutoSeq1.wpAny_loadPart' hl
    refine wpAny_stack_any fun st => wpAny_pure ?_
    split
    · rename_i c _ _ _ _ _
      cases (c == Value.type "enumerate")
      · wp_walk using AutoSeq1.wpAny_loadPart' hl, wpAny_pyIter_tuple hL
        exact ⟨_, rfl, h⟩
      · wp_walk using AutoSeq1.wpAny_loadPart' hl, wpAny_pyIter_tuple hL
        exact ⟨_, rfl, h⟩
    · wp_walk using AutoSeq1.wpAny_loadPart' hl, wpAny_pyIter_tuple hL
      exact ⟨_, rfl, h⟩
section
variable {prog : Program} {w : World} {A : Around} {E : Value → Shared → Prop} {s : Shared}
theorem call_enum_tuple {l : Addr} {items : Array Value} {Q : Value → Shared → Prop} (hL : s.heap.IsTuple l items)
    (h : ∀ h', IsEnum h' (s.heap.objs.size + 1) s.heap.objs.size 0 .none → h'.IsTupleIter s.heap.objs.size l 0 → h'.objs.size = s.heap.objs.size + 2 →
      (∀ b o, s.heap.get? b = some o → h'.get? b = some o) → Q (.ref (s.heap.objs.size + 1)) { s with heap := h' }) :
    wpAny (model prog w) A (call (.type "enumerate") [.ref l]) Q E s := by
  obtain ⟨⟨c, dct, dt, sl⟩, hl, hc, n, hd⟩ := hL
  replace hc : c = .type "tuple" := hc
  replace hd : dt = .seq items n := hd
  subst hc hd
  refine callType_new F.called_enumerate (by decide) (F.typeCall_enumerate_1 _) (F.newCall_enumerate_1 _) (fun obj => F.args_object_init_2 obj _) F.entry_enumerate_new
    (meets_enum_newT l items n dct sl) ⟨hl, ?_⟩
  have hz : (s.heap.push { cls := .type "tuple_iterator", data := .fields #[.ref l, .int 0 0] }).objs.size = s.heap.objs.size + 1 := Heap.size_push ..
  show _ ∧ _
  rw [hz]
  have he : IsEnum ((s.heap.push { cls := .type "tuple_iterator", data := .fields #[.ref l, .int 0 0] }).push
      { cls := .type "enumerate", data := .fields #[.none, .bool false, .ref s.heap.objs.size, rawInt 0, .none, .none] }) (s.heap.objs.size + 1) s.heap.objs.size 0 .none := by
    have := Heap.get?_push_size (s.heap.push { cls := .type "tuple_iterator", data := .fields #[.ref l, .int 0 0] })
      (o := { cls := .type "enumerate", data := .fields #[.none, .bool false, .ref s.heap.objs.size, rawInt 0, .none, .none] }) rfl
    rw [hz] at this; exact this
  refine ⟨⟨_, he, rfl⟩, h _ he ⟨_, Heap.get?_push_of_some _ (Heap.get?_push_size _ rfl), rfl, rfl⟩ (by rw [Heap.size_push, hz]) fun b o x => Heap.get?_push_of_some _ (Heap.get?_push_of_some _ x)⟩
end
def IteT (K : PySem.W.Frag) (a : Addr) : It :=
  ⟨fun i H => ∃ (xs : List V) (x : V), SqT K H a xs ∧ xs[i]? = some x, fun i H v H' => ∃ T x, v = .ref T ∧ H T = none ∧ H' = upd H T (.tup [.int (i : Nat), x]) ∧ ∀ xs, SqT K H a xs → xs[i]? = some x, fun i H => ∃ xs : List V, SqT K H a xs ∧ xs.length ≤ i⟩
theorem turn_enumT {P : Program} {w : World} {K : PySem.W.Frag} {elts : List Expr} {kk : Nat} {tpos : Pos} (a e it : Addr) :
    Turn P w K (.Tuple elts kk tpos) (IteT K a) [e, it] e (fun i h => (∃ old, IsEnum h e it ((i : Nat) : Int) old) ∧ h.IsTupleIter it a i ∧ e ≠ it) where
  mem := by simp
  obj := fun i h st b hb => by
    obtain ⟨⟨old, he⟩, ⟨o, ho, hc, hd⟩, _⟩ := st
    have e' : b = e ∨ b = it := by simpa using hb
    rcases e' with z | z
    · rw [z]; exact ⟨_, he, fun v q => nomatch q⟩
    · rw [z]; exact ⟨o, ho, fun v q => by rw [hd] at q; cases q⟩
  keep := fun i h h' st k => let ⟨⟨old, he⟩, hi, hne⟩ := st; ⟨⟨old, k e (by simp) _ he⟩, hi.at fun o q => k it (by simp) o q, hne⟩
  item := by
    intro X hP hw hK hc i pins s σ H E I hf st hg
    subst hP hw hK
    obtain ⟨⟨old, he⟩, hit, hne⟩ := st
    obtain ⟨xs, x, hq, hx⟩ := hg
    obtain ⟨its, rv, p, hz⟩ := I.tuple hq
    obtain ⟨u, hu, ru⟩ := rv.get hx
    have hel : e < s.heap.objs.size := Heap.lt_size he
    have hil : it < s.heap.objs.size := by obtain ⟨_, q, _⟩ := hit; exact Heap.lt_size q
    have hai : a ≠ it := fun z => by
      obtain ⟨o, ho, hcl, hd⟩ := hit
      obtain ⟨o2, ho2, hcl2, _⟩ := p
      rw [z, ho] at ho2
      cases ho2
      rw [hcl] at hcl2
      exact absurd (Value.type.inj hcl2) (by decide)
    have hae : e ≠ a := fun z => by
      obtain ⟨o2, ho2, hcl2, _⟩ := p
      rw [← z, he] at ho2
      cases ho2
      exact absurd (Value.type.inj hcl2) (by decide)
    refine wpAny_pyNext_enum_itemD (Draws.tuple (A := X.A.in1) (I.ok.hd hc) it a hai its.toArray) he (i := i) ⟨hit, p⟩ (by
      have := (List.getElem?_eq_some_iff.mp hu).1
      simpa using this) hne (by simp [hne, hae]) fun x' h' tk hP' ho hit' hT hsz hk => ?_
    have ex : x' = u := by
      have hP'' : its[i]? = some x' := by simpa using hP'
      rw [hu] at hP''
      exact (Option.some.inj hP'').symm
    subst ex
    refine ⟨_, rfl, wpAny_letOwnedTupleGo_enum (s := { s with heap := h', toks := tk + 1 }) ho fun h'' he' sb => ?_⟩
    have hT2 : h''.get? s.heap.objs.size = some { cls := .type "tuple", data := .seq #[.int i tk, x'] } := (sb.2 _ (Nat.ne_of_gt hel)).trans hT
    have new : ObjOk X.prog X.w (upd H s.heap.objs.size (.tup [.int (i : Nat), x])) h'' s.heap.objs.size (.tup [.int (i : Nat), x]) :=
      ⟨by show 2 ≤ sizeLine; decide, [.int i tk, x'], .cons ⟨_, rfl⟩ (.cons ru .nil), ⟨_, hT2, rfl, _, rfl⟩⟩
    have I1 : Inv X pins σ (upd H s.heap.objs.size (.tup [.int (i : Nat), x])) { s with heap := h'', toks := tk + 1 } :=
      I.turnedNew (ch := [e, it]) (fun b ob hb q => (sb.2 b (fun z => hb (by simp [z]))).trans (hk b ob (fun z => hb (by simp [z])) (fun z => hb (by simp [z])) q)) hf (Nat.le_refl _) new
    refine ⟨.ref s.heap.objs.size, _, I1, rfl, ⟨_, x, rfl, I.hok.fresh (Nat.le_refl _), rfl, fun ys hy => by rw [I.tuple_inj hy hq]; exact hx⟩, ⟨⟨x', ?_⟩, hit'.1.at fun o q => (sb.2 it (Ne.symm hne)).trans q, hne⟩, fun b hb => ?_⟩
    · have e1 : ((i + 1 : Nat) : Int) = (i : Int) + 1 := by omega
      rw [e1]; exact he'
    · have hb' : b < s.heap.objs.size := by
        have e' : b = e ∨ b = it := by simpa using hb
        rcases e' with z | z
        · rw [z]; exact hel
        · rw [z]; exact hil
      rw [upd_ne (Nat.ne_of_lt hb')]
      exact (hf b hb).1
  done := by
    intro X hP hw hK hc i pins s σ H E I hf st hg
    subst hP hw hK
    obtain ⟨⟨old, he⟩, hit, hne⟩ := st
    obtain ⟨xs, hq, hx⟩ := hg
    obtain ⟨its, rv, p, hz⟩ := I.tuple hq
    obtain ⟨f0, f1, f2, f3, f4, f5⟩ := hf it (by simp)
    have hl := rv.length
    have hT : s.TypeIs (.ref e) "enumerate" := ⟨_, he, rfl⟩
    unfold pyNext
    refine wpAny_bind (wpAny_attempt (wpAny_callSpecial?_slot (name := Str.ofString "__next__") hT F.slot_enumerate_next
      (wpAny_call_entry F.slot_enumerate_next hT F.entry_enumerate_next ?_ (F.args_enumerate_next_1 _))))
    show wpAny _ _ (field (.ref e) 2 >>= _) _ _ _
    refine wpAny_bind (wpAny_field he rfl (x := .ref it) rfl ?_)
    refine wpAny_bind (wpAny_nextOf_tuple_end (items := its.toArray) (I.ok.hd hc) hit p (by simp; omega) fun h' x he' hx' => ?_)
    obtain ⟨o, ho, hcl⟩ := hx'
    refine wpAny_bind (wpAny_isInstance (T := "StopIteration") (b := true) ⟨o, ho, hcl⟩ isSubtype_stop ?_)
    exact wpAny_pure ⟨rfl, I.turned (t' := s.toks) (fun b o hb q => he' b o hb q) f0 f1 f3 f4 f5⟩
  self := fun A i s Q E st h => let ⟨⟨_, he⟩, _⟩ := st; wpAny_pyIter_enum he h
def iEnumT (K : PySem.W.Frag) (ta : TA) : TI := fun σ H R => ta σ H fun vs H1 => ∃ a xs, vs = [.ref a] ∧ SqT K H1 a xs ∧ R (IteT K a) H1
theorem pi_enumT {X : Cx} {e : Expr} {ta : TA} {p pos tpos : Pos} {elts : List Expr} {kk : Nat} (hg : Gl X "enumerate") (hm : X.mg "enumerate" = none) (ha : PA X [e] ta) (hs : starEach [e] X.env = [(false, eval e X.env)] := by rfl) :
    PI X (.Tuple elts kk tpos) (.Call (.Name "enumerate" p) [e] [] pos) (iEnumT X.K ta) := by
  refine ⟨fun pins s σ H R I h => ?_⟩
  refine Call_ (ld_blt I hg hm boot_enumerate (PyProof.Rows.callWith_type1 (thn (ha.run pos pins s σ H _ I h) fun us s1 ⟨vs, H1, I1, r1, q1⟩ => ?_) hs rfl))
  obtain ⟨a, xs, ex, hq, q⟩ := q1
  subst ex
  cases r1 with
  | cons r rr =>
    cases rr
    cases r
    obtain ⟨its, rv, p', hz⟩ := I1.tuple hq
    refine call_enum_tuple p' fun h' he hit hsz hk => wpAny_pyIter_enum he ?_
    have I2 : Inv X pins σ H1 { s1 with heap := h' } := I1.kept (t' := s1.toks) hk
    refine ⟨s1.heap.objs.size + 1, [s1.heap.objs.size + 1, s1.heap.objs.size], _, _, H1, rfl, I2, turn_enumT a (s1.heap.objs.size + 1) s1.heap.objs.size, ⟨⟨.none, he⟩, hit, Nat.succ_ne_self _⟩, fun b hb => ?_, q⟩
    have e' : b = s1.heap.objs.size + 1 ∨ b = s1.heap.objs.size := by simpa using hb
    have hle : s1.heap.objs.size ≤ b := by
      rcases e' with z | z
      · rw [z]; exact Nat.le_add_right _ _
      · rw [z]; exact Nat.le_refl _
    exact I1.fpOk hle (I1.hok.fresh hle)
end L2.MK

end

section
set_option Elab.async false
set_option linter.all false
set_option maxRecDepth 100000
set_option maxHeartbeats 1000000
set_option autoImplicit false
/-! Calls of built-ins. -/
namespace L2.MK
open PySem PySem.Spec PyProof.Rows PySem.W

abbrev GF := List D → Sto → Option D
def rC (K : PySem.W.Frag) (g : GF) : List V → Hp → VK → Prop := fun xs H Q => ∃ ρ M ds d, StOk K ρ M H ∧ Dens K ρ (frz ρ H) ds xs ∧ g ds M = some d ∧ ∀ v H', Nx ρ H ρ H' → StOk K ρ M H' → Den K ρ (frz ρ H') d v → Q v H'
def eCall (g : GF) (f : AF) : EF := fun δ => f δ >>= fun ds => opt (g ds)
section
variable {X : Cx} {W : WX}
theorem call_of {K : PySem.W.Frag} {g : GF} {f : AF} {σ : St} {H : Hp} {Q : VK} (h : rd K W (eCall g f) σ H Q) : tCB (rC K g) (rdA K W f) σ H Q := by
  obtain ⟨ρ, δ, M, hE, hS, h⟩ := h
  exact rdA_mono (rdA_bind (f := f) (g := fun ds => opt (g ds)) hE hS h) fun xs H1 ⟨ρ1, ds, M1, n1, e1, s1, r1, h1⟩ => by
    obtain ⟨z, ez, hz⟩ := opt_of h1
    exact ⟨ρ1, M1, ds, z, s1, r1, ez, hz⟩
theorem pd_callB {x : Str} {id : String} {g : GF} {e : Expr} {es : List Expr} {f : AF} {p pos : Pos} (hc : CallR X (.builtin id) (rC X.K g)) (hg : Gl X x) (hm : X.mg x = none) (hv : bootBuiltins x = some (.builtin id)) (ha : PDA X W (e :: es) f)
    (hn : x ≠ "__name__" := by decide) (hdb : (x == ("__debug__" : Str)) = false := by decide)
    (he : starEach (e :: es) X.env = (false, eval e X.env) :: starEach es X.env := by rfl) (hpl : (backTo pos (starEach es X.env)).any (·.1) = false := by rfl) : PD X W (.Call (.Name x p) (e :: es) [] pos) (eCall g f) :=
  pe_mono (pe_callB hc hg hm hv ha hn hdb he hpl) fun _ _ _ h => call_of h
theorem pd_callTy {x : Str} {T : String} {g : GF} {e : Expr} {es : List Expr} {f : AF} {p pos : Pos} (hc : CallR X (.type T) (rC X.K g)) (hg : Gl X x) (hm : X.mg x = none) (hv : bootBuiltins x = some (.type T)) (ha : PDA X W (e :: es) f)
    (hn : x ≠ "__name__" := by decide) (hdb : (x == ("__debug__" : Str)) = false := by decide)
    (he : starEach (e :: es) X.env = (false, eval e X.env) :: starEach es X.env := by rfl) (hpl : (backTo pos (starEach es X.env)).any (·.1) = false := by rfl) : PD X W (.Call (.Name x p) (e :: es) [] pos) (eCall g f) :=
  pe_mono (pe_callTy hc hg hm hv ha hn hdb he hpl) fun _ _ _ h => call_of h

/-! ### len, abs, int -/
def gLen : GF := fun ds M => match ds with
  | [d] => (match vw M d with
    | .lst xs => some (.int xs.length)
    | .rol xs => some (.int xs.length)
    | .tup xs => some (.int xs.length)
    | .str z => if z.length ≤ sizeLine then some (.int z.length) else none
    | _ => none)
  | _ => none
theorem dens1 {K : PySem.W.Frag} {ρ : List (Option Addr)} {Φ : Hp} {d : D} {xs : List V} (h : Dens K ρ Φ [d] xs) : ∃ x, xs = [x] ∧ Den K ρ Φ d x := by
  cases h with
  | cons h1 h2 => cases h2; exact ⟨_, rfl, h1⟩
theorem dens2 {K : PySem.W.Frag} {ρ : List (Option Addr)} {Φ : Hp} {d e : D} {xs : List V} (h : Dens K ρ Φ [d, e] xs) : ∃ x y, xs = [x, y] ∧ Den K ρ Φ d x ∧ Den K ρ Φ e y := by
  cases h with
  | cons h1 h2 => obtain ⟨y, rfl, h3⟩ := dens1 h2; exact ⟨_, y, rfl, h1, h3⟩
/-- a sequence, read -/
def sqD (M : Sto) (d : D) : Option (List D) := match vw M d with
  | .lst xs => some xs
  | .rol xs => some xs
  | .tup xs => some xs
  | _ => none
theorem sqD_of {K : PySem.W.Frag} {ρ : List (Option Addr)} {H : Hp} {M : Sto} {d : D} {v : V} {xs : List D} (S : StOk K ρ M H) (r : Den K ρ (frz ρ H) d v) (e : sqD M d = some xs) :
    ∃ a vs, v = .ref a ∧ (SqL K H a vs ∨ SqT K H a vs) ∧ Dens K ρ (frz ρ H) xs vs := by
  have s := seen_of S r
  unfold sqD at e
  generalize vw M d = d' at s e
  cases s with
  | den z =>
    cases z with
    | tup h z2 => cases e; exact ⟨_, _, rfl, .inr (same_sqT (frz_same ρ H) h), z2⟩
    | lst h z2 => cases e; exact ⟨_, _, rfl, .inl (.of (frz_of h).2), z2⟩
    | rol h z2 => cases e; exact ⟨_, _, rfl, .inl ((frz_same ρ H).seq h), z2⟩
    | _ => cases e
  | lst h z2 => cases e; exact ⟨_, _, rfl, .inl (.of h), z2⟩
theorem cr_len : CallR X (.builtin "len") (rC X.K gLen) := by
  refine CallR.imp call_len fun xs H Q ⟨ρ, M, ds, d, S, r, e, q⟩ => ?_
  unfold gLen at e
  split at e
  · rename_i d0
    obtain ⟨x, rfl, r1⟩ := dens1 r
    cases eq : sqD M d0 with
    | some ys =>
      obtain ⟨a, vs, rfl, hs, hv⟩ := sqD_of S r1 eq
      have e' : d = .int ys.length := by
        unfold sqD at eq
        generalize vw M d0 = d1 at e eq
        cases d1 <;> simp only [reduceCtorEq, Option.some.injEq] at e eq <;> (first | (subst eq; exact e.symm) | cases eq)
      subst e'
      refine ⟨_, ys.length, rfl, ?_, q _ H Nx.refl S (.int _)⟩
      rw [hv.length]
      rcases hs with hs | hs
      · exact .inl ⟨_, hs, rfl⟩
      · exact .inr ⟨_, hs, rfl⟩
    | none =>
      have sn := seen_of S r1
      unfold sqD at eq
      generalize vw M d0 = d1 at e eq sn
      cases d1 <;> simp only [reduceCtorEq] at e eq
      rename_i z
      split at e
      · rename_i hz
        cases e
        cases sn with
        | den w1 =>
          cases w1
          exact ⟨_, z.length, rfl, ⟨hz, rfl⟩, q _ H Nx.refl S (.int _)⟩
      · cases e
  · cases e
def gAbs : GF := fun ds _ => match ds with
  | [.int i] => some (.int (if i < 0 then -i else i))
  | _ => none
theorem cr_abs : CallR X (.builtin "abs") (rC X.K gAbs) := by
  refine CallR.imp call_abs fun xs H Q ⟨ρ, M, ds, d, S, r, e, q⟩ => ?_
  unfold gAbs at e
  split at e
  · cases e
    obtain ⟨x, rfl, r1⟩ := dens1 r
    cases r1
    exact ⟨_, rfl, q _ H Nx.refl S (.int _)⟩
  · cases e
def gInt : GF := fun ds _ => match ds with
  | [.int i] => some (.int i)
  | [.bl b] => some (.int (if b then 1 else 0))
  | _ => none
theorem cr_int : CallR X (.type "int") (rC X.K gInt) := by
  refine CallR.imp call_int1 fun xs H Q ⟨ρ, M, ds, d, S, r, e, q⟩ => ?_
  unfold gInt at e
  split at e
  · cases e
    obtain ⟨x, rfl, r1⟩ := dens1 r
    cases r1
    exact .inl ⟨_, rfl, q _ H Nx.refl S (.int _)⟩
  · cases e
    obtain ⟨x, rfl, r1⟩ := dens1 r
    cases r1
    exact .inr ⟨_, rfl, q _ H Nx.refl S (.int _)⟩
  · cases e

/-! ### list, tuple -/
def gList : GF := fun ds M => match ds with
  | [d] => (sqD M d).map .lst
  | _ => none
theorem cr_list : CallR X (.type "list") (rC X.K gList) := by
  refine CallR.imp call_list_of fun xs H Q ⟨ρ, M, ds, d, S, r, e, q⟩ => ?_
  unfold gList at e
  split at e
  · rename_i d0
    obtain ⟨x, rfl, r1⟩ := dens1 r
    cases eq : sqD M d0 with
    | none => rw [eq] at e; cases e
    | some ys =>
      rw [eq] at e
      cases e
      obtain ⟨a, vs, rfl, hs, hv⟩ := sqD_of S r1 eq
      exact ⟨a, vs, rfl, hs, fun l hl => q _ _ (Nx.new hl) (S.new hl) (.lst (frz_at (S.notin hl) upd_same) (hv.mono (Nx.new hl).ext))⟩
  · cases e
def gTuple : GF := fun ds M => match ds with
  | [d] => (sqD M d).map .tup
  | _ => none
theorem cr_tuple : CallR X (.type "tuple") (rC X.K gTuple) := by
  refine CallR.imp call_tuple_of fun xs H Q ⟨ρ, M, ds, d, S, r, e, q⟩ => ?_
  unfold gTuple at e
  split at e
  · rename_i d0
    obtain ⟨x, rfl, r1⟩ := dens1 r
    cases eq : sqD M d0 with
    | none => rw [eq] at e; cases e
    | some ys =>
      rw [eq] at e
      cases e
      have sn := seen_of S r1
      unfold sqD at eq
      generalize vw M d0 = d1 at sn eq
      cases sn with
      | den z =>
        cases z with
        | tup h z2 => cases eq; exact ⟨_, _, rfl, .inr ⟨same_sqT (frz_same ρ H) h, q _ _ Nx.refl S (.tup h z2)⟩⟩
        | lst h z2 => cases eq; exact ⟨_, _, rfl, .inl ⟨.of (frz_of h).2, fun l hl => q _ _ (Nx.new hl) (S.new hl) (.tup (.of (frz_at (S.notin hl) upd_same)) (z2.mono (Nx.new hl).ext))⟩⟩
        | rol h z2 => cases eq; exact ⟨_, _, rfl, .inl ⟨(frz_same ρ H).seq h, fun l hl => q _ _ (Nx.new hl) (S.new hl) (.tup (.of (frz_at (S.notin hl) upd_same)) (z2.mono (Nx.new hl).ext))⟩⟩
        | _ => cases eq
      | lst h z2 => cases eq; exact ⟨_, _, rfl, .inl ⟨.of h, fun l hl => q _ _ (Nx.new hl) (S.new hl) (.tup (.of (frz_at (S.notin hl) upd_same)) (z2.mono (Nx.new hl).ext))⟩⟩
  · cases e
end
end L2.MK

end

section
set_option Elab.async false
set_option linter.all false
set_option maxRecDepth 100000
set_option maxHeartbeats 1000000
set_option autoImplicit false
/-! Statements. -/
namespace L2.MK
open PySem PySem.Spec PyProof.Rows PySem.W

def sBind (f : EF) (g : D → SF) : SF := fun δ M => match f δ M with
  | .ok d M' => g d δ M'
  | .exc C fs M' => .exc C fs δ M'
  | .stuck => .stuck
def sBindB (f : BF) (g : Bool → SF) : SF := fun δ M => match f δ M with
  | .ok d M' => g d δ M'
  | .exc C fs M' => .exc C fs δ M'
  | .stuck => .stuck
section
variable {K : PySem.W.Frag} {W : WX} {ρ ρ1 : List (Option Addr)} {H H1 : Hp} {σ : St} {δ : Env} {M M1 : Sto}
theorem rd_bindS {f : EF} {g : D → SF} {E : Ends} (hE : DenE K ρ (frz ρ H) δ σ) (hS : StOk K ρ M H) (h : ResS K W ρ H E (sBind f g δ M)) :
    rd K W f σ H fun x H1 => ∃ ρ1 d M1, Nx ρ H ρ1 H1 ∧ DenE K ρ1 (frz ρ1 H1) δ σ ∧ StOk K ρ1 M1 H1 ∧ Den K ρ1 (frz ρ1 H1) d x ∧ ResS K W ρ1 H1 E (g d δ M1) := by
  refine ⟨ρ, δ, M, hE, hS, ?_⟩
  unfold sBind at h
  cases e : f δ M with
  | ok d M' =>
    rw [e] at h
    exact fun ρ' v H' n s r => ⟨ρ', d, M', n, hE.mono n.ext, s, r, ResS.nx n h⟩
  | exc C fs M' =>
    rw [e] at h
    exact fun ρ' d H' n s r => h ρ' d σ H' n s (hE.mono n.ext) r
  | stuck => rw [e] at h; exact h
theorem rdB_bindS {f : BF} {g : Bool → SF} {E : Ends} (hE : DenE K ρ (frz ρ H) δ σ) (hS : StOk K ρ M H) (h : ResS K W ρ H E (sBindB f g δ M)) :
    rdB K W f σ H fun b H1 => ∃ ρ1 M1, Nx ρ H ρ1 H1 ∧ DenE K ρ1 (frz ρ1 H1) δ σ ∧ StOk K ρ1 M1 H1 ∧ ResS K W ρ1 H1 E (g b δ M1) := by
  refine ⟨ρ, δ, M, hE, hS, ?_⟩
  unfold sBindB at h
  cases e : f δ M with
  | ok d M' =>
    rw [e] at h
    exact fun ρ' H' n s => ⟨ρ', M', n, hE.mono n.ext, s, ResS.nx n h⟩
  | exc C fs M' =>
    rw [e] at h
    exact fun ρ' d H' n s r => h ρ' d σ H' n s (hE.mono n.ext) r
  | stuck => rw [e] at h; exact h
end
section
variable {X : Cx} {W : WX}
def sSkip : SF := fun δ M => .nx δ M
def sSeq (f g : SF) : SF := fun δ M => match f δ M with
  | .nx δ' M' => g δ' M'
  | o => o
theorem pdss_nil : PDSs X W [] sSkip := pss_mono pss_nil fun σ H Q ⟨ρ, δ, M, hE, hS, h⟩ => h ρ σ H Nx.refl hS hE
/-- one statement, then others -/
theorem rdS_seq {K : PySem.W.Frag} {f g : SF} {E : Ends} {σ : St} {H : Hp} (h : rdS K W (sSeq f g) E σ H) : rdS K W f { E with nx := rdS K W g E } σ H := by
  obtain ⟨ρ, δ, M, hE, hS, h⟩ := h
  refine ⟨ρ, δ, M, hE, hS, ?_⟩
  unfold sSeq at h
  cases e : f δ M with
  | nx δ' M' => rw [e] at h; exact fun ρ' σ' H' n s r => ⟨ρ', δ', M', r, s, ResS.nx n h⟩
  | ret d M' => rw [e] at h; exact h
  | exc C fs δ' M' => rw [e] at h; exact h
  | stuck => rw [e] at h; exact h
theorem pdss_cons {st : Stmt} {rest : List Stmt} {f g : SF} (h1 : PDS X W st f) (h2 : PDSs X W rest g) : PDSs X W (st :: rest) (sSeq f g) := pss_mono (pss_cons h1 h2) fun σ H Q h => rdS_seq h
theorem pdss_one {st : Stmt} {f : SF} (h1 : PDS X W st f) : PDSs X W [st] f := pss_one h1
theorem pds_pass {pos : Pos} : PDS X W (.Pass pos) sSkip := ps_mono ps_pass fun σ H Q ⟨ρ, δ, M, hE, hS, h⟩ => h ρ σ H Nx.refl hS hE
def sExp (f : EF) : SF := sBind f fun _ => sSkip
theorem pds_expr {e : Expr} {f : EF} {pos : Pos} (he : PD X W e f) (hs : swapsWith e none pos.line X.env = pure false := by rfl) : PDS X W (.Expr e pos) (sExp f) := ps_mono (ps_expr he hs) fun σ H Q ⟨ρ, δ, M, hE, hS, h⟩ =>
  rd_mono (rd_bindS (f := f) (g := fun _ => sSkip) hE hS h) fun x H1 ⟨ρ1, d1, M1, n1, e1, s1, r1, h1⟩ => h1 ρ1 σ H1 Nx.refl s1 e1
def sRet (f : EF) : SF := sBind f fun d _ M => .ret d M
theorem pds_ret {e : Expr} {f : EF} {pos : Pos} (he : PD X W e f) : PDS X W (.Return (some e) pos) (sRet f) := ps_mono (ps_ret he) fun σ H Q ⟨ρ, δ, M, hE, hS, h⟩ =>
  rd_mono (rd_bindS (f := f) (g := fun d _ M => .ret d M) hE hS h) fun x H1 ⟨ρ1, d1, M1, n1, e1, s1, r1, h1⟩ => h1 ρ1 x H1 Nx.refl s1 r1
def sRetN : SF := fun _ M => .ret .non M
theorem pds_retN {pos : Pos} : PDS X W (.Return none pos) sRetN := ps_mono ps_retN fun σ H Q ⟨ρ, δ, M, hE, hS, h⟩ => h ρ .non H Nx.refl hS .non
def sIf (b : BF) (f g : SF) : SF := sBindB b fun k => if k = true then f else g
theorem pds_if {c : Expr} {a b : List Stmt} {fb : BF} {f g : SF} {pos : Pos} (hc : PDB X W c fb) (ha : PDSs X W a f) (hb : PDSs X W b g) : PDS X W (.If c a b pos) (sIf fb f g) := ps_mono (ps_if hc ha hb) fun σ H Q ⟨ρ, δ, M, hE, hS, h⟩ =>
  rdB_mono (rdB_bindS (f := fb) (g := fun k => if k = true then f else g) hE hS h) fun k H1 ⟨ρ1, M1, n1, e1, s1, h1⟩ => by
    cases k with
    | true => rw [if_pos rfl]; exact ⟨ρ1, δ, M1, e1, s1, h1⟩
    | false => rw [if_neg Bool.false_ne_true]; exact ⟨ρ1, δ, M1, e1, s1, h1⟩

/-! ### targets -/
def endsOf (Q : St → Hp → Prop) : Ends := { nx := Q, rt := fun _ _ => False }
def rdG (K : PySem.W.Frag) (W : WX) (g : D → SF) : TG := fun v σ H Q => ∃ ρ δ M d, DenE K ρ (frz ρ H) δ σ ∧ StOk K ρ M H ∧ Den K ρ (frz ρ H) d v ∧ ResS K W ρ H (endsOf Q) (g d δ M)
def rdGs (K : PySem.W.Frag) (W : WX) (g : List D → SF) : TGs := fun vs σ H Q => ∃ ρ δ M ds, DenE K ρ (frz ρ H) δ σ ∧ StOk K ρ M H ∧ Dens K ρ (frz ρ H) ds vs ∧ ResS K W ρ H (endsOf Q) (g ds δ M)
abbrev PDG (X : Cx) (W : WX) (tg : Expr) (g : D → SF) : Prop := PG X tg (rdG X.K W g)
abbrev PDGs (X : Cx) (W : WX) (tgs : List Expr) (g : List D → SF) : Prop := PGs X tgs (rdGs X.K W g)
theorem pg_mono {tg : Expr} {t t' : TG} (h : PG X tg t) (m : ∀ v σ H Q, t' v σ H Q → t v σ H Q) : PG X tg t' := ⟨fun pins s σ H v u Q I r q => h.run pins s σ H v u Q I r (m v σ H Q q)⟩
theorem pgs_mono {tg : List Expr} {t t' : TGs} (h : PGs X tg t) (m : ∀ v σ H Q, t' v σ H Q → t v σ H Q) : PGs X tg t' := ⟨fun pins s σ H v u Q I r q => h.run pins s σ H v u Q I r (m v σ H Q q)⟩
theorem pg_or {tg : Expr} {t t' : TG} (h : PG X tg t) (h' : PG X tg t') : PG X tg (fun v σ H Q => t v σ H Q ∨ t' v σ H Q) := ⟨fun pins s σ H v u Q I r q => q.elim (fun z => h.run pins s σ H v u Q I r z) fun z => h'.run pins s σ H v u Q I r z⟩
def gN (i : Nat) : D → SF := fun d δ M => .nx (δ.set i (some d)) M
theorem pdg_name {i : Nat} {x : Str} {pos : Pos} (hN : X.N.Nodup) (hi : X.N[i]? = some x) (hx : Loc X.env.scope x) (hf : X.fn x = true ∨ X.env.scope.names.lookup x = some .local := by first | exact .inl rfl | exact .inr rfl | assumption) : PDG X W (.Name x pos) (gN i) :=
  pg_mono (pg_name hN hi hx hf) fun v σ H Q ⟨ρ, δ, M, d, hE, hS, r, h⟩ => h ρ _ H Nx.refl hS (hE.set r i)
def gNils : List D → SF := fun ds δ M => match ds with
  | [] => .nx δ M
  | _ => .stuck
def gConss (g : D → SF) (gs : List D → SF) : List D → SF := fun ds => match ds with
  | d :: r => sSeq (g d) (gs r)
  | [] => fun _ _ => .stuck
theorem pdgs_nil : PDGs X W [] gNils := pgs_mono pgs_nil fun vs σ H Q ⟨ρ, δ, M, ds, hE, hS, r, h⟩ => by
  cases r with
  | nil => exact ⟨rfl, h ρ σ H Nx.refl hS hE⟩
  | cons _ _ => exact h.elim
theorem pdgs_cons {e : Expr} {es : List Expr} {g : D → SF} {gs : List D → SF} (h1 : PDG X W e g) (h2 : PDGs X W es gs)
    (hx : (assignEach (e :: es) X.env).map (·.2) = assign e X.env :: (assignEach es X.env).map (·.2) := by rfl) : PDGs X W (e :: es) (gConss g gs) :=
  pgs_mono (pgs_cons h1 h2 hx) fun vs σ H Q ⟨ρ, δ, M, ds, hE, hS, r, h⟩ => by
    cases r with
    | nil => exact h.elim
    | @cons d v ds' vs' r1 r2 =>
      refine ⟨v, vs', rfl, ρ, δ, M, d, hE, hS, r1, ?_⟩
      have h : ResS X.K W ρ H (endsOf Q) (sSeq (g d) (gs ds') δ M) := h
      unfold sSeq at h
      cases e : g d δ M with
      | nx δ' M' => rw [e] at h; exact fun ρ' σ' H' n s z => ⟨ρ', δ', M', ds', z, s, r2.mono n.ext, ResS.nx n h⟩
      | ret d' M' =>
        rw [e] at h
        exact h
      | exc C fs δ' M' => rw [e] at h; exact h
      | stuck => rw [e] at h; exact h
def gTupD (n : Nat) (gs : List D → SF) : D → SF := fun d δ M => match sqD M d with
  | some ys => if ys.length = n then gs ys δ M else .stuck
  | none => .stuck
theorem pdg_tup {es : List Expr} {k n : Nat} {gs : List D → SF} {pos : Pos} (hc : X.calm = true) (h : PDGs X W es gs)
    (hn : (assignEach es X.env).length = n := by rfl) (hst : (assignEach es X.env).findIdx? (·.1) = none := by rfl) : PDG X W (.Tuple es k pos) (gTupD n gs) :=
  pg_mono (pg_or (pg_unl hc h hn hst) (pg_tup hc h hn hst)) fun v σ H Q ⟨ρ, δ, M, d, hE, hS, r, q⟩ => by
    unfold gTupD at q
    cases e : sqD M d with
    | none => rw [e] at q; exact q.elim
    | some ys =>
      rw [e] at q
      have q : ResS X.K W ρ H (endsOf Q) (if ys.length = n then gs ys δ M else .stuck) := q
      by_cases hl : ys.length = n
      · rw [if_pos hl] at q
        obtain ⟨a, vs, rfl, hs, hv⟩ := sqD_of hS r e
        rcases hs with hs | hs
        · exact .inl ⟨a, vs, rfl, hs, by rw [← hv.length]; exact hl, ρ, δ, M, ys, hE, hS, hv, q⟩
        · exact .inr ⟨a, vs, rfl, hs, by rw [← hv.length]; exact hl, ρ, δ, M, ys, hE, hS, hv, q⟩
      · rw [if_neg hl] at q; exact q.elim
/-- a store gives nothing back -/
def noRet : SO → SO
  | .ret _ _ => .stuck
  | o => o
theorem noRet_of {K : PySem.W.Frag} {W : WX} {ρ : List (Option Addr)} {H : Hp} {E : Ends} {o : SO} (h : ResS K W ρ H E (noRet o)) : ResS K W ρ H (endsOf E.nx) o := by
  cases o with
  | nx δ M => exact h
  | ret d M => exact h.elim
  | exc C fs δ M => exact h
  | stuck => exact h
def sAsg (f : EF) (g : D → SF) : SF := sBind f fun d δ M => noRet (g d δ M)
theorem pds_asg {tg e : Expr} {f : EF} {g : D → SF} {pos : Pos} (he : PD X W e f) (hg : PDG X W tg g) (hs : swapsWithSole [tg] e pos.line X.env = pure false := by rfl) (hw : swappedStores [tg] e X.env = pure none := by rfl)
    (h1 : (assignEach [tg] X.env).map (·.2) = [assign tg X.env] := by rfl) : PDS X W (.Assign [tg] e pos) (sAsg f g) := ps_mono (ps_asg he hg hs hw h1) fun σ H Q ⟨ρ, δ, M, hE, hS, h⟩ =>
  rd_mono (rd_bindS (f := f) (g := fun d δ M => noRet (g d δ M)) hE hS h) fun x H1 ⟨ρ1, d1, M1, n1, e1, s1, r1, h1⟩ => ⟨ρ1, δ, M1, d1, e1, s1, r1, noRet_of h1⟩
theorem pds_set {i : Nat} {x : Str} {e : Expr} {f : EF} {pos pos' : Pos} (hN : X.N.Nodup) (hi : X.N[i]? = some x) (hx : Loc X.env.scope x) (he : PD X W e f) (hs : swapsWith e (some (.Name x pos')) pos.line X.env = pure false := by rfl)
    (hf : X.fn x = true ∨ X.env.scope.names.lookup x = some .local := by first | exact .inl rfl | exact .inr rfl | assumption) : PDS X W (.Assign [.Name x pos'] e pos) (sAsg f (gN i)) := ps_mono (ps_set hN hi hx he hs hf) fun σ H Q ⟨ρ, δ, M, hE, hS, h⟩ =>
  rd_mono (rd_bindS (f := f) (g := fun d δ M => noRet (gN i d δ M)) hE hS h) fun x H1 ⟨ρ1, d1, M1, n1, e1, s1, r1, h1⟩ => h1 ρ1 _ H1 Nx.refl s1 (e1.set r1 i)
end
end L2.MK

end

section
set_option Elab.async false
set_option linter.all false
set_option maxRecDepth 100000
set_option maxHeartbeats 1000000
set_option autoImplicit false
/-! Stores into lists and dicts, methods, loops. -/
namespace L2.MK
open PySem PySem.Spec PyProof.Rows PySem.W

def valG {κ α : Type} [DecidableEq κ] (kvs : List (κ × α)) (k : κ) : Option α := (kvs.find? fun kv => decide (kv.1 = k)).map (·.2)
def putG {κ α : Type} [DecidableEq κ] (kvs : List (κ × α)) (k : κ) (v : α) : List (κ × α) :=
  if (kvs.any fun kv => decide (kv.1 = k)) = true then kvs.map (fun kv => if kv.1 = k then (kv.1, v) else kv) else kvs ++ [(k, v)]
theorem valG_pos {κ α : Type} [DecidableEq κ] {p : κ × α} {r : List (κ × α)} {k : κ} (e : p.1 = k) : valG (p :: r) k = some p.2 := by simp [valG, List.find?_cons, e]
theorem valG_neg {κ α : Type} [DecidableEq κ] {p : κ × α} {r : List (κ × α)} {k : κ} (e : ¬ p.1 = k) : valG (p :: r) k = valG r k := by simp [valG, List.find?_cons, e]
/-- a key -/
def keyD : D → Option Key
  | .int i => some (.inl i)
  | .str x => some (.inr x)
  | _ => none
section
variable {K : PySem.W.Frag} {ρ : List (Option Addr)} {H : Hp} {M : Sto} {Φ : Hp}
theorem keyD_of {d : D} {k : Key} {v : V} (r : Den K ρ Φ d v) (e : keyD d = some k) : v = kV k := by
  cases r <;> simp only [keyD, Option.some.injEq, reduceCtorEq] at e <;> subst e <;> rfl
theorem DenK.val : ∀ {ds : List (Key × D)} {vs : List (Key × V)} (k : Key), DenK K ρ Φ ds vs → (∃ d v, valG ds k = some d ∧ valV vs k = some v ∧ Den K ρ Φ d v) ∨ (valG ds k = none ∧ valV vs k = none)
  | [], [], k, _ => .inr ⟨rfl, rfl⟩
  | (j, d) :: r, (l, v) :: s, k, ⟨e, h, t⟩ => by
    subst e
    by_cases q : j = k
    · exact .inl ⟨d, v, valG_pos (p := (j, d)) q, valV_pos (p := (j, v)) q, h⟩
    · rw [valG_neg (p := (j, d)) q, valV_neg (p := (j, v)) q]
      exact DenK.val k t
  | [], _ :: _, _, h => h.elim
  | _ :: _, [], _, h => h.elim
theorem DenK.length : ∀ {ds : List (Key × D)} {vs : List (Key × V)}, DenK K ρ Φ ds vs → ds.length = vs.length
  | [], [], _ => rfl
  | (j, d) :: r, (l, v) :: s, ⟨_, _, t⟩ => congrArg (· + 1) (DenK.length t)
  | [], _ :: _, h => h.elim
  | _ :: _, [], h => h.elim
theorem DenK.app : ∀ {ds es : List (Key × D)} {vs ws : List (Key × V)}, DenK K ρ Φ ds vs → DenK K ρ Φ es ws → DenK K ρ Φ (ds ++ es) (vs ++ ws)
  | [], _, [], _, _, h => h
  | (j, d) :: r, _, (l, v) :: s, _, ⟨a, b, t⟩, h => ⟨a, b, DenK.app t h⟩
  | [], _, _ :: _, _, h, _ => h.elim
  | _ :: _, _, [], _, h, _ => h.elim
theorem DenK.any (k : Key) : ∀ {ds : List (Key × D)} {vs : List (Key × V)}, DenK K ρ Φ ds vs → (ds.any fun kv => decide (kv.1 = k)) = (vs.any fun kv => decide (kv.1 = k))
  | [], [], _ => rfl
  | (j, d) :: r, (l, v) :: s, ⟨a, b, t⟩ => by
    subst a
    rw [List.any_cons, List.any_cons, DenK.any k t]
  | [], _ :: _, h => h.elim
  | _ :: _, [], h => h.elim
theorem DenK.rep {d : D} {v : V} (k : Key) (r : Den K ρ Φ d v) : ∀ {ds : List (Key × D)} {vs : List (Key × V)}, DenK K ρ Φ ds vs → DenK K ρ Φ (ds.map fun kv => if kv.1 = k then (kv.1, d) else kv) (vs.map fun kv => if kv.1 = k then (kv.1, v) else kv)
  | [], [], _ => trivial
  | (j, d') :: r', (l, v') :: s, ⟨a, b, t⟩ => by
    subst a
    rw [List.map_cons, List.map_cons]
    by_cases q : j = k
    · rw [if_pos q, if_pos q]; exact ⟨rfl, r, DenK.rep k r t⟩
    · rw [if_neg q, if_neg q]; exact ⟨rfl, b, DenK.rep k r t⟩
  | [], _ :: _, h => h.elim
  | _ :: _, [], h => h.elim
theorem DenK.put {d : D} {v : V} (k : Key) (r : Den K ρ Φ d v) {ds : List (Key × D)} {vs : List (Key × V)} (h : DenK K ρ Φ ds vs) : DenK K ρ Φ (putG ds k d) (putK vs k v) := by
  unfold putG putK
  rw [h.any k]
  split
  · exact h.rep k r
  · exact h.app ⟨rfl, r, trivial⟩
/-- the list at a place of the store -/
theorem lst_at (S : StOk K ρ M H) {i : Nat} {v : V} {xs : List D} (r : Den K ρ (frz ρ H) (.ref i) v) (e : M[i]? = some (.lst xs)) : ∃ a vs, v = .ref a ∧ ρ[i]? = some (some a) ∧ H a = some (.lst vs) ∧ Dens K ρ (frz ρ H) xs vs := by
  cases r with
  | @ref i a h =>
    obtain ⟨m, h1, h2⟩ := S.at_ i a h
    rw [e] at h1
    cases h1
    obtain ⟨vs, h3, h4⟩ := h2
    exact ⟨a, vs, rfl, h, h3, h4⟩
theorem dct_at (S : StOk K ρ M H) {i : Nat} {v : V} {xs : List (Key × D)} (r : Den K ρ (frz ρ H) (.ref i) v) (e : M[i]? = some (.dK xs)) : ∃ a vs, v = .ref a ∧ ρ[i]? = some (some a) ∧ H a = some (.dK vs) ∧ DenK K ρ (frz ρ H) xs vs := by
  cases r with
  | @ref i a h =>
    obtain ⟨m, h1, h2⟩ := S.at_ i a h
    rw [e] at h1
    cases h1
    obtain ⟨vs, h3, h4⟩ := h2
    exact ⟨a, vs, rfl, h, h3, h4⟩
end

/-! ### o[i] = v -/
def stI (o i v : D) : Sto → Option Sto := fun M => match o with
  | .ref j => (match M[j]?, i with
    | some (.lst xs), .int k => (ixN xs.length k).map fun p => M.set j (.lst (xs.set p v))
    | some (.dK kvs), i => (match keyD i with
      | some k => if kvs.length < sizeLine then some (M.set j (.dK (putG kvs k v))) else none
      | none => none)
    | _, _ => none)
  | _ => none
def gSubD (fo fi : EF) : D → SF := fun v => sBind fo fun o => sBind fi fun i => fun δ M => match stI o i v M with
  | some M' => .nx δ M'
  | none => .stuck
section
variable {X : Cx} {W : WX}
theorem pset_or {t t' : TSet} (h : PSet X t) (h' : PSet X t') : PSet X (fun o i v H Q => t o i v H Q ∨ t' o i v H Q) := fun pins s σ H o i v ov iv u Q I r1 r2 r3 q => q.elim (fun z => h pins s σ H o i v ov iv u Q I r1 r2 r3 z) fun z => h' pins s σ H o i v ov iv u Q I r1 r2 r3 z
theorem stI_of {K : PySem.W.Frag} {ρ : List (Option Addr)} {H : Hp} {M M' : Sto} {o i v : D} {x y z : V} {Q : Hp → Prop} (S : StOk K ρ M H) (ro : Den K ρ (frz ρ H) o x) (ri : Den K ρ (frz ρ H) i y) (rv : Den K ρ (frz ρ H) v z) (e : stI o i v M = some M')
    (h : ∀ H', Nx ρ H ρ H' → StOk K ρ M' H' → Q H') : rSetL x y z H Q ∨ rSetD x y z H Q := by
  unfold stI at e
  split at e
  · rename_i j
    split at e
    · rename_i xs k e1
      cases e2 : ixN xs.length k with
      | none => rw [e2] at e; cases e
      | some p =>
        rw [e2] at e
        cases e
        obtain ⟨a, vs, rfl, h1, h2, h3⟩ := lst_at S ro e1
        cases ri
        have n := Nx.write (H := H) (o := .lst (vs.set p z)) h1 (fun φ q => by rw [h2] at q; cases q)
        exact .inl ⟨a, vs, k, p, rfl, rfl, h2, by rw [← h3.length]; exact e2, h _ n (S.write h1 (fun φ q => by rw [h2] at q; cases q) ⟨_, upd_same, Dens.set (rv.mono n.ext) p (h3.mono n.ext)⟩)⟩
    · rename_i i2 _ _ kvs e1
      cases e2 : keyD i2 with
      | none => rw [e2] at e; cases e
      | some k =>
        rw [e2] at e
        simp only at e
        split at e
        · rename_i hl
          cases e
          obtain ⟨a, vs, rfl, h1, h2, h3⟩ := dct_at S ro e1
          have ey := keyD_of ri e2
          subst ey
          have n := Nx.write (H := H) (o := .dK (putK vs k z)) h1 (fun φ q => by rw [h2] at q; cases q)
          exact .inr ⟨a, _, rfl, DPut.k h2 (by rw [← h3.length]; exact hl), h _ n (S.write h1 (fun φ q => by rw [h2] at q; cases q) ⟨_, upd_same, (h3.mono n.ext).put k (rv.mono n.ext)⟩)⟩
        · cases e
    · cases e
  · cases e
theorem pdg_sub {o i : Expr} {fo fi : EF} {pos : Pos} (hu : X.A.units + 1 < cLine) (ho : PD X W o fo) (hi : PD X W i fi)
    (ha : ∀ v, assign (.Subscript o i pos) X.env v = (do
      let ov ← holding [v] (eval o X.env)
      let iv ← holding [v, ov] (eval i X.env)
      standAt pos
      holding [v, ov, iv] (setItem ov iv v)
      release [v, ov, iv] []) := by intro _; rfl) : PDG X W (.Subscript o i pos) (gSubD fo fi) :=
  pg_mono (pg_sub ho hi (pset_or set_list (set_dict hu)) ha) fun v σ H Q ⟨ρ, δ, M, d, hE, hS, r, h⟩ =>
    rd_mono (rd_bindS (f := fo) (g := fun o => sBind fi fun i => fun δ M => match stI o i d M with
      | some M' => .nx δ M'
      | none => .stuck) hE hS h) fun x H1 ⟨ρ1, d1, M1, n1, e1, s1, r1, h1⟩ =>
      rd_mono (rd_bindS (f := fi) (g := fun i => fun δ M => match stI d1 i d M with
        | some M' => .nx δ M'
        | none => .stuck) e1 s1 h1) fun y H2 ⟨ρ2, d2, M2, n2, e2, s2, r2, h2⟩ => by
        cases e : stI d1 d2 d M2 with
        | none => simp only [e] at h2; exact h2.elim
        | some M3 =>
          simp only [e] at h2
          exact stI_of s2 (r1.mono n2.ext) r2 ((r.mono n1.ext).mono n2.ext) e fun H3 n3 s3 => h2 ρ2 σ H3 n3 s3 (e2.mono n3.ext)
end

/-! ### methods of built-ins -/
def tyOkD (T : String) (M : Sto) (o : D) : Bool := match o with
  | .str _ => T == "str"
  | o => match lvw M o with
    | some _ => T == "list"
    | none => false
abbrev MF := D → List D → Sto → Option (D × Sto)
def rM (K : PySem.W.Frag) (g : MF) : V → List V → Hp → VK → Prop := fun x xs H Q => ∃ ρ M o ds d M', StOk K ρ M H ∧ Den K ρ (frz ρ H) o x ∧ Dens K ρ (frz ρ H) ds xs ∧ g o ds M = some (d, M') ∧ ∀ v H', Nx ρ H ρ H' → StOk K ρ M' H' → Den K ρ (frz ρ H') d v → Q v H'
def evTy (T : String) (o : D) : Ev Unit := fun M => if tyOkD T M o = true then .ok () M else .stuck
def evM (g : MF) (o : D) (ds : List D) : Ev D := fun M => match g o ds M with
  | some (d, M') => .ok d M'
  | none => .stuck
def eMeth (T : String) (g : MF) (fo : EF) (fa : AF) : EF := fun δ => fo δ >>= fun o => evTy T o >>= fun _ => fa δ >>= fun ds => evM g o ds
section
variable {X : Cx} {W : WX}
theorem tyOk_of {K : PySem.W.Frag} {ρ : List (Option Addr)} {H : Hp} {M : Sto} {o : D} {x : V} {T : String} (S : StOk K ρ M H) (r : Den K ρ (frz ρ H) o x) (e : tyOkD T M o = true) : tyV K T x H := by
  unfold tyOkD at e
  split at e
  · cases r
    exact eq_of_beq e
  · rename_i o'
    cases q : lvw M o with
    | none => rw [q] at e; cases e
    | some ys =>
      rw [q] at e
      obtain ⟨a, vs, rfl, h1, _⟩ := lvw_of S r q
      exact .inl ⟨eq_of_beq e, vs, .of h1⟩
theorem meth_of {K : PySem.W.Frag} {T : String} {g : MF} {fo : EF} {fa : AF} {σ : St} {H : Hp} {Q : VK} (h : rd K W (eMeth T g fo fa) σ H Q) : tBM K T (rM K g) (rd K W fo) (rdA K W fa) σ H Q := by
  obtain ⟨ρ, δ, M, hE, hS, h⟩ := h
  refine rd_mono (rd_bind (f := fo) (g := fun o => evTy T o >>= fun _ => fa δ >>= fun ds => evM g o ds) hE hS h) fun x H1 ⟨ρ1, d1, M1, n1, e1, s1, r1, h1⟩ => ?_
  rw [Ev.bind_run] at h1
  unfold evTy at h1
  by_cases ty : tyOkD T M1 d1 = true
  · rw [if_pos ty] at h1
    refine ⟨tyOk_of s1 r1 ty, rdA_mono (rdA_bind (f := fa) (g := fun ds => evM g d1 ds) e1 s1 h1) fun xs H2 ⟨ρ2, ds, M2, n2, e2, s2, r2, h2⟩ => ?_⟩
    unfold evM at h2
    cases e : g d1 ds M2 with
    | none => rw [e] at h2; exact h2.elim
    | some p => rw [e] at h2; exact ⟨ρ2, M2, d1, ds, p.1, p.2, s2, r1.mono n2.ext, r2, e, fun v H' n s r => h2 ρ2 v H' n s r⟩
  · rw [if_neg ty] at h1; exact h1.elim
theorem MtR.imp' {id : String} {r r' : V → List V → Hp → VK → Prop} (h : MtR X id r) (m : ∀ x xs H Q, r' x xs H Q → r x xs H Q) : MtR X id r' := fun pins s σ H x xs v us Q I r1 r2 q => h pins s σ H x xs v us Q I r1 r2 (m _ _ _ _ q)
theorem pd_meth {o e : Expr} {es : List Expr} {fo : EF} {fa : AF} {g : MF} {name : Str} {apos cpos : Pos} {T id : String} (pa : PlainAttrs T) (slot : Slot T name id) (hty : typeOf (.builtin id) = pure (.type "method_descriptor")) (hm : MtR X id (rM X.K g)) (ho : PD X W o fo) (ha : PDA X W (e :: es) fa)
    (hbase : attributeBase o name X.env (eval o X.env) = eval o X.env := by rfl)
    (hfew : ((backTo cpos (starEach (e :: es) X.env)).all (fun x => !x.1) && (backToKw cpos (keywordEach [] X.env)).all (fun x => x.1.isSome)
      && decide ((e :: es).length + ([] : List Keyword).length + (if ([] : List Keyword).isEmpty then 0 else 1) < 30)) = true := by rfl)
    (hline : (apos.endLine == cpos.line) = true := by rfl) (hs : starEach (e :: es) X.env = (false, eval e X.env) :: starEach es X.env := by rfl) (hplain : (backTo cpos (starEach es X.env)).any (·.1) = false := by rfl) :
    PD X W (.Call (.Attribute o name apos) (e :: es) [] cpos) (eMeth T g fo fa) := pe_mono (pe_bm pa slot hty hm ho ha hbase hfew hline hs hplain) fun _ _ _ h => meth_of h
def gAppend : MF := fun o ds M => match o, ds with
  | .ref i, [d] => (match M[i]? with
    | some (.lst xs) => if xs.length < sizeLine then some (.non, M.set i (.lst (xs ++ [d]))) else none
    | _ => none)
  | _, _ => none
theorem mr_append : MtR X "list.append" (rM X.K gAppend) := MtR.imp' mt_append fun x xs H Q ⟨ρ, M, o, ds, d, M', S, ro, rs, e, q⟩ => by
  unfold gAppend at e
  split at e
  · rename_i i d0
    split at e
    · rename_i ys e1
      split at e
      · rename_i hl
        cases e
        obtain ⟨a, vs, rfl, h1, h2, h3⟩ := lst_at S ro e1
        obtain ⟨y, rfl, r1⟩ := dens1 rs
        have n := Nx.write (H := H) (o := .lst (vs ++ [y])) h1 (fun φ q => by rw [h2] at q; cases q)
        exact ⟨a, vs, y, rfl, rfl, h2, by rw [← h3.length]; exact hl, q _ _ n (S.write h1 (fun φ q => by rw [h2] at q; cases q) ⟨_, upd_same, (h3.mono n.ext).append (.cons (r1.mono n.ext) .nil)⟩) .non⟩
      · cases e
    · cases e
  · cases e
def gInsert : MF := fun o ds M => match o, ds with
  | .ref i, [.int k, d] => (match M[i]? with
    | some (.lst xs) => if xs.length < sizeLine ∧ 0 ≤ k ∧ k < 2 ^ 63 then some (.non, M.set i (.lst (xs.take k.toNat ++ [d] ++ xs.drop k.toNat))) else none
    | _ => none)
  | _, _ => none
theorem mr_insert : MtR X "list.insert" (rM X.K gInsert) := MtR.imp' mt_insert fun x xs H Q ⟨ρ, M, o, ds, d, M', S, ro, rs, e, q⟩ => by
  unfold gInsert at e
  split at e
  · rename_i i k d0
    split at e
    · rename_i ys e1
      split at e
      · rename_i hl
        cases e
        obtain ⟨a, vs, rfl, h1, h2, h3⟩ := lst_at S ro e1
        obtain ⟨y, z, rfl, r0, r1⟩ := dens2 rs
        cases r0
        have n := Nx.write (H := H) (o := .lst (vs.take k.toNat ++ [z] ++ vs.drop k.toNat)) h1 (fun φ q => by rw [h2] at q; cases q)
        have h4 := h3.mono n.ext
        exact ⟨a, vs, k, z, rfl, rfl, h2, by rw [← h3.length]; exact hl.1, hl.2.1, hl.2.2, q _ _ n (S.write h1 (fun φ q => by rw [h2] at q; cases q) ⟨_, upd_same, ((h4.take _).append (.cons (r1.mono n.ext) .nil)).append (h4.drop _)⟩) .non⟩
      · cases e
    · cases e
  · cases e
/-- texts -/
def strsD : List D → Option (List Str)
  | [] => some []
  | .str x :: r => (strsD r).map (x :: ·)
  | _ => none
theorem strsD_of {K : PySem.W.Frag} {ρ : List (Option Addr)} {Φ : Hp} : ∀ {ds : List D} {vs : List V} {xs : List Str}, Dens K ρ Φ ds vs → strsD ds = some xs → vs = xs.map V.str
  | _, _, _, .nil, e => by cases e; rfl
  | d :: ds, _, xs, .cons r1 r2, e => by
    cases r1 <;> simp only [strsD, reduceCtorEq] at e
    cases q : strsD ds with
    | none => rw [q] at e; cases e
    | some ys => rw [q] at e; cases e; rw [strsD_of r2 q]; rfl
def gJoin : MF := fun o ds M => match o, ds with
  | .str a, [d] => (match (sqD M d).bind strsD with
    | some ys => if (ys.map (·.length)).sum + ys.length * a.length ≤ 16777216 then some (.str (Txt.join a ys), M) else none
    | none => none)
  | _, _ => none
theorem mr_join : MtR X "str.join" (rM X.K gJoin) := MtR.imp' mt_join fun x xs H Q ⟨ρ, M, o, ds, d, M', S, ro, rs, e, q⟩ => by
  unfold gJoin at e
  split at e
  · rename_i a d0
    cases e1 : sqD M d0 with
    | none => rw [e1] at e; cases e
    | some zs =>
      rw [e1] at e
      cases e2 : strsD zs with
      | none => simp [e2] at e
      | some ys =>
        have e : (if (ys.map (·.length)).sum + ys.length * a.length ≤ 16777216 then some (D.str (Txt.join a ys), M) else none) = some (d, M') := by simpa [e2] using e
        split at e
        · rename_i hz
          cases e
          cases ro
          obtain ⟨y, rfl, r1⟩ := dens1 rs
          obtain ⟨p, vs, rfl, hs, hv⟩ := sqD_of S r1 e1
          rw [strsD_of hv e2] at hs
          exact ⟨a, p, ys, rfl, rfl, hs, hz, q _ _ Nx.refl S (.str _)⟩
        · cases e
  · cases e
end
end L2.MK

end

section
set_option Elab.async false
set_option linter.all false
set_option maxRecDepth 100000
set_option maxHeartbeats 1000000
set_option autoImplicit false
/-! Loops. -/
namespace L2.MK
open PySem PySem.Spec PyProof.Rows PySem.W

/-- at turn i: none: not told; some none: the end; some (some d): d -/
abbrev ID := Sto → Nat → Option (Option D)
def ItOk (K : PySem.W.Frag) (ρ0 : List (Option Addr)) (H0 : Hp) (it : ID) (J : It) : Prop := ∀ (i : Nat) (ρ : List (Option Addr)) (H : Hp) (M : Sto), Ext ρ0 ρ (frz ρ0 H0) (frz ρ H) → StOk K ρ M H →
  (it M i = some none → J.stop i H) ∧ ∀ d, it M i = some (some d) → J.go i H ∧ ∀ x H', J.yld i H x H' → Nx ρ H ρ H' ∧ StOk K ρ M H' ∧ Den K ρ (frz ρ H') d x
abbrev IF := Env → Ev (Nat × ID)
def ResI (K : PySem.W.Frag) (W' : Value → Option Addr → Hp → Prop) (ρ : List (Option Addr)) (H : Hp) (R : It → Hp → Prop) : Out (Nat × ID) → Prop
  | .ok p M' => ∀ ρ' J H', Nx ρ H ρ' H' → StOk K ρ' M' H' → ItOk K ρ' H' p.2 J → R J H'
  | .exc C fs M' => ∀ ρ' d H', Nx ρ H ρ' H' → StOk K ρ' M' H' → ExD K ρ' (frz ρ' H') fs d → W' (.ref (He.ga K C)) d H'
  | .stuck => False
def rdI (K : PySem.W.Frag) (W : WX) (f : IF) : TI := fun σ H R => ∃ ρ δ M, DenE K ρ (frz ρ H) δ σ ∧ StOk K ρ M H ∧ ResI K (fun c d H' => W c d σ H') ρ H R (f δ M)
def PDI (X : Cx) (W : WX) (tg iter : Expr) (f : IF) : Prop := PI X tg iter (rdI X.K W f)
theorem pi_mono {X : Cx} {tg e : Expr} {t t' : TI} (h : PI X tg e t) (m : ∀ σ H R, t' σ H R → t σ H R) : PI X tg e t' := ⟨fun pins s σ H R I q => h.run pins s σ H R I (m σ H R q)⟩
theorem pi_or {X : Cx} {tg e : Expr} {t t' : TI} (h : PI X tg e t) (h' : PI X tg e t') : PI X tg e (fun σ H R => t σ H R ∨ t' σ H R) := ⟨fun pins s σ H R I q => q.elim (fun z => h.run pins s σ H R I z) fun z => h'.run pins s σ H R I z⟩
/-- the turns -/
def forD (it : ID) (g : D → SF) (b : SF) : Nat → Nat → SF
  | 0, i => fun δ M => match it M i with
    | some none => .nx δ M
    | _ => .stuck
  | r + 1, i => fun δ M => match it M i with
    | some (some d) => (match noRet (g d δ M) with
      | .nx δ1 M1 => (match b δ1 M1 with
        | .nx δ2 M2 => forD it g b r (i + 1) δ2 M2
        | o => o)
      | o => o)
    | some none => .nx δ M
    | none => .stuck
def sFor (f : IF) (g : D → SF) (b : SF) : SF := fun δ M => match f δ M with
  | .ok p M' => forD p.2 g b p.1 0 δ M'
  | .exc C fs M' => .exc C fs δ M'
  | .stuck => .stuck
theorem for_of {K : PySem.W.Frag} {W : WX} {f : IF} {g : D → SF} {b : SF} {σ : St} {H : Hp} {E : Ends} (h : rdS K W (sFor f g b) E σ H) : tFor (rdI K W f) (rdG K W g) (rdS K W b) E σ H := by
  obtain ⟨ρ, δ, M, hE, hS, h⟩ := h
  refine ⟨ρ, δ, M, hE, hS, ?_⟩
  unfold sFor at h
  cases e : f δ M with
  | stuck => rw [e] at h; exact h
  | exc C fs M' => rw [e] at h; exact fun ρ' d H' n s r => h ρ' d σ H' n s (hE.mono n.ext) r
  | ok p M' =>
    rw [e] at h
    intro ρ1 J H1 n1 s1 ok
    have h : ResS K W ρ1 H1 E (forD p.2 g b p.1 0 δ M') := ResS.nx n1 h
    refine ⟨fun i m σ H => ∃ r ρ δ M, m = r ∧ Nx ρ1 H1 ρ H ∧ DenE K ρ (frz ρ H) δ σ ∧ StOk K ρ M H ∧ ResS K W ρ H E (forD p.2 g b r i δ M), ⟨p.1, p.1, ρ1, δ, M', rfl, Nx.refl, hE.mono n1.ext, s1, h⟩, ?_⟩
    rintro i m σ2 H2 ⟨r, ρ2, δ2, M2, rfl, n2, e2, s2, h2⟩
    obtain ⟨o1, o2⟩ := ok i ρ2 H2 M2 n2.ext s2
    cases q : p.2 M2 i with
    | none =>
      cases m <;> (unfold forD at h2; rw [q] at h2; exact h2.elim)
    | some z =>
      cases z with
      | none =>
        refine .inl ⟨o1 q, ?_⟩
        cases m <;> (unfold forD at h2; rw [q] at h2; exact h2 ρ2 σ2 H2 Nx.refl s2 e2)
      | some d =>
        cases m with
        | zero => unfold forD at h2; rw [q] at h2; exact h2.elim
        | succ m =>
          unfold forD at h2
          rw [q] at h2
          obtain ⟨go, yl⟩ := o2 d q
          refine .inr ⟨go, fun σ' H' => ∃ ρ δ M, Nx ρ1 H1 ρ H' ∧ DenE K ρ (frz ρ H') δ σ' ∧ StOk K ρ M H' ∧ ResS K W ρ H' E (forD p.2 g b m (i + 1) δ M), fun σ' H' ⟨ρ, δ, M, a1, a2, a3, a4⟩ => ⟨m, Nat.lt_succ_self _, m, ρ, δ, M, rfl, a1, a2, a3, a4⟩, fun x H' y => ?_⟩
          obtain ⟨n3, s3, r3⟩ := yl x H' y
          have e3 := e2.mono n3.ext
          have h3 : ResS K W ρ2 H' E (match noRet (g d δ2 M2) with
            | .nx δ1 M1 => (match b δ1 M1 with
              | .nx δ2 M2 => forD p.2 g b m (i + 1) δ2 M2
              | o => o)
            | o => o) := ResS.nx n3 h2
          refine ⟨ρ2, δ2, M2, d, e3, s3, r3, ?_⟩
          cases e4 : g d δ2 M2 with
          | stuck => rw [e4] at h3; exact h3
          | ret d' M' => rw [e4] at h3; exact h3.elim
          | exc C fs δ' M' => rw [e4] at h3; exact h3
          | nx δ' M' =>
            rw [e4] at h3
            intro ρ5 σ5 H5 n5 s5 e5
            refine ⟨ρ5, δ', M', e5, s5, ?_⟩
            have h5 : ResS K W ρ5 H5 E (match b δ' M' with
              | .nx δ2 M2 => forD p.2 g b m (i + 1) δ2 M2
              | o => o) := ResS.nx n5 h3
            cases e6 : b δ' M' with
            | stuck => rw [e6] at h5; exact h5
            | ret d' M' => rw [e6] at h5; exact h5
            | exc C fs δ' M' => rw [e6] at h5; exact h5
            | nx δ6 M6 =>
              rw [e6] at h5
              exact fun ρ7 σ7 H7 n7 s7 e7 => ⟨ρ7, δ6, M6, ((n2.trans n3).trans n5).trans n7, e7, s7, ResS.nx n7 h5⟩
section
variable {X : Cx} {W : WX}
theorem pds_for {tg iter : Expr} {body : List Stmt} {f : IF} {g : D → SF} {b : SF} {pos : Pos} (hp : PassesOwn (model X.prog X.w) X.A X.env X.xe) (hc : X.calm = true) (hi : PDI X W tg iter f) (hg : PDG X W tg g) (hb : PDSs X W body b)
    (hs : ∀ x, foldedSetIterable iter X.env x = pure x := by intro _; rfl) : PDS X W (.For tg iter body [] pos) (sFor f g b) := ps_mono (ps_for hp hc hi hg hb hs) fun σ H Q h => for_of h

/-! ### what is walked -/
def evI (o : Sto → Option (Nat × ID)) : Ev (Nat × ID) := fun M => match o M with
  | some p => .ok p M
  | none => .stuck
/-- a text's signs -/
def chD (z : Str) (i : Nat) : Option D := z.cps[i]?.map fun c => .str ⟨#[c]⟩
def wSeq (d : D) : Sto → Option (Nat × ID) := fun M => match d with
  | .str z => some (z.cps.size, fun _ i => some (chD z i))
  | d => (sqD M d).map fun ys => (ys.length, fun M i => (sqD M d).map fun zs => zs[i]?)
def iSeq (f : EF) : IF := fun δ => f δ >>= fun d => evI (wSeq d)
theorem itSeq_ok {K : PySem.W.Frag} {ρ0 : List (Option Addr)} {H0 : Hp} {d : D} {a : Addr} (r0 : Den K ρ0 (frz ρ0 H0) d (.ref a)) {J : It} (hJ : (J = Itl K a ∧ ∀ M ys ρ H, Ext ρ0 ρ (frz ρ0 H0) (frz ρ H) → StOk K ρ M H → sqD M d = some ys → ∃ vs, SqL K H a vs ∧ Dens K ρ (frz ρ H) ys vs) ∨ (J = Itt K a ∧ ∀ M ys ρ H, Ext ρ0 ρ (frz ρ0 H0) (frz ρ H) → StOk K ρ M H → sqD M d = some ys → ∃ vs, SqT K H a vs ∧ Dens K ρ (frz ρ H) ys vs)) :
    ItOk K ρ0 H0 (fun M i => (sqD M d).map fun zs => zs[i]?) J := by
  intro i ρ H M n S
  cases e : sqD M d with
  | none => exact ⟨fun z => (by simp [e] at z), fun d' z => (by simp [e] at z)⟩
  | some ys =>
    refine ⟨fun z => ?_, fun d' z => ?_⟩
    · have hl : ys[i]? = none := by simpa [e] using z
      have hl := List.getElem?_eq_none_iff.mp hl
      rcases hJ with ⟨rfl, h⟩ | ⟨rfl, h⟩
      · obtain ⟨vs, h1, h2⟩ := h M ys ρ H n S e
        exact ⟨vs, h1, by rw [← h2.length]; exact hl⟩
      · obtain ⟨vs, h1, h2⟩ := h M ys ρ H n S e
        exact ⟨vs, h1, by rw [← h2.length]; exact hl⟩
    · have hl : ys[i]? = some d' := by simpa [e] using z
      rcases hJ with ⟨rfl, h⟩ | ⟨rfl, h⟩
      · obtain ⟨vs, h1, h2⟩ := h M ys ρ H n S e
        obtain ⟨v, h3, h4⟩ := h2.get hl
        refine ⟨⟨vs, v, h1, h3⟩, fun x H' y => ?_⟩
        obtain ⟨rfl, y⟩ := y
        have e2 := y vs h1
        rw [h3] at e2
        cases e2
        exact ⟨Nx.refl, S, h4⟩
      · obtain ⟨vs, h1, h2⟩ := h M ys ρ H n S e
        obtain ⟨v, h3, h4⟩ := h2.get hl
        refine ⟨⟨vs, v, h1, h3⟩, fun x H' y => ?_⟩
        obtain ⟨rfl, y⟩ := y
        have e2 := y vs h1
        rw [h3] at e2
        cases e2
        exact ⟨Nx.refl, S, h4⟩
def isTup : D → Bool
  | .tup _ => true
  | _ => false
theorem sqD_L {K : PySem.W.Frag} {ρ : List (Option Addr)} {H : Hp} {M : Sto} {d : D} {v : V} {xs : List D} (S : StOk K ρ M H) (r : Den K ρ (frz ρ H) d v) (e : sqD M d = some xs) (t : isTup d = false) : ∃ a vs, v = .ref a ∧ SqL K H a vs ∧ Dens K ρ (frz ρ H) xs vs := by
  cases r with
  | tup h z2 => cases t
  | lst h z2 => cases e; exact ⟨_, _, rfl, .of (frz_of h).2, z2⟩
  | rol h z2 => cases e; exact ⟨_, _, rfl, (frz_same ρ H).seq h, z2⟩
  | @ref i a h =>
    obtain ⟨m, h1, h2⟩ := S.at_ i a h
    unfold sqD vw at e
    simp only [h1] at e
    cases m with
    | lst ds => cases e; obtain ⟨vs, h3, h4⟩ := h2; exact ⟨a, vs, rfl, .of h3, h4⟩
    | dK kvs => cases e
    | ins C fs => cases e
    | opq => cases e
    | dead => cases e
  | _ => cases e
theorem sqD_T {K : PySem.W.Frag} {ρ : List (Option Addr)} {H : Hp} {M : Sto} {d : D} {v : V} {xs : List D} (r : Den K ρ (frz ρ H) d v) (e : sqD M d = some xs) (t : isTup d = true) : ∃ a vs, v = .ref a ∧ SqT K H a vs ∧ Dens K ρ (frz ρ H) xs vs := by
  cases r with
  | tup h z2 => cases e; exact ⟨_, _, rfl, same_sqT (frz_same ρ H) h, z2⟩
  | _ => cases t
theorem it_list {K : PySem.W.Frag} {ρ : List (Option Addr)} {H : Hp} {d : D} {a : Addr} (r : Den K ρ (frz ρ H) d (.ref a)) (t : isTup d = false) : ItOk K ρ H (fun M i => (sqD M d).map fun zs => zs[i]?) (Itl K a) :=
  itSeq_ok r (.inl ⟨rfl, fun M ys ρ' H' n S e => by
    obtain ⟨a', vs, e1, h1, h2⟩ := sqD_L S (r.mono n) e t
    cases e1
    exact ⟨vs, h1, h2⟩⟩)
theorem it_tup {K : PySem.W.Frag} {ρ : List (Option Addr)} {H : Hp} {d : D} {a : Addr} (r : Den K ρ (frz ρ H) d (.ref a)) (t : isTup d = true) : ItOk K ρ H (fun M i => (sqD M d).map fun zs => zs[i]?) (Itt K a) :=
  itSeq_ok r (.inr ⟨rfl, fun M ys ρ' H' n S e => by
    obtain ⟨a', vs, e1, h1, h2⟩ := sqD_T (r.mono n) e t
    cases e1
    exact ⟨vs, h1, h2⟩⟩)
theorem it_str {K : PySem.W.Frag} {ρ : List (Option Addr)} {H : Hp} {z : Str} : ItOk K ρ H (fun _ i => some (chD z i)) (Its z) := by
  intro i ρ' H' M n S
  show (some (chD z i) = some none → z.cps.size ≤ i) ∧ ∀ d, some (chD z i) = some (some d) → i < z.cps.size ∧ ∀ x H2, (H2 = H' ∧ ∃ c, z.cps[i]? = some c ∧ x = V.str ⟨#[c]⟩) → Nx ρ' H' ρ' H2 ∧ StOk K ρ' M H2 ∧ Den K ρ' (frz ρ' H2) d x
  unfold chD
  cases e : z.cps[i]? with
  | none => exact ⟨fun _ => Array.getElem?_eq_none_iff.mp e, fun d q => nomatch q⟩
  | some c =>
    refine ⟨fun q => (nomatch q), fun d q => ⟨(Array.getElem?_eq_some_iff.mp e).1, fun x H2 y => ?_⟩⟩
    obtain ⟨rfl, c', e1, rfl⟩ := y
    cases e1
    cases q
    exact ⟨Nx.refl, S, .str _⟩
theorem seq_of {K : PySem.W.Frag} {f : EF} {σ : St} {H : Hp} {R : It → Hp → Prop} (h : rdI K W (iSeq f) σ H R) : iStr (rd K W f) σ H R ∨ iList K (rd K W f) σ H R ∨ iTup K (rd K W f) σ H R := by
  obtain ⟨ρ, δ, M, hE, hS, h⟩ := h
  have h : ResI K (fun c d H' => W c d σ H') ρ H R ((f δ >>= fun d => evI (wSeq d)) M) := h
  rw [Ev.bind_run] at h
  cases e : f δ M with
  | stuck => rw [e] at h; exact h.elim
  | exc C fs M' => rw [e] at h; exact .inl ⟨ρ, δ, M, hE, hS, by rw [e]; exact h⟩
  | ok d M' =>
    rw [e] at h
    have h : ResI K (fun c d H' => W c d σ H') ρ H R (evI (wSeq d) M') := h
    have main : (wSeq d M' = (sqD M' d).map fun ys => (ys.length, fun M i => (sqD M d).map fun zs => zs[i]?)) → iStr (rd K W f) σ H R ∨ iList K (rd K W f) σ H R ∨ iTup K (rd K W f) σ H R := by
      intro eq
      unfold evI at h
      rw [eq] at h
      cases e2 : sqD M' d with
      | none => rw [e2] at h; exact h.elim
      | some ys =>
        rw [e2] at h
        cases t : isTup d with
        | false =>
          refine .inr (.inl ⟨ρ, δ, M, hE, hS, ?_⟩)
          rw [e]
          intro ρ' v H' n s r
          obtain ⟨a, vs, rfl, h1, h2⟩ := sqD_L s r e2 t
          exact ⟨a, rfl, ⟨vs, h1⟩, h ρ' _ H' n s (it_list r t)⟩
        | true =>
          refine .inr (.inr ⟨ρ, δ, M, hE, hS, ?_⟩)
          rw [e]
          intro ρ' v H' n s r
          obtain ⟨a, vs, rfl, h1, h2⟩ := sqD_T r e2 t
          exact ⟨a, rfl, ⟨vs, h1⟩, h ρ' _ H' n s (it_tup r t)⟩
    cases d with
    | str z =>
      refine .inl ⟨ρ, δ, M, hE, hS, ?_⟩
      rw [e]
      intro ρ' v H' n s r
      cases r
      exact ⟨z, rfl, h ρ' _ H' n s it_str⟩
    | _ => exact main rfl
theorem pdi_seq {tg e : Expr} {f : EF} (he : PD X W e f) : PDI X W tg e (iSeq f) := pi_mono (pi_or (pi_str he) (pi_or (pi_list he) (pi_tup he))) fun σ H R h => seq_of h
/-- range(n), range(a, b) -/
def wRng1 : List D → Sto → Option (Nat × ID) := fun ds _ => match ds with
  | [.int j] => if -(2 ^ 62) ≤ j ∧ j < 2 ^ 62 then some (j.toNat, fun _ i => some (if i < j.toNat then some (.int (0 + (i : Nat))) else none)) else none
  | _ => none
def wRng2 : List D → Sto → Option (Nat × ID) := fun ds _ => match ds with
  | [.int a, .int b] => if -(2 ^ 62) ≤ a ∧ a < 2 ^ 62 ∧ -(2 ^ 62) ≤ b ∧ b < 2 ^ 62 then some ((b - a).toNat, fun _ i => some (if i < (b - a).toNat then some (.int (a + (i : Nat))) else none)) else none
  | _ => none
def iArgs (w : List D → Sto → Option (Nat × ID)) (f : AF) : IF := fun δ => f δ >>= fun ds => evI (w ds)
theorem it_rng {K : PySem.W.Frag} {ρ : List (Option Addr)} {H : Hp} {lo : Int} {n : Nat} : ItOk K ρ H (fun _ i => some (if i < n then some (.int (lo + (i : Nat))) else none)) (Itr lo n) := by
  intro i ρ' H' M _ S
  by_cases h : i < n
  · refine ⟨fun q => by simp [h] at q, fun d q => ⟨h, fun x H2 y => ?_⟩⟩
    obtain ⟨rfl, rfl⟩ := y
    have q : D.int (lo + (i : Nat)) = d := by simpa [h] using q
    subst q
    exact ⟨Nx.refl, S, .int _⟩
  · exact ⟨fun _ => Nat.le_of_not_lt h, fun d q => by simp [h] at q⟩
theorem rngA {K : PySem.W.Frag} {w : List D → Sto → Option (Nat × ID)} {f : AF} {σ : St} {H : Hp} {R : It → Hp → Prop} (h : rdI K W (iArgs w f) σ H R) : rdA K W f σ H fun vs H1 => ∃ ρ1 ds M1, StOk K ρ1 M1 H1 ∧ Dens K ρ1 (frz ρ1 H1) ds vs ∧ ∃ p, w ds M1 = some p ∧ ∀ J, ItOk K ρ1 H1 p.2 J → R J H1 := by
  obtain ⟨ρ, δ, M, hE, hS, h⟩ := h
  refine ⟨ρ, δ, M, hE, hS, ?_⟩
  have h : ResI K (fun c d H' => W c d σ H') ρ H R ((f δ >>= fun ds => evI (w ds)) M) := h
  rw [Ev.bind_run] at h
  cases e : f δ M with
  | stuck => rw [e] at h; exact h.elim
  | exc C fs M' => rw [e] at h; exact h
  | ok ds M' =>
    rw [e] at h
    intro ρ' vs H' n s r
    have h : ResI K (fun c d H' => W c d σ H') ρ H R (evI (w ds) M') := h
    unfold evI at h
    cases q : w ds M' with
    | none => rw [q] at h; exact h.elim
    | some p => rw [q] at h; exact ⟨ρ', ds, M', s, r, p, q, fun J ok => h ρ' J H' n s ok⟩
theorem pdi_rng1 {tg a : Expr} {f : AF} {p pos : Pos} (hg : Gl X "range") (hm : X.mg "range" = none) (ha : PDA X W [a] f) (hs : starEach [a] X.env = [(false, eval a X.env)] := by rfl) : PDI X W tg (.Call (.Name "range" p) [a] [] pos) (iArgs wRng1 f) := pi_mono (pi_range1 hg hm ha hs) fun σ H R h => by
  refine rdA_mono (rngA h) fun vs H1 ⟨ρ1, ds, M1, s, r, p, e, q⟩ => ?_
  unfold wRng1 at e
  split at e
  · split at e
    · rename_i j hj
      cases e
      obtain ⟨x, rfl, r1⟩ := dens1 r
      cases r1
      exact ⟨j, rfl, hj.1, hj.2, q _ it_rng⟩
    · cases e
  · cases e
theorem pdi_rng2 {tg a b : Expr} {f : AF} {p pos : Pos} (hg : Gl X "range") (hm : X.mg "range" = none) (ha : PDA X W [a, b] f) (hs : starEach [a, b] X.env = [(false, eval a X.env), (false, eval b X.env)] := by rfl) (hs2 : starEach [b] X.env = [(false, eval b X.env)] := by rfl) : PDI X W tg (.Call (.Name "range" p) [a, b] [] pos) (iArgs wRng2 f) := pi_mono (pi_range2 hg hm ha hs hs2) fun σ H R h => by
  refine rdA_mono (rngA h) fun vs H1 ⟨ρ1, ds, M1, s, r, p, e, q⟩ => ?_
  unfold wRng2 at e
  split at e
  · split at e
    · rename_i j k hj
      cases e
      obtain ⟨x, y, rfl, r1, r2⟩ := dens2 r
      cases r1
      cases r2
      exact ⟨j, k, rfl, hj, q _ it_rng⟩
    · cases e
  · cases e
end
end L2.MK

end

section
set_option Elab.async false
set_option linter.all false
set_option maxRecDepth 100000
set_option maxHeartbeats 1000000
set_option autoImplicit false
/-! enumerate, zip; more built-ins. -/
namespace L2.MK
open PySem PySem.Spec PyProof.Rows PySem.W

section
variable {X : Cx} {W : WX}
/-- enumerate(xs) -/
def wEnum : List D → Sto → Option (Nat × ID) := fun ds M => match ds with
  | [d] => (sqD M d).map fun ys => (ys.length, fun M i => (sqD M d).map fun zs => zs[i]?.map fun x => .tup [.int (i : Nat), x])
  | _ => none
theorem it_enum {K : PySem.W.Frag} {ρ : List (Option Addr)} {H : Hp} {d : D} {a : Addr} (r : Den K ρ (frz ρ H) d (.ref a)) (t : isTup d = false) : ItOk K ρ H (fun M i => (sqD M d).map fun zs => zs[i]?.map fun x => .tup [.int (i : Nat), x]) (Ite K a) := by
  intro i ρ' H' M n S
  cases e : sqD M d with
  | none =>
    have key : ((sqD M d).map fun zs => zs[i]?.map fun x => D.tup [.int (i : Nat), x]) = none := by rw [e]; rfl
    show (((sqD M d).map fun zs => zs[i]?.map fun x => D.tup [.int (i : Nat), x]) = some none → _) ∧ ∀ d', ((sqD M d).map fun zs => zs[i]?.map fun x => D.tup [.int (i : Nat), x]) = some (some d') → _
    rw [key]
    exact ⟨fun z => (nomatch z), fun d' z => (nomatch z)⟩
  | some ys =>
    have key : ((sqD M d).map fun zs => zs[i]?.map fun x => D.tup [.int (i : Nat), x]) = some (ys[i]?.map fun x => D.tup [.int (i : Nat), x]) := by rw [e]; rfl
    show (((sqD M d).map fun zs => zs[i]?.map fun x => D.tup [.int (i : Nat), x]) = some none → _) ∧ ∀ d', ((sqD M d).map fun zs => zs[i]?.map fun x => D.tup [.int (i : Nat), x]) = some (some d') → _
    rw [key]
    obtain ⟨a', vs, e1, h1, h2⟩ := sqD_L S (r.mono n) e t
    cases e1
    cases e2 : ys[i]? with
    | none =>
      exact ⟨fun _ => ⟨vs, h1, by rw [← h2.length]; exact List.getElem?_eq_none_iff.mp e2⟩, fun d' z => (nomatch z)⟩
    | some x =>
      refine ⟨fun z => (nomatch z), fun d' z => ?_⟩
      obtain ⟨v, h3, h4⟩ := h2.get e2
      refine ⟨⟨vs, v, h1, h3⟩, fun w H2 y => ?_⟩
      obtain ⟨T, v', rfl, hT, rfl, y⟩ := y
      have e3 := y vs h1
      rw [h3] at e3
      cases e3
      cases z
      have n2 := Nx.new (ρ := ρ') (o := .tup [.int (i : Nat), v]) hT
      exact ⟨n2, S.new hT, .tup (.of (frz_at (S.notin hT) upd_same)) (.cons (.int _) (.cons (h4.mono n2.ext) .nil))⟩
theorem it_enumT {K : PySem.W.Frag} {ρ : List (Option Addr)} {H : Hp} {d : D} {a : Addr} (r : Den K ρ (frz ρ H) d (.ref a)) (t : isTup d = true) : ItOk K ρ H (fun M i => (sqD M d).map fun zs => zs[i]?.map fun x => .tup [.int (i : Nat), x]) (IteT K a) := by
  intro i ρ' H' M n S
  cases e : sqD M d with
  | none =>
    have key : ((sqD M d).map fun zs => zs[i]?.map fun x => D.tup [.int (i : Nat), x]) = none := by rw [e]; rfl
    show (((sqD M d).map fun zs => zs[i]?.map fun x => D.tup [.int (i : Nat), x]) = some none → _) ∧ ∀ d', ((sqD M d).map fun zs => zs[i]?.map fun x => D.tup [.int (i : Nat), x]) = some (some d') → _
    rw [key]
    exact ⟨fun z => (nomatch z), fun d' z => (nomatch z)⟩
  | some ys =>
    have key : ((sqD M d).map fun zs => zs[i]?.map fun x => D.tup [.int (i : Nat), x]) = some (ys[i]?.map fun x => D.tup [.int (i : Nat), x]) := by rw [e]; rfl
    show (((sqD M d).map fun zs => zs[i]?.map fun x => D.tup [.int (i : Nat), x]) = some none → _) ∧ ∀ d', ((sqD M d).map fun zs => zs[i]?.map fun x => D.tup [.int (i : Nat), x]) = some (some d') → _
    rw [key]
    obtain ⟨a', vs, e1, h1, h2⟩ := sqD_T (r.mono n) e t
    cases e1
    cases e2 : ys[i]? with
    | none =>
      exact ⟨fun _ => ⟨vs, h1, by rw [← h2.length]; exact List.getElem?_eq_none_iff.mp e2⟩, fun d' z => (nomatch z)⟩
    | some x =>
      refine ⟨fun z => (nomatch z), fun d' z => ?_⟩
      obtain ⟨v, h3, h4⟩ := h2.get e2
      refine ⟨⟨vs, v, h1, h3⟩, fun w H2 y => ?_⟩
      obtain ⟨T, v', rfl, hT, rfl, y⟩ := y
      have e3 := y vs h1
      rw [h3] at e3
      cases e3
      cases z
      have n2 := Nx.new (ρ := ρ') (o := .tup [.int (i : Nat), v]) hT
      exact ⟨n2, S.new hT, .tup (.of (frz_at (S.notin hT) upd_same)) (.cons (.int _) (.cons (h4.mono n2.ext) .nil))⟩
/-- one argument, known ahead: a list or a tuple -/
theorem args1 {K : PySem.W.Frag} {w : List D → Sto → Option (Nat × ID)} {f : AF} {σ : St} {H : Hp} {R : It → Hp → Prop} (P : D → Prop) (h : rdI K W (iArgs w f) σ H R) (hw : ∀ ds M p, w ds M = some p → ∃ d, ds = [d]) :
    (rdA K W f σ H fun vs H1 => ∃ ρ1 d M1, StOk K ρ1 M1 H1 ∧ isTup d = false ∧ Dens K ρ1 (frz ρ1 H1) [d] vs ∧ ∃ p, w [d] M1 = some p ∧ ∀ J, ItOk K ρ1 H1 p.2 J → R J H1) ∨
    (rdA K W f σ H fun vs H1 => ∃ ρ1 d M1, StOk K ρ1 M1 H1 ∧ isTup d = true ∧ Dens K ρ1 (frz ρ1 H1) [d] vs ∧ ∃ p, w [d] M1 = some p ∧ ∀ J, ItOk K ρ1 H1 p.2 J → R J H1) := by
  obtain ⟨ρ, δ, M, hE, hS, h⟩ := h
  replace h : ResI K (fun c d H' => W c d σ H') ρ H R ((f δ >>= fun ds => evI (w ds)) M) := h
  rw [Ev.bind_run] at h
  cases e : f δ M with
  | stuck => rw [e] at h; exact h.elim
  | exc C fs M' => rw [e] at h; exact .inl ⟨ρ, δ, M, hE, hS, by rw [e]; exact h⟩
  | ok ds M' =>
    rw [e] at h
    replace h : ResI K (fun c d H' => W c d σ H') ρ H R (evI (w ds) M') := h
    unfold evI at h
    cases q : w ds M' with
    | none => rw [q] at h; exact h.elim
    | some p =>
      rw [q] at h
      obtain ⟨d, rfl⟩ := hw _ _ _ q
      cases t : isTup d with
      | false =>
        refine .inl ⟨ρ, δ, M, hE, hS, ?_⟩
        rw [e]
        exact fun ρ' vs H' n s r => ⟨ρ', d, M', s, t, r, p, q, fun J ok => h ρ' J H' n s ok⟩
      | true =>
        refine .inr ⟨ρ, δ, M, hE, hS, ?_⟩
        rw [e]
        exact fun ρ' vs H' n s r => ⟨ρ', d, M', s, t, r, p, q, fun J ok => h ρ' J H' n s ok⟩
theorem pdi_enum {e : Expr} {f : AF} {p pos tpos : Pos} {elts : List Expr} {kk : Nat} (hg : Gl X "enumerate") (hm : X.mg "enumerate" = none) (ha : PDA X W [e] f) (hs : starEach [e] X.env = [(false, eval e X.env)] := by rfl) :
    PDI X W (.Tuple elts kk tpos) (.Call (.Name "enumerate" p) [e] [] pos) (iArgs wEnum f) := pi_mono (pi_or (pi_enum hg hm ha hs) (pi_enumT hg hm ha hs)) fun σ H R h => by
  rcases args1 (fun _ => True) h (fun ds M p e => by unfold wEnum at e; split at e; exact ⟨_, rfl⟩; cases e) with h | h
  · refine .inl (rdA_mono h fun vs H1 ⟨ρ1, d, M1, s, t, r, p, e, q⟩ => ?_)
    obtain ⟨x, rfl, r1⟩ := dens1 r
    have e : (sqD M1 d).map (fun ys => ((ys.length, fun M i => (sqD M d).map fun zs => zs[i]?.map fun x => .tup [.int (i : Nat), x]) : Nat × ID)) = some p := e
    cases e2 : sqD M1 d with
    | none => rw [e2] at e; cases e
    | some ys =>
      rw [e2] at e
      cases e
      obtain ⟨a, ws, rfl, h1, h2⟩ := sqD_L s r1 e2 t
      exact ⟨a, ws, rfl, h1, q _ (it_enum r1 t)⟩
  · refine .inr (rdA_mono h fun vs H1 ⟨ρ1, d, M1, s, t, r, p, e, q⟩ => ?_)
    obtain ⟨x, rfl, r1⟩ := dens1 r
    have e : (sqD M1 d).map (fun ys => ((ys.length, fun M i => (sqD M d).map fun zs => zs[i]?.map fun x => .tup [.int (i : Nat), x]) : Nat × ID)) = some p := e
    cases e2 : sqD M1 d with
    | none => rw [e2] at e; cases e
    | some ys =>
      rw [e2] at e
      cases e
      obtain ⟨a, ws, rfl, h1, h2⟩ := sqD_T r1 e2 t
      exact ⟨a, ws, rfl, h1, q _ (it_enumT r1 t)⟩
end
end L2.MK

end

section
set_option Elab.async false
set_option linter.all false
set_option maxRecDepth 100000
set_option maxHeartbeats 1000000
set_option autoImplicit false
/-! isinstance, all, any, repr, sorted, sets. -/
namespace L2.MK
open PySem PySem.Spec PyProof.Rows PySem.W

/-! ### isinstance -/
def clD (K : Frag) : D → Option Value
  | .ty T => some (.type T)
  | .cls C => some (.ref (He.ga K C))
  | _ => none
def clsD (K : Frag) : List D → Option (List Value)
  | [] => some []
  | d :: r => match clD K d, clsD K r with
    | some v, some vs => some (v :: vs)
    | _, _ => none
/-- built-in types of data -/
def btD (M : Sto) : D → Option String
  | .non => some "NoneType"
  | .bl _ => some "bool"
  | .int _ => some "int"
  | .str _ => some "str"
  | .tup _ => some "tuple"
  | .lst _ => some "list"
  | .rol _ => some "list"
  | .dct _ _ => some "dict"
  | .ref i => (match M[i]? with
    | some (.lst _) => some "list"
    | some (.dK _) => some "dict"
    | _ => none)
  | _ => none
/-- what the head tells of a class of plain instances -/
structure InsC (K : Frag) (C : Addr) : Prop where
  cl : Cls K C
  ha : findIn K (.ref C) "__class__" = some (some (.builtin "object.__class__"))
  hn : specialIn K (.builtin "object.__class__") "__get__" = some (some (.builtin "getset_descriptor.__get__"))
  ht : takesIn K (.builtin "object.__class__") = some true
  hm : mroIn K C (.type "object") = some true
/-- isinstance's own part: Ci classes of instances, Ce of exceptions -/
def isiD (K : Frag) (Ci Ce : List Str) (M : Sto) (d : D) (ans : Value → Option Bool) : Option Bool := match btD M d with
  | some T => ans (.type T)
  | none => match d with
    | .ins C _ => if C ∈ Ci then ans (.ref (He.ga K C)) else none
    | _ => none
def gIsi (K : Frag) (Ci Ce : List Str) : GF := fun ds M => match ds with
  | [.exc C _, c] => if C ∈ Ce then (clD K c).bind fun u => (kitOne K (.ref (He.ga K C)) u).map .bl else none
  | [d, .tup cs] => (clsD K cs).bind fun us => (isiD K Ci Ce M d fun t => kitAny K t us).map .bl
  | [d, c] => (clD K c).bind fun u => (isiD K Ci Ce M d fun t => kitOne K t u).map .bl
  | _ => none
section
variable {K : Frag} {ρ : List (Option Addr)} {H : Hp} {M : Sto} {Φ : Hp}
theorem clD_of {d : D} {v : V} {u : Value} (r : Den K ρ Φ d v) (e : clD K d = some u) : ClsV v u := by
  cases r <;> simp only [clD, reduceCtorEq, Option.some.injEq] at e
  · subst e; exact .ty _
  · subst e; exact .own _
theorem clsD_of : ∀ {ds : List D} {vs : List V} {us : List Value}, Dens K ρ Φ ds vs → clsD K ds = some us → Paired ClsV vs us
  | _, _, _, .nil, e => by cases e; exact .nil
  | d :: ds, _, us, .cons r1 r2, e => by
    unfold clsD at e
    cases q : clD K d with
    | none => rw [q] at e; cases e
    | some u =>
      cases q2 : clsD K ds with
      | none => rw [q, q2] at e; cases e
      | some ws => rw [q, q2] at e; cases e; exact .cons (clD_of r1 q) (clsD_of r2 q2)
theorem tyx_sqT {a : Addr} {xs : List V} (h : SqT K H a xs) : TyX K H (.ref a) (.type "tuple") := by
  rcases h with (h | ⟨o, h⟩) | ⟨o, its, n, h1, h2, _⟩
  · exact .base (.tup h)
  · exact .fTuple h
  · exact .kTuple h1 h2
theorem tyx_sqL {a : Addr} {xs : List V} (h : SqL K H a xs) : TyX K H (.ref a) (.type "list") := by
  rcases h with (h | ⟨o, h⟩) | ⟨o, its, n, h1, h2, _⟩
  · exact .base (.lst h)
  · exact .base (.frz h)
  · exact .kList h1 h2
theorem btD_of {d : D} {v : V} {T : String} (S : StOk K ρ M H) (r : Den K ρ (frz ρ H) d v) (e : btD M d = some T) : TyX K H v (.type T) := by
  have key : ∀ i, d = .ref i → TyX K H v (.type T) := by
    rintro i rfl
    cases r with
    | @ref i a h =>
      obtain ⟨m, h1, h2⟩ := S.at_ i a h
      unfold btD at e
      simp only [h1] at e
      cases m with
      | lst ds => cases e; obtain ⟨vs, h3, _⟩ := h2; exact .base (.lst h3)
      | dK kvs => cases e; obtain ⟨vs, h3, _⟩ := h2; exact .base (.dK h3)
      | ins C fs => cases e
      | opq => cases e
      | dead => cases e
  cases r with
  | non => cases e; exact .base .non
  | bl b => cases e; exact .base (.bl b)
  | int i => cases e; exact .base (.int i)
  | str x => cases e; exact .base (.str x)
  | tup h z => cases e; exact tyx_sqT (same_sqT (frz_same ρ H) h)
  | lst h z => cases e; exact .base (.lst (frz_of h).2)
  | rol h z => cases e; exact tyx_sqL ((frz_same ρ H).seq h)
  | dct h h2 z => cases e; exact .base (.dK (frz_of h).2)
  | ref h => exact key _ rfl
  | _ => cases e
theorem isiD_of {Ci Ce : List Str} {d : D} {v : V} {ans : Value → Option Bool} {b : Bool} (hI : ∀ C ∈ Ci, InsC K (He.ga K C)) (S : StOk K ρ M H) (r : Den K ρ (frz ρ H) d v) (e : isiD K Ci Ce M d ans = some b) : ∃ t, TyX K H v t ∧ ans t = some b := by
  unfold isiD at e
  cases q : btD M d with
  | some T => rw [q] at e; exact ⟨_, btD_of S r q, e⟩
  | none =>
    rw [q] at e
    cases r with
    | @ins C fs a dx vfs h z =>
      simp only at e
      split at e
      · rename_i hc
        have c := hI C hc
        exact ⟨_, .base (.ins (frz_of h).2 c.cl c.ha c.hn c.ht c.hm), e⟩
      · cases e
    | _ => cases e
end
section
variable {X : Cx} {W : WX}
/-- isinstance(x, (c1, c2, ..)), any tuple -/
def rIsiS (K : Frag) : List V → Hp → VK → Prop := fun xs H Q => ∃ (x : V) (tp : Addr) (cs : List V) (t : Value) (us : List Value) (b : Bool), xs = [x, .ref tp] ∧ SqT K H tp cs ∧ Paired ClsV cs us ∧ TyX K H x t ∧ kitAny K t us = some b ∧ Q (.bl b) H
theorem call_isiS : CallR X (.builtin "isinstance") (rIsiS X.K) := by
  intro pins s σ H xs us Q I r h
  obtain ⟨x, tp, cs, t, ws, b, rfl, hT, k, ty, e, q⟩ := h
  obtain ⟨u1, u2, rfl, r1, r2⟩ := vals2 r
  cases (show u2 = Value.ref tp from r2)
  obtain ⟨P, Z, p, hx⟩ := kit_of I r1 ty
  obtain ⟨its, rv, ⟨o, h1, h2, n, h3⟩, _⟩ := I.tuple hT
  have e3 := ClsV.all k rv
  subst e3
  obtain ⟨oc, od, dt, sl⟩ := o
  simp only at h2 h3
  subst h2 h3
  exact PySem.W.kia_tup Z I.kIn p h1 e hx fun tk => ⟨.bl b, H, I.tok tk, rfl, q⟩
theorem map_bl {o : Option Bool} {d : D} (e : o.map D.bl = some d) : ∃ b, o = some b ∧ d = .bl b := by
  cases o with
  | none => cases e
  | some b => cases e; exact ⟨b, rfl, rfl⟩
theorem cr_isi {Ci Ce : List Str} (hI : ∀ C ∈ Ci, InsC X.K (He.ga X.K C)) (hE : ∀ C ∈ Ce, ExcC X.K (He.ga X.K C)) : CallR X (.builtin "isinstance") (rC X.K (gIsi X.K Ci Ce)) := by
  refine CallR.imp (CallR.or call_isX (CallR.or call_isi call_isiS)) fun xs H Q ⟨ρ, M, ds, d, S, r, e, q⟩ => ?_
  unfold gIsi at e
  split at e
  · rename_i C fs c
    split at e
    · rename_i hc
      cases e1 : clD X.K c with
      | none => rw [e1] at e; cases e
      | some u =>
        rw [e1] at e
        obtain ⟨b, e2, rfl⟩ := map_bl e
        obtain ⟨x, y, rfl, r1, r2⟩ := dens2 r
        cases r1 with
        | @exc _ _ a dd vfs h1 h2 h3 h4 => exact .inl ⟨a, _, dd, y, u, b, rfl, (frz_of h1).2, fun z hz => ⟨_, (frz_of (h2 z hz)).2⟩, hE C hc, clD_of r2 e1, e2, q _ H Nx.refl S (.bl _)⟩
    · cases e
  · rename_i d0 cs _
    cases e1 : clsD X.K cs with
    | none => rw [e1] at e; cases e
    | some us =>
      rw [e1] at e
      obtain ⟨b, e2, rfl⟩ := map_bl e
      obtain ⟨x, y, rfl, r1, r2⟩ := dens2 r
      obtain ⟨t, e3, e4⟩ := isiD_of hI S r1 e2
      cases r2 with
      | tup h z => exact .inr (.inr ⟨x, _, _, t, us, b, rfl, same_sqT (frz_same ρ H) h, clsD_of z e1, e3, e4, q _ H Nx.refl S (.bl _)⟩)
  · rename_i d0 c _ _
    cases e1 : clD X.K c with
    | none => rw [e1] at e; cases e
    | some u =>
      rw [e1] at e
      obtain ⟨b, e2, rfl⟩ := map_bl e
      obtain ⟨x, y, rfl, r1, r2⟩ := dens2 r
      obtain ⟨t, e3, e4⟩ := isiD_of hI S r1 e2
      exact .inr (.inl ⟨x, y, t, u, b, rfl, clD_of r2 e1, e3, e4, q _ H Nx.refl S (.bl _)⟩)
  · cases e

/-! ### all, any, repr -/
def lenOk : D → Bool
  | .str x => decide (x.length ≤ sizeLine)
  | _ => true
/-- the values, each read as data -/
def pysOf (M : Sto) (d : D) : Option (List PyData) := match vw M d with
  | .lst xs => D.pys xs
  | .rol xs => D.pys xs
  | _ => none
theorem pysOf_of {K : Frag} {ρ : List (Option Addr)} {H : Hp} {M : Sto} {d : D} {v : V} {ps : List PyData} (S : StOk K ρ M H) (r : Den K ρ (frz ρ H) d v) (e : pysOf M d = some ps) : Dp K H v (.list ps) := by
  have s := seen_of S r
  unfold pysOf at e
  generalize vw M d = d' at s e
  cases s with
  | den z =>
    cases z with
    | lst h w => exact dp_same (frz_same ρ H) (.lst (.of h) (dens_dp w e))
    | rol h w => exact dp_same (frz_same ρ H) (.lst h (dens_dp w e))
    | _ => cases e
  | lst h w => exact .lst (.of h) (dpAll_same (frz_same ρ H) (dens_dp w e))
/-- all are truth values -/
def blsP : List PyData → Option (List Bool)
  | [] => some []
  | .bool b :: r => (blsP r).map (b :: ·)
  | _ => none
theorem blsP_plain : ∀ {ps : List PyData} {bs : List Bool}, blsP ps = some bs → PyData.plainAll ps = true ∧ (∀ p ∈ ps, p.fits63) ∧ ps.all PyData.truthy = bs.all id ∧ ps.any PyData.truthy = bs.any id
  | [], bs, e => by cases e; exact ⟨rfl, fun p h => (nomatch h), rfl, rfl⟩
  | p :: ps, bs, e => by
    cases p <;> simp only [blsP, reduceCtorEq] at e
    rename_i b
    cases q : blsP ps with
    | none => rw [q] at e; cases e
    | some cs =>
      rw [q] at e
      cases e
      obtain ⟨h1, h2, h3, h4⟩ := blsP_plain q
      refine ⟨by simp [PyData.plainAll, PyData.plain, h1], fun p hp => ?_, by rw [List.all_cons, List.all_cons, h3]; rfl, by rw [List.any_cons, List.any_cons, h4]; rfl⟩
      rcases List.mem_cons.mp hp with rfl | hp
      · exact trivial
      · exact h2 p hp
def gAll : GF := fun ds M => match ds with
  | [d] => ((pysOf M d).bind blsP).map fun bs => .bl (bs.all id)
  | _ => none
def gAny : GF := fun ds M => match ds with
  | [d] => ((pysOf M d).bind blsP).map fun bs => .bl (bs.any id)
  | _ => none
theorem cr_all (hc : X.calm = true) : CallR X (.builtin "all") (rC X.K gAll) := by
  refine CallR.imp (call_allD hc) fun xs H Q ⟨ρ, M, ds, d, S, r, e, q⟩ => ?_
  unfold gAll at e
  split at e
  · rename_i d0
    obtain ⟨x, rfl, r1⟩ := dens1 r
    cases e1 : pysOf M d0 with
    | none => rw [e1] at e; cases e
    | some ps =>
      cases e2 : blsP ps with
      | none => simp [e1, e2] at e
      | some bs =>
        have e : D.bl (bs.all id) = d := by simpa [e1, e2] using e
        subst e
        obtain ⟨h1, h2, h3, h4⟩ := blsP_plain e2
        exact ⟨x, ps, rfl, pysOf_of S r1 e1, h1, h2, by rw [h3]; exact q _ H Nx.refl S (.bl _)⟩
  · cases e
theorem cr_any (hc : X.calm = true) : CallR X (.builtin "any") (rC X.K gAny) := by
  refine CallR.imp (call_anyD hc) fun xs H Q ⟨ρ, M, ds, d, S, r, e, q⟩ => ?_
  unfold gAny at e
  split at e
  · rename_i d0
    obtain ⟨x, rfl, r1⟩ := dens1 r
    cases e1 : pysOf M d0 with
    | none => rw [e1] at e; cases e
    | some ps =>
      cases e2 : blsP ps with
      | none => simp [e1, e2] at e
      | some bs =>
        have e : D.bl (bs.any id) = d := by simpa [e1, e2] using e
        subst e
        obtain ⟨h1, h2, h3, h4⟩ := blsP_plain e2
        exact ⟨x, ps, rfl, pysOf_of S r1 e1, h1, h2, by rw [h4]; exact q _ H Nx.refl S (.bl _)⟩
  · cases e
def gRepr : GF := fun ds M => match ds with
  | [d] => (match (vw M d).py with
    | some p => if p.showable = true ∧ p.hasDict = false ∧ p.depth ≤ 60 ∧ p.shown.length ≤ sizeLine then some (.str p.shown) else none
    | none => none)
  | _ => none
theorem cr_repr (hu : X.A.units + 64 < cLine) (hg : X.A.guards = some []) : CallR X (.builtin "repr") (rC X.K gRepr) := by
  refine CallR.imp (call_reprD hu hg) fun xs H Q ⟨ρ, M, ds, d, S, r, e, q⟩ => ?_
  unfold gRepr at e
  split at e
  · rename_i d0
    obtain ⟨x, rfl, r1⟩ := dens1 r
    split at e
    · rename_i p e1
      split at e
      · rename_i hp
        cases e
        exact ⟨x, p, rfl, (seen_of S r1).dp e1, hp.1, hp.2.1, hp.2.2.1, hp.2.2.2, q _ H Nx.refl S (.str _)⟩
      · cases e
    · cases e
  · cases e
end
end L2.MK

end

section
set_option Elab.async false
set_option linter.all false
set_option maxRecDepth 100000
set_option maxHeartbeats 1000000
set_option autoImplicit false
/-! sorted; sets of texts; setdefault; attributes. -/
namespace L2.MK
open PySem PySem.Spec PyProof.Rows PySem.W

def pyD (d : D) : PyData := (d.py).getD .none
def leD (a b : D) : Bool := dataLe false pyD a b
def tupP : PyData → Bool
  | .tuple (_ :: _) => true
  | _ => false
def othP : PyData → Bool
  | .none => false
  | .tuple _ => false
  | _ => true
def sortOk (ps : List PyData) : Bool := (ps.all fun a => ps.all fun b => alike a b) && ((ps.all tupP || ps.all othP) && ps.all fun p => decide (p.depth ≤ 60))
theorem sortOk_of {ps : List PyData} (h : sortOk ps = true) : AllAlike ps ∧ Sortable ps ∧ ∀ p ∈ ps, p.depth ≤ 60 := by
  unfold sortOk at h
  rw [Bool.and_eq_true, Bool.and_eq_true, Bool.or_eq_true] at h
  obtain ⟨h1, h2, h3⟩ := h
  refine ⟨fun a ha b hb => List.all_eq_true.mp (List.all_eq_true.mp h1 a ha) b hb, ?_, fun p hp => of_decide_eq_true (List.all_eq_true.mp h3 p hp)⟩
  rcases h2 with h2 | h2
  · refine .inl fun d hd => ?_
    have q := List.all_eq_true.mp h2 d hd
    unfold tupP at q
    split at q
    · exact ⟨_, _, rfl⟩
    · cases q
  · refine .inr fun d hd => ?_
    have q := List.all_eq_true.mp h2 d hd
    cases d <;> simp [othP] at q <;> simp
def gSort : GF := fun ds M => match ds with
  | [d] => (sqD M d).bind fun ys => (D.pys ys).bind fun ps => if sortOk ps = true then some (.lst (ys.mergeSort leD)) else none
  | _ => none
section
variable {K : Frag} {ρ : List (Option Addr)} {H : Hp} {M : Sto} {Φ : Hp}
theorem dens_zip : ∀ {ds : List D} {vs : List V}, Dens K ρ Φ ds vs → ∃ zs : List (D × V), zs.map (·.1) = ds ∧ zs.map (·.2) = vs ∧ ∀ z ∈ zs, Den K ρ Φ z.1 z.2
  | _, _, .nil => ⟨[], rfl, rfl, fun z h => (nomatch h)⟩
  | d :: ds, v :: vs, .cons h r => by
    obtain ⟨zs, e1, e2, h2⟩ := dens_zip r
    refine ⟨(d, v) :: zs, by rw [List.map_cons, e1], by rw [List.map_cons, e2], fun z hz => ?_⟩
    rcases List.mem_cons.mp hz with rfl | hz
    · exact h
    · exact h2 z hz
theorem dens_unzip : ∀ {zs : List (D × V)}, (∀ z ∈ zs, Den K ρ Φ z.1 z.2) → Dens K ρ Φ (zs.map (·.1)) (zs.map (·.2))
  | [], _ => .nil
  | z :: zs, h => .cons (h z List.mem_cons_self) (dens_unzip fun y hy => h y (List.mem_cons_of_mem _ hy))
theorem pys_mem : ∀ {ds : List D} {ps : List PyData}, D.pys ds = some ps → ps = ds.map pyD ∧ ∀ d ∈ ds, d.py = some (pyD d)
  | [], _, e => by cases e; exact ⟨rfl, fun d h => (nomatch h)⟩
  | d :: ds, ps, e => by
    unfold D.pys at e
    cases q : d.py with
    | none => rw [q] at e; cases e
    | some p =>
      cases q2 : D.pys ds with
      | none => rw [q, q2] at e; cases e
      | some qs =>
        rw [q, q2] at e
        cases e
        obtain ⟨h1, h2⟩ := pys_mem q2
        have e0 : pyD d = p := by unfold pyD; rw [q]; rfl
        refine ⟨by rw [List.map_cons, e0, ← h1], fun y hy => ?_⟩
        rcases List.mem_cons.mp hy with rfl | hy
        · rw [q, e0]
        · exact h2 y hy
end
section
variable {X : Cx} {W : WX}
theorem cr_sort (hu : X.A.units + 64 < cLine) : CallR X (.builtin "sorted") (rC X.K gSort) := by
  refine CallR.imp (call_sortDt hu) fun xs H Q ⟨ρ, M, ds, d, S, r, e, q⟩ => ?_
  unfold gSort at e
  split at e
  · rename_i d0
    obtain ⟨x, rfl, r1⟩ := dens1 r
    cases e1 : sqD M d0 with
    | none => rw [e1] at e; cases e
    | some ys =>
      cases e2 : D.pys ys with
      | none => simp [e1, e2] at e
      | some ps =>
        have e : (if sortOk ps = true then some (D.lst (ys.mergeSort leD)) else none) = some d := by simpa [e1, e2] using e
        split at e
        · rename_i hso
          cases e
          obtain ⟨a, vs, rfl, hs, hv⟩ := sqD_of S r1 e1
          obtain ⟨zs, z1, z2, z3⟩ := dens_zip hv
          obtain ⟨p1, p2⟩ := pys_mem e2
          obtain ⟨s1, s2, s3⟩ := sortOk_of hso
          have eb1 : (zs.map fun z => (z.2, pyD z.1)).map (·.1) = vs := by rw [List.map_map]; exact z2
          have eb2 : (zs.map fun z => (z.2, pyD z.1)).map (·.2) = ps := by
            rw [List.map_map, p1, ← z1, List.map_map]
            rfl
          have m1 : (zs.mergeSort fun a b => leD a.1 b.1).map (·.1) = ys.mergeSort leD := by
            rw [← z1]
            exact List.map_mergeSort fun a _ b _ => rfl
          have m2 : ((zs.map fun z => (z.2, pyD z.1)).mergeSort (dataLe false Prod.snd)).map (·.1) = (zs.mergeSort fun a b => leD a.1 b.1).map (·.2) := by
            rw [← List.map_mergeSort (r := fun a b => leD a.1 b.1) (f := fun z : D × V => (z.2, pyD z.1)) (fun a _ b _ => rfl), List.map_map]
            rfl
          refine ⟨a, zs.map fun z => (z.2, pyD z.1), rfl, by rw [eb1]; exact hs, fun b hb => ?_, by rw [eb2]; exact s1, by rw [eb2]; exact s2, fun b hb => ?_, fun p hp => ?_⟩
          · obtain ⟨z, hz, rfl⟩ := List.mem_map.mp hb
            have hd : z.1 ∈ ys := by rw [← z1]; exact List.mem_map.mpr ⟨z, hz, rfl⟩
            exact dp_same (frz_same ρ H) (den_dp (z3 z hz) (p2 _ hd))
          · have hb2 : b.2 ∈ ps := by rw [← eb2]; exact List.mem_map.mpr ⟨b, hb, rfl⟩
            exact s3 _ hb2
          · rw [m2]
            refine q _ _ (Nx.new hp) (S.new hp) (.lst (frz_at (S.notin hp) upd_same) (Dens.mono (Nx.new hp).ext ?_))
            rw [← m1]
            exact dens_unzip fun z hz => z3 z ((List.mergeSort_perm _ _).mem_iff.mp hz)
        · cases e
  · cases e
/-! ### sorted(set(xs)) of texts -/
def gSetS : D → Sto → Option D := fun d M => (sqD M d).bind fun ys => if isTup d = true then none else (strsD ys).bind fun ks => if ks.length < 1000 then some (.lst ((sortU ks).map .str)) else none
theorem dens_strs {K : Frag} {ρ : List (Option Addr)} {Φ : Hp} : ∀ xs : List Str, Dens K ρ Φ (xs.map .str) (xs.map V.str)
  | [] => .nil
  | x :: xs => .cons (.str x) (dens_strs xs)
theorem pd_sortSet {e : Expr} {f : EF} {p p2 q pos : Pos} (hc : X.calm = true) (hu : X.A.units + 64 < cLine) (hg : Gl X "sorted") (hm : X.mg "sorted" = none) (hg2 : Gl X "set") (hm2 : X.mg "set" = none) (he : PD X W e f)
    (h1 : starEach [e] X.env = (false, eval e X.env) :: starEach [] X.env := by rfl) (h2 : starEach [(.Call (.Name "set" p2) [e] [] q : Expr)] X.env = (false, eval (.Call (.Name "set" p2) [e] [] q) X.env) :: starEach [] X.env := by rfl) :
    PD X W (.Call (.Name "sorted" p) [.Call (.Name "set" p2) [e] [] q] [] pos) (eUn gSetS f) :=
  pe_mono (pe_callB (call_sortS hc hu) hg hm PyProof.Rows.boot_sorted (pa_cons (pe_callTy (call_setS hc) hg2 hm2 PyProof.Rows.boot_set (pa_cons he pa_nil h1) (by decide) (by decide) h1 rfl) pa_nil h2) (by decide) (by decide) h2 rfl) fun σ H Q ⟨ρ, δ, M, hE, hS, h⟩ =>
    rd_mono (rd_bind (f := f) (g := fun x => opt (gSetS x)) hE hS h) fun x H1 ⟨ρ1, d1, M1, n1, e1, s1, r1, hq⟩ => by
      obtain ⟨z, ez, hz⟩ := opt_of hq
      unfold gSetS at ez
      cases e2 : sqD M1 d1 with
      | none => simp [e2] at ez
      | some ys =>
        cases t : isTup d1 with
        | true => simp [e2, t] at ez
        | false =>
          cases e3 : strsD ys with
          | none => simp [e2, t, e3] at ez
          | some ks =>
            have ez : (if ks.length < 1000 then some (D.lst ((sortU ks).map .str)) else none) = some z := by simpa [e2, t, e3] using ez
            split at ez
            · rename_i hl
              cases ez
              obtain ⟨a, vs, rfl, hsq, hv⟩ := sqD_L s1 r1 e2 t
              have ev := strsD_of hv e3
              subst ev
              refine ⟨a, ks, rfl, hsq, hl, fun p hp => ⟨p, ks, rfl, upd_same, fun p2 hp2 => ?_⟩⟩
              have n2 := Nx.new (ρ := ρ1) (o := SetKO X.w p fun k => (ks.map Sum.inr).any fun x => decide (x = k)) hp
              have s2 := s1.new (o := SetKO X.w p fun k => (ks.map Sum.inr).any fun x => decide (x = k)) hp
              have n3 := Nx.new (ρ := ρ1) (o := .lst ((sortU ks).map V.str)) hp2
              exact hz _ _ (n2.trans n3) (s2.new hp2) (.lst (frz_at (s2.notin hp2) upd_same) (dens_strs _))
            · cases ez
end
end L2.MK

end

section
set_option Elab.async false
set_option linter.all false
set_option maxRecDepth 100000
set_option maxHeartbeats 2000000
set_option autoImplicit false
/-! Defs, calls. -/
namespace L2.MK
open PySem PySem.Spec PyProof.Rows PySem.W

/-! ### what is behind a call: new things that nobody changes any more -/
mutual
def thawW (g : Nat → Option D) : D → Option D
  | .tup xs => (thawsW g xs).map .tup
  | .lst xs => (thawsW g xs).map .lst
  | .rol xs => (thawsW g xs).map .rol
  | .dct ks xs => (thawsW g xs).map (.dct ks)
  | .ref i => g i
  | .ins C fs => (thawfW g fs).map (.ins C)
  | .exc C fs => (thawfW g fs).map (.exc C)
  | .non => some .non
  | .bl b => some (.bl b)
  | .int i => some (.int i)
  | .str x => some (.str x)
  | .ty T => some (.ty T)
  | .cls C => some (.cls C)
def thawsW (g : Nat → Option D) : List D → Option (List D)
  | [] => some []
  | d :: r => match thawW g d, thawsW g r with
    | some x, some xs => some (x :: xs)
    | _, _ => none
def thawfW (g : Nat → Option D) : List (Str × D) → Option (List (Str × D))
  | [] => some []
  | (f, d) :: r => match thawW g d, thawfW g r with
    | some x, some xs => some ((f, x) :: xs)
    | _, _ => none
end
/-- the new ones by their contents -/
def resN (n : Nat) (M : Sto) : Nat → Nat → Option D
  | 0, i => if i < n then some (.ref i) else none
  | k + 1, i => if i < n then some (.ref i) else match M[i]? with
    | some (.lst xs) => (thawsW (resN n M k) xs).map .lst
    | some (.ins C fs) => (thawfW (resN n M k) fs).map (.ins C)
    | some (.dK kvs) => (thawsW (resN n M k) (kvs.map (·.2))).map (.dct (kvs.map (·.1)))
    | _ => none
def thaw (n : Nat) (M : Sto) (d : D) : Option D := thawW (resN n M 4) d
def thawMO (n : Nat) (M : Sto) : MO → Option MO
  | .lst xs => (thawsW (resN n M 4) xs).map .lst
  | .dK kvs => (thawsW (resN n M 4) (kvs.map (·.2))).map fun ys => .dK ((kvs.map (·.1)).zip ys)
  | .ins C fs => (thawfW (resN n M 4) fs).map (.ins C)
  | .opq => some .opq
  | .dead => some .dead
def thawSto (n : Nat) (M : Sto) : List MO → Option (List MO)
  | [] => some []
  | m :: r => match thawMO n M m, thawSto n M r with
    | some x, some xs => some (x :: xs)
    | _, _ => none
def bothO {α : Type} (a : Option α) (m : Option Sto) (mk : α → Sto → Out D) : Out D := match a, m with
  | some x, some y => mk x y
  | _, _ => .stuck
/-- the end of a call made at n things -/
def trimO (n : Nat) : Out D → Out D
  | .ok d M => bothO (thaw n M d) (thawSto n M (M.take n)) .ok
  | .exc C fs M => bothO (thawfW (resN n M 4) fs) (thawSto n M (M.take n)) (.exc C)
  | .stuck => .stuck
section
variable {K : Frag} {ρ ρ0 : List (Option Addr)} {H : Hp} {M : Sto} {n : Nat}
theorem frz_less (h : ∀ a : Addr, some a ∈ ρ0 → some a ∈ ρ) : Same (frz ρ H) (frz ρ0 H) := fun a o e => by
  obtain ⟨n1, e1⟩ := frz_of e
  exact frz_at (fun z => n1 (h a z)) e1
/-- what g gives stands there too -/
def ResOk (K : Frag) (ρ ρ0 : List (Option Addr)) (H : Hp) (g : Nat → Option D) : Prop := ∀ i d v, g i = some d → Den K ρ (frz ρ H) (.ref i) v → Den K ρ0 (frz ρ0 H) d v
mutual
theorem thaw_den {g : Nat → Option D} (s : Same (frz ρ H) (frz ρ0 H)) (ok : ResOk K ρ ρ0 H g) : ∀ {d d' : D} {v : V}, thawW g d = some d' → Den K ρ (frz ρ H) d v → Den K ρ0 (frz ρ0 H) d' v
  | .non, _, _, e, .non => by cases e; exact .non
  | .bl b, _, _, e, .bl _ => by cases e; exact .bl b
  | .int i, _, _, e, .int _ => by cases e; exact .int i
  | .str x, _, _, e, .str _ => by cases e; exact .str x
  | .ty T, _, _, e, .ty _ => by cases e; exact .ty T
  | .cls C, _, _, e, .cls _ => by cases e; exact .cls C
  | .ref i, d', v, e, r => ok i d' v e r
  | .tup ds, d', _, e, .tup h r => by
    unfold thawW at e
    cases q : thawsW g ds with
    | none => rw [q] at e; cases e
    | some es => rw [q] at e; cases e; exact .tup (same_sqT s h) (thaws_den s ok q r)
  | .lst ds, d', _, e, .lst h r => by
    unfold thawW at e
    cases q : thawsW g ds with
    | none => rw [q] at e; cases e
    | some es => rw [q] at e; cases e; exact .lst (s _ _ h) (thaws_den s ok q r)
  | .rol ds, d', _, e, .rol h r => by
    unfold thawW at e
    cases q : thawsW g ds with
    | none => rw [q] at e; cases e
    | some es => rw [q] at e; cases e; exact .rol (s.seq h) (thaws_den s ok q r)
  | .dct ks ds, d', _, e, .dct h h2 r => by
    unfold thawW at e
    cases q : thawsW g ds with
    | none => rw [q] at e; cases e
    | some es => rw [q] at e; cases e; exact .dct (s _ _ h) h2 (thaws_den s ok q r)
  | .ins C fs, d', _, e, .ins h r => by
    unfold thawW at e
    cases q : thawfW g fs with
    | none => rw [q] at e; cases e
    | some es => rw [q] at e; cases e; exact .ins (s _ _ h) (thawf_den s ok q r)
  | .exc C fs, d', _, e, .exc h1 h2 h3 r => by
    unfold thawW at e
    cases q : thawfW g fs with
    | none => rw [q] at e; cases e
    | some es =>
      rw [q] at e
      cases e
      refine .exc (s _ _ h1) (fun dd z => s _ _ (h2 dd z)) (fun z => ?_) (thawf_den s ok q r)
      have := h3 z
      subst this
      cases q
      rfl
theorem thaws_den {g : Nat → Option D} (s : Same (frz ρ H) (frz ρ0 H)) (ok : ResOk K ρ ρ0 H g) : ∀ {ds ds' : List D} {vs : List V}, thawsW g ds = some ds' → Dens K ρ (frz ρ H) ds vs → Dens K ρ0 (frz ρ0 H) ds' vs
  | [], _, _, e, .nil => by cases e; exact .nil
  | d :: ds, _, _, e, .cons h r => by
    unfold thawsW at e
    cases q : thawW g d with
    | none => rw [q] at e; cases e
    | some x =>
      cases q2 : thawsW g ds with
      | none => rw [q, q2] at e; cases e
      | some xs => rw [q, q2] at e; cases e; exact .cons (thaw_den s ok q h) (thaws_den s ok q2 r)
theorem thawf_den {g : Nat → Option D} (s : Same (frz ρ H) (frz ρ0 H)) (ok : ResOk K ρ ρ0 H g) : ∀ {ds ds' : List (Str × D)} {vs : List (Str × V)}, thawfW g ds = some ds' → Denf K ρ (frz ρ H) ds vs → Denf K ρ0 (frz ρ0 H) ds' vs
  | [], _, _, e, .nil => by cases e; exact .nil
  | (f, d) :: ds, _, _, e, .cons h r => by
    unfold thawfW at e
    cases q : thawW g d with
    | none => rw [q] at e; cases e
    | some x =>
      cases q2 : thawfW g ds with
      | none => rw [q, q2] at e; cases e
      | some xs => rw [q, q2] at e; cases e; exact .cons (thaw_den s ok q h) (thawf_den s ok q2 r)
end
theorem take_mem {n : Nat} {a : Option Addr} (h : a ∈ ρ.take n) : a ∈ ρ := List.mem_of_mem_take h
theorem take_at {i n : Nat} (h : i < n) : (ρ.take n)[i]? = ρ[i]? := by rw [List.getElem?_take, if_pos h]
theorem take_at' {i n : Nat} {x : Option Addr} (h : (ρ.take n)[i]? = some x) : i < n ∧ ρ[i]? = some x := by
  rw [List.getElem?_take] at h
  split at h
  · exact ⟨by assumption, h⟩
  · cases h
theorem denK_split : ∀ {ds : List (Key × D)} {vs : List (Key × V)}, DenK K ρ (frz ρ H) ds vs → ds.map (·.1) = vs.map (·.1) ∧ Dens K ρ (frz ρ H) (ds.map (·.2)) (vs.map (·.2))
  | [], [], _ => ⟨rfl, .nil⟩
  | [], _ :: _, h => h.elim
  | _ :: _, [], h => h.elim
  | (k, d) :: ds, (j, v) :: vs, ⟨h1, h2, h3⟩ => by
    obtain ⟨h4, h5⟩ := denK_split h3
    exact ⟨by rw [List.map_cons, List.map_cons, h4]; simp only [h1], .cons h2 h5⟩
theorem resN_ok (S : StOk K ρ M H) : ∀ k, ResOk K ρ (ρ.take n) H (resN n M k)
  | 0 => fun i d v e r => by
    unfold resN at e
    split at e
    · rename_i hi
      cases e
      cases r with
      | ref h => exact .ref (by rw [take_at hi]; exact h)
    · cases e
  | k + 1 => fun i d v e r => by
    have sm : Same (frz ρ H) (frz (ρ.take n) H) := frz_less fun a h => take_mem h
    unfold resN at e
    split at e
    · rename_i hi
      cases e
      cases r with
      | ref h => exact .ref (by rw [take_at hi]; exact h)
    · rename_i hi
      cases r with
      | @ref _ a h =>
        have notin : some a ∉ ρ.take n := fun z => by
          obtain ⟨j, hj, e2⟩ := List.mem_iff_getElem.mp z
          have e3 : (ρ.take n)[j]? = some (some a) := by rw [List.getElem?_eq_getElem hj, e2]
          obtain ⟨h1, h2⟩ := take_at' e3
          exact hi (by rw [S.inj i j a h h2]; exact h1)
        obtain ⟨m, h1, h2⟩ := S.at_ i a h
        rw [h1] at e
        cases m with
        | lst xs =>
          simp only at e
          cases q : thawsW (resN n M k) xs with
          | none => rw [q] at e; cases e
          | some ys =>
            rw [q] at e
            cases e
            obtain ⟨vs, h3, h4⟩ := h2
            exact .lst (frz_at notin h3) (thaws_den sm (resN_ok S k) q h4)
        | ins C fs =>
          simp only at e
          cases q : thawfW (resN n M k) fs with
          | none => rw [q] at e; cases e
          | some ys =>
            rw [q] at e
            cases e
            obtain ⟨dx, vs, h3, h4⟩ := h2
            exact .ins (frz_at notin h3) (thawf_den sm (resN_ok S k) q h4)
        | dK kvs =>
          simp only at e
          cases q : thawsW (resN n M k) (kvs.map (·.2)) with
          | none => rw [q] at e; cases e
          | some ys =>
            rw [q] at e
            cases e
            obtain ⟨ws, h3, h4⟩ := h2
            obtain ⟨h5, h6⟩ := denK_split h4
            exact .dct (frz_at notin h3) h5.symm (thaws_den sm (resN_ok S k) q h6)
        | _ => cases e
theorem thawMO_ok (S : StOk K ρ M H) {a : Addr} {m m' : MO} (e : thawMO n M m = some m') (h : MOk K ρ H a m) : MOk K (ρ.take n) H a m' := by
  have sm : Same (frz ρ H) (frz (ρ.take n) H) := frz_less fun a h => take_mem h
  cases m with
  | lst xs =>
    replace e : (thawsW (resN n M 4) xs).map MO.lst = some m' := e
    cases q : thawsW (resN n M 4) xs with
    | none => rw [q] at e; cases e
    | some ys => rw [q] at e; cases e; obtain ⟨vs, h3, h4⟩ := h; exact ⟨vs, h3, thaws_den sm (resN_ok S 4) q h4⟩
  | ins C fs =>
    replace e : (thawfW (resN n M 4) fs).map (MO.ins C) = some m' := e
    cases q : thawfW (resN n M 4) fs with
    | none => rw [q] at e; cases e
    | some ys => rw [q] at e; cases e; obtain ⟨dx, vs, h3, h4⟩ := h; exact ⟨dx, vs, h3, thawf_den sm (resN_ok S 4) q h4⟩
  | dK kvs =>
    replace e : (thawsW (resN n M 4) (kvs.map (·.2))).map (fun ys => MO.dK ((kvs.map (·.1)).zip ys)) = some m' := e
    cases q : thawsW (resN n M 4) (kvs.map (·.2)) with
    | none => rw [q] at e; cases e
    | some ys =>
      rw [q] at e
      cases e
      obtain ⟨ws, h3, h4⟩ := h
      refine ⟨ws, h3, ?_⟩
      have split1 : ∀ {ds : List (Key × D)} {vs : List (Key × V)}, DenK K ρ (frz ρ H) ds vs → ds.map (·.1) = vs.map (·.1) ∧ Dens K ρ (frz ρ H) (ds.map (·.2)) (vs.map (·.2)) := by
        intro ds
        induction ds with
        | nil => intro vs h; cases vs with
          | nil => exact ⟨rfl, .nil⟩
          | cons _ _ => exact h.elim
        | cons d ds ih => intro vs h; cases vs with
          | nil => exact h.elim
          | cons v vs => obtain ⟨h1, h2, h3⟩ := h; obtain ⟨h4, h5⟩ := ih h3; exact ⟨by rw [List.map_cons, List.map_cons, h4, h1], .cons h2 h5⟩
      have join1 : ∀ {ys : List D} {vs : List (Key × V)}, Dens K (ρ.take n) (frz (ρ.take n) H) ys (vs.map (·.2)) → DenK K (ρ.take n) (frz (ρ.take n) H) ((vs.map (·.1)).zip ys) vs := by
        intro ys
        induction ys with
        | nil => intro vs h; cases vs with
          | nil => trivial
          | cons _ _ => cases h
        | cons d ds ih => intro vs h; cases vs with
          | nil => cases h
          | cons v vs => cases h with
            | cons h1 h2 => exact ⟨rfl, h1, ih h2⟩
      obtain ⟨k1, k2⟩ := split1 h4
      rw [k1]
      exact join1 (thaws_den sm (resN_ok S 4) q k2)
  | opq => cases e; exact h
  | dead => exact h.elim
theorem thawSto_at : ∀ {ms ms' : List MO}, thawSto n M ms = some ms' → ms.length = ms'.length ∧ ∀ (i : Nat) (m : MO), ms[i]? = some m → ∃ m', ms'[i]? = some m' ∧ thawMO n M m = some m'
  | [], _, e => by cases e; exact ⟨rfl, fun i m h => by simp at h⟩
  | m :: r, ms', e => by
    unfold thawSto at e
    cases q : thawMO n M m with
    | none => rw [q] at e; cases e
    | some x =>
      cases q2 : thawSto n M r with
      | none => rw [q, q2] at e; cases e
      | some xs =>
        rw [q, q2] at e
        cases e
        obtain ⟨h1, h2⟩ := thawSto_at q2
        refine ⟨by simp [h1], fun i m0 h => ?_⟩
        cases i with
        | zero => simp at h; subst h; exact ⟨x, rfl, q⟩
        | succ i => simpa using h2 i m0 (by simpa using h)
theorem trim_st (S : StOk K ρ M H) {M' : Sto} (e : thawSto n M (M.take n) = some M') : StOk K (ρ.take n) M' H := by
  obtain ⟨h1, h2⟩ := thawSto_at e
  refine ⟨by rw [← h1, List.length_take, List.length_take, S.len], fun i j a ha hb => S.inj i j a (take_at' ha).2 (take_at' hb).2, fun i a ha => ?_, fun i hi => ?_⟩
  · obtain ⟨hl, h3⟩ := take_at' ha
    obtain ⟨m, h4, h5⟩ := S.at_ i a h3
    obtain ⟨m', h6, h7⟩ := h2 i m (by rw [List.getElem?_take, if_pos hl]; exact h4)
    exact ⟨m', h6, thawMO_ok S h7 h5⟩
  · obtain ⟨hl, h3⟩ := take_at' hi
    have h4 := S.dead i h3
    obtain ⟨m', h6, h7⟩ := h2 i .dead (by rw [List.getElem?_take, if_pos hl]; exact h4)
    cases h7
    exact h6
theorem trim_nx {ρ1 : List (Option Addr)} {H1 : Hp} (nx : Nx ρ1 H1 ρ H) : Nx ρ1 H1 (ρ.take ρ1.length) H := ⟨fun i a h => by
  rw [take_at (List.getElem?_eq_some_iff.mp h).1]
  exact nx.refs i a h, fun a o h => frz_less (fun a h => take_mem h) a o (nx.same a o h), by rw [List.length_take]; have := nx.len; omega, nx.exts⟩
/-- a wish behind the trimmed end is a wish behind the call -/
theorem trim_of {W' : Value → Option Addr → Hp → Prop} {ρ1 : List (Option Addr)} {H1 : Hp} {Q : VK} {o : Out D} (hn : ρ1.length = n) (h : Res K W' ρ1 H1 Q (trimO n o)) : Res K W' ρ1 H1 Q o := by
  subst hn
  cases o with
  | stuck => exact h
  | ok d M =>
    replace h : Res K W' ρ1 H1 Q (bothO (thaw ρ1.length M d) (thawSto ρ1.length M (M.take ρ1.length)) .ok) := h
    cases e1 : thaw ρ1.length M d with
    | none => rw [e1] at h; exact h.elim
    | some d' =>
      cases e2 : thawSto ρ1.length M (M.take ρ1.length) with
      | none => rw [e1, e2] at h; exact h.elim
      | some M' =>
        rw [e1, e2] at h
        intro ρ' v H' nx S r
        exact h _ v H' (trim_nx nx) (trim_st S e2) (thaw_den (frz_less fun a h => take_mem h) (resN_ok S 4) e1 r)
  | exc C fs M =>
    replace h : Res K W' ρ1 H1 Q (bothO (thawfW (resN ρ1.length M 4) fs) (thawSto ρ1.length M (M.take ρ1.length)) (.exc C)) := h
    cases e1 : thawfW (resN ρ1.length M 4) fs with
    | none => rw [e1] at h; exact h.elim
    | some d' =>
      cases e2 : thawSto ρ1.length M (M.take ρ1.length) with
      | none => rw [e1, e2] at h; exact h.elim
      | some M' =>
        rw [e1, e2] at h
        intro ρ' d H' nx S r
        refine h _ d H' (trim_nx nx) (trim_st S e2) ?_
        rcases r with ⟨rfl, rfl⟩ | ⟨dd, vfs, rfl, h3, h4⟩
        · cases e1
          exact .inl ⟨rfl, rfl⟩
        · exact .inr ⟨dd, vfs, rfl, frz_less (fun a h => take_mem h) _ _ h3, thawf_den (frz_less fun a h => take_mem h) (resN_ok S 4) e1 h4⟩
end
end L2.MK

end

section
set_option Elab.async false
set_option linter.all false
set_option maxRecDepth 100000
set_option maxHeartbeats 2000000
set_option autoImplicit false
/-! Defs by what they give, calls of them. -/
namespace L2.MK
open PySem PySem.Spec PyProof.Rows PySem.W

/-- what a def's body gives -/
def bodyO : SO → Out D
  | .nx _ M => .ok .non M
  | .ret d M => .ok d M
  | .exc C fs _ M => .exc C fs M
  | .stuck => .stuck
def startD (N : List Str) (ds : List D) : Env := ds.map some ++ List.replicate (N.length - ds.length) none
/-- a def that gives what g gives -/
structure FnG (P : Program) (w : World) (K : Frag) (mg : Str → Option Value) (base : Heap) (k : Nat) (f : Addr) (fd : FuncData) (ps : List Str) (g : List D → Ev D) : Prop where
  run : ∀ (A : Around) (outer : List PySem.Env) (s : Shared) (H : Hp) (args : Args) (us : List Value) (vs : List V) (Q : VK) (E : XK) (ρ : List (Option Addr)) (M : Sto) (ds : List D), Room k A → A.guards = some [] → Env0 P w K mg base A outer s H →
    BindsTo s fd args (ps.zip us) → Vals vs us → vs.length = ps.length → StOk K ρ M H → Dens K ρ (frz ρ H) ds vs → Res K E ρ H Q (g ds M) →
    codeAny (model P w) A (.call (.ref f) args) (CR (CX P w) outer P w H s Q E) s
section
variable {P : Program} {w : World} {K : Frag} {mg : Str → Option Value} {base : Heap} {k : Nat} {f : Addr} {fd : FuncData} {ps : List Str} {g : List D → Ev D}
theorem FnG.mono {j k : Nat} (F : FnG P w K mg base j f fd ps g) (h : j ≤ k) : FnG P w K mg base k f fd ps g := ⟨fun A outer s H args us vs Q E ρ M ds hr => F.run A outer s H args us vs Q E ρ M ds (hr.mono h)⟩
/-- as the kit's defs are, with guards -/
def spG (K : Frag) (n : Nat) (g : List D → Ev D) : Sp := fun vs H Q E => vs.length = n ∧ ∃ ρ M ds, StOk K ρ M H ∧ Dens K ρ (frz ρ H) ds vs ∧ Res K E ρ H Q (g ds M)
theorem denE_none {ρ : List (Option Addr)} {Φ : Hp} : ∀ n : Nat, DenE K ρ Φ (List.replicate n none) (List.replicate n none)
  | 0 => trivial
  | n + 1 => denE_none n
theorem denE_start {ρ : List (Option Addr)} {Φ : Hp} {n : Nat} : ∀ {ds : List D} {vs : List V}, Dens K ρ Φ ds vs → DenE K ρ Φ (ds.map some ++ List.replicate n none) (vs.map some ++ List.replicate n none)
  | _, _, .nil => denE_none n
  | _, _, .cons h r => ⟨h, denE_start r⟩
/-- THE RULE for a def -/
theorem okG {x qual : Str} {params : Arguments} {body : List Stmt} {scope : Scope} {dvs : List V} {kws : List (Str × V)} {N : List Str} {fb : SF} (F : FunD K x qual params body scope dvs kws f fd) (S : FnScope N ps scope)
    (hbody : ∀ (cdv : Value) (A : Around) (outer : List PySem.Env) (s : Shared) (H : Hp) (E : XK), Room k (A.deeper (envOfC qual scope s.heap.objs.size f cdv)) → (A.deeper (envOfC qual scope s.heap.objs.size f cdv)).guards = some [] →
      Takes (cxOf (CX P w) P w K mg base N qual scope f cdv A outer s H E) (fun c d _ H' => E c d H') → PassesOwn (model P w) (A.deeper (envOfC qual scope s.heap.objs.size f cdv)) (envOfC qual scope s.heap.objs.size f cdv) (cxOf (CX P w) P w K mg base N qual scope f cdv A outer s H E).xe →
      PDSs (cxOf (CX P w) P w K mg base N qual scope f cdv A outer s H E) (fun c d _ H' => E c d H') body fb) : FnG P w K mg base (k + 1) f fd ps fun ds M => bodyO (fb (startD N ds) M) := by
  obtain ⟨oc, od, dV, kV, doc, pm, an, cdv, ct, osl, rfl, lk, hcd, _, _⟩ := F.ex
  refine ⟨fun A outer s H args us vs Q E ρ M ds hr hg e0 hb r hl hS hD hres => ?_⟩
  have KX : K.In s.heap := e0.mod.kin.keeps fun b o e => (e0.bs b o e).1
  have lim : s.heap.NoLimit := e0.mod.nolimit.keeps fun b o e => (e0.bs b o e).1
  have hkind : ∀ y ∈ ps.zip us, scope.names.lookup y.1 = some .local ∨ (scope.names.lookup y.1 = some .cell ∧ ((cellsFrom (s.heap.objs.size + 1) scope.names []).lookup y.1).isSome = true) := fun ⟨n, v⟩ hy => by
    rcases S.par n (List.of_mem_zip hy).1 with q | q
    · exact .inl q
    · exact .inr ⟨q, PySem.W.cellsFrom_some _ _ _ (.inl q)⟩
  refine codeAny_call_function hr.depth (KX _ _ lk) rfl S.co S.gen rfl (PySem.W.codeRec_of KX hcd) (hb _ _ _ _ ?_)
  refine wpAny_newFunctionEnv_cells S.kind hkind fun env he s1 x => ?_
  subst he
  refine ⟨lim.keeps x.toInCall.keep, codeAny_func ?_⟩
  have ht := hbody cdv A outer s H E (hr.deeper _) hg (takes_of rfl rfl rfl rfl) (passes_of rfl)
  have I : Inv (cxOf (CX P w) P w K mg base N qual scope f cdv A outer s H E) [] (start N vs) H s1 := inv_start S hr.hd e0 hl r x
  have hdl : ds.length = vs.length := hD.length
  have hE : DenE K ρ (frz ρ H) (startD N ds) (start N vs) := by
    unfold startD start
    rw [hdl]
    exact denE_start hD
  have q : rdS K (fun c d _ H' => E c d H') fb { nx := fun _ H' => Q .non H', rt := Q } (start N vs) H := by
    refine ⟨ρ, startD N ds, M, hE, hS, ?_⟩
    revert hres
    cases fb (startD N ds) M with
    | nx δ' M' => exact fun h ρ' σ' H' n s _ => h ρ' .non H' n s .non
    | ret d M' => exact fun h => h
    | exc C fs δ' M' => exact fun h ρ' d σ' H' n s _ r => h ρ' d H' n s r
    | stuck => exact fun h => h
  refine wpAny_mono (ht.run [] s1 (start N vs) H _ I q) (fun fl s' hs => ?_) fun e s' hs => hs
  have fin : ∀ {σ' : St} {H' : Hp} {v : V} {u : Value}, Inv (cxOf (CX P w) P w K mg base N qual scope f cdv A outer s H E) [] σ' H' s' → RelV v u → Q v H' → CE outer P w H s Q u s' :=
    fun {σ' H' v u} J rv q => ⟨v, H', J.os, J.bare, J.base, J.hok, rv, q⟩
  cases fl with
  | ret u =>
    obtain ⟨v, σ', H', J, rv, q⟩ := hs
    exact fin J rv q
  | next =>
    obtain ⟨σ', H', J, q⟩ := hs
    exact fin (v := V.non) (u := Value.none) J rfl q
  | brk =>
    obtain ⟨_, _, _, q⟩ := hs
    exact False.elim q
  | cont =>
    obtain ⟨_, _, _, q⟩ := hs
    exact False.elim q
end

/-! ### calls -/
/-- keep: what is new stays in the store -/
def callK (g : List D → Ev D) : List D → Ev D := g
/-- .. is frozen -/
def callT (g : List D → Ev D) : List D → Ev D := fun ds M => trimO M.length (g ds M)
def eFun (g : List D → Ev D) (f : AF) : EF := fun δ => f δ >>= g
section
variable {X : Cx} {W : WX} {k : Nat} {f C : Addr} {fd : FuncData} {ps : List Str} {g : List D → Ev D} {dds : List D} {ds : List Value} {dvs : List V} {x m : Str} {p pos apos : Pos} {e o : Expr} {es : List Expr} {fa : AF} {fo : EF}
/-- the callee runs -/
theorem run_fnG {pins : List (Addr × Obj)} {σ : St} {H : Hp} {s : Shared} {Q : VK} {us : List Value} {vs : List V} {ρ : List (Option Addr)} {M : Sto} {as : List D} (F : FnG X.prog X.w X.K X.mg X.base k f fd ps g) (hr : Room k X.A) (hg : X.A.guards = some []) (hb : Binds X.K fd ps ds) (hd : Vals dvs ds)
    (tk : Takes X W) (I : Inv X pins σ H s) (r : Vals vs us) (hl : (vs ++ dvs).length = ps.length) (S : StOk X.K ρ M H) (rd : Dens X.K ρ (frz ρ H) as (vs ++ dvs)) (h : Res X.K (fun c d H' => W c d σ H') ρ H Q (g as M)) :
    wpAny (model X.prog X.w) X.A (call (.ref f) us) (EP X pins σ Q) X.xe s := by
  have r2 : Vals (vs ++ dvs) (us ++ ds) := r.append hd
  have hl2 : (us ++ ds).length = ps.length := by rw [← r2.length]; exact hl
  refine wpAny_call (codeAny_mono (F.run X.A X.stack s H ⟨us, []⟩ (us ++ ds) (vs ++ dvs) Q (fun c d H' => W c d σ H') ρ M as hr hg I.env0 (hb s us I.kIn hl2) r2 hl S rd h) fun r s' hq => ?_)
  cases r with
  | error e => exact tk _ _ (XE.of_call I (fun cls d H' h => h) hq)
  | ok fl =>
    cases fl with
    | ret u => exact I.after hq
    | next => exact False.elim hq
    | brk => exact False.elim hq
    | cont => exact False.elim hq
/-- f(e, ..): n arguments, defaults dds -/
theorem pd_call {trim : Bool} (F : FnG X.prog X.w X.K X.mg X.base k f fd ps g) (hr : Room k X.A) (hgu : X.A.guards = some []) (tk : Takes X W) (hg : Gl X x) (hm : X.mg x = some (.ref f)) (hk : PySem.W.keepIn X.K (.ref f) = true) (hb : Binds X.K fd ps ds) (hd : Vals dvs ds)
    (hdd : ∀ ρ Φ, Dens X.K ρ Φ dds dvs) (ha : PDA X W (e :: es) fa) (hln : (e :: es).length + dds.length = ps.length) (hal : ∀ δ M as M', fa δ M = .ok as M' → as.length = (e :: es).length)
    (hdb : (x == ("__debug__" : Str)) = false := by decide) (he : starEach (e :: es) X.env = (false, eval e X.env) :: starEach es X.env := by rfl) (hpl : (backTo pos (starEach es X.env)).any (·.1) = false := by rfl) :
    PD X W (.Call (.Name x p) (e :: es) [] pos) (eFun (fun as => cond trim (callT g (as ++ dds)) (callK g (as ++ dds))) fa) := by
  refine ⟨fun pins s σ H Q I ⟨ρ, δ, M, hE, hS, h⟩ => ?_⟩
  refine wpAny_Call_Name_kw (ld_glob I hg hm ?_ hdb)
  have hq : rdA X.K W fa σ H fun vs H1 => ∃ ρ1 as M1, Nx ρ H ρ1 H1 ∧ DenE X.K ρ1 (frz ρ1 H1) δ σ ∧ StOk X.K ρ1 M1 H1 ∧ Dens X.K ρ1 (frz ρ1 H1) as vs ∧ as.length = (e :: es).length ∧ Res X.K (fun c d H' => W c d σ H') ρ1 H1 Q (g (as ++ dds) M1) := by
    refine ⟨ρ, δ, M, hE, hS, ?_⟩
    replace h : Res X.K (fun c d H' => W c d σ H') ρ H Q ((fa δ >>= fun as => cond trim (callT g (as ++ dds)) (callK g (as ++ dds))) M) := h
    rw [Ev.bind_run] at h
    cases e1 : fa δ M with
    | stuck => rw [e1] at h; exact h
    | exc C fs M' => rw [e1] at h; exact h
    | ok as M' =>
      rw [e1] at h
      intro ρ' vs H' n s r
      refine ⟨ρ', as, M', n, hE.mono n.ext, s, r, hal _ _ _ _ e1, ?_⟩
      have h := Res.nx n h
      cases trim with
      | false => exact h
      | true => exact trim_of s.len h
  refine PySem.W.callWith_K (h₀ := X.base) I.ok.mod.kin hk (thn (ha.run pos pins s σ H _ I hq) fun us s1 ⟨vs, H1, I1, r, ρ1, as, M1, n1, e1, s1', r1, l1, q1⟩ => ⟨I1.kIn, ?_⟩) he hpl
  have lv : (vs ++ dvs).length = ps.length := by
    rw [List.length_append, ← r1.length, l1, ← (hdd ρ1 (frz ρ1 H1)).length]
    exact hln
  exact run_fnG F hr hgu hb hd tk I1 r lv s1' (r1.append (hdd _ _)) q1
theorem pd_call0 {trim : Bool} (F : FnG X.prog X.w X.K X.mg X.base k f fd ps g) (hr : Room k X.A) (hgu : X.A.guards = some []) (tk : Takes X W) (hg : Gl X x) (hm : X.mg x = some (.ref f)) (hk : PySem.W.keepIn X.K (.ref f) = true) (hb : Binds X.K fd ps ds) (hd : Vals dvs ds)
    (hdd : ∀ ρ Φ, Dens X.K ρ Φ dds dvs) (hln : dds.length = ps.length)
    (hdb : (x == ("__debug__" : Str)) = false := by decide) :
    PD X W (.Call (.Name x p) [] [] pos) (eFun (fun as => cond trim (callT g (as ++ dds)) (callK g (as ++ dds))) aNil) := by
  refine ⟨fun pins s σ H Q I ⟨ρ, δ, M, hE, hS, h⟩ => ?_⟩
  refine wpAny_Call_Name_kw (ld_glob I hg hm ?_ hdb)
  have h : Res X.K (fun c d H' => W c d σ H') ρ H Q (g dds M) := by
    replace h : Res X.K (fun c d H' => W c d σ H') ρ H Q ((cond trim (callT g dds) (callK g dds)) M) := h
    cases trim with
    | false => exact h
    | true => exact trim_of hS.len h
  exact PySem.W.callWith_K0 I.kIn hk (run_fnG (us := []) (vs := []) F hr hgu hb hd tk I .nil (by rw [List.nil_append, ← (hdd ρ (frz ρ H)).length]; exact hln) hS (hdd _ _) h)

/-- the lengths of argument lists -/
def ALen (f : AF) (n : Nat) : Prop := ∀ δ M as M', f δ M = .ok as M' → as.length = n
theorem alen_nil : ALen aNil 0 := fun δ M as M' e => by cases e; rfl
theorem alen_cons {f : EF} {g : AF} {n : Nat} (h : ALen g n) : ALen (aCons f g) (n + 1) := fun δ M as M' e => by
  unfold aCons at e
  rw [Ev.bind_run] at e
  cases e1 : f δ M with
  | stuck => rw [e1] at e; cases e
  | exc C fs M' => rw [e1] at e; cases e
  | ok d M1 =>
    rw [e1] at e
    replace e : (g δ >>= fun ds => Ev.pure (d :: ds)) M1 = .ok as M' := e
    rw [Ev.bind_run] at e
    cases e2 : g δ M1 with
    | stuck => rw [e2] at e; cases e
    | exc C fs M' => rw [e2] at e; cases e
    | ok ds M3 =>
      rw [e2] at e
      cases e
      exact congrArg (· + 1) (h δ M1 ds _ e2)
end
end L2.MK

end

section
set_option Elab.async false
set_option linter.all false
set_option maxRecDepth 100000
set_option maxHeartbeats 2000000
set_option autoImplicit false
/-! Instances, exceptions. -/
namespace L2.MK
open PySem PySem.Spec PyProof.Rows PySem.W

section
variable {K : Frag} {ρ : List (Option Addr)} {H : Hp} {M : Sto}
/-- an instance, its dict -/
theorem Nx.push2 {x dx C : Addr} (hx : H x = none) (hd : H dx = none) (ne : dx ≠ x) {o1 o2 : HO} : Nx ρ H (ρ ++ [some x]) (upd (upd H dx o1) x o2) := by
  have hx' : upd H dx o1 x = none := by rw [upd_ne (Ne.symm ne)]; exact hx
  exact (Nx.new hd).trans (Nx.push hx')
theorem StOk.push2 {x dx : Addr} {C : Str} (S : StOk K ρ M H) (hx : H x = none) (hd : H dx = none) (ne : dx ≠ x) : StOk K (ρ ++ [some x]) (M ++ [.ins C []]) (upd (upd H dx (.own x)) x (.ins (He.ga K C) dx [])) := by
  have hx' : upd H dx (.own x) x = none := by rw [upd_ne (Ne.symm ne)]; exact hx
  exact (S.new hd).push hx' ⟨dx, [], upd_same, .nil⟩
end
section
variable {X : Cx} {W : WX} {k : Nat} {f : Addr} {fd : FuncData} {ps : List Str} {g : List D → Ev D} {dds : List D} {ds : List Value} {dvs : List V} {x m C : Str} {p pos apos : Pos} {e o : Expr} {es : List Expr} {fa : AF} {fo : EF}
/-- C(..): the new thing joins the store, __init__ works at it -/
def makeK (C : Str) (g : List D → Ev D) : List D → Ev D := fun ds M => match g (.ref M.length :: ds) (M ++ [.ins C []]) with
  | .ok .non M' => .ok (.ref M.length) M'
  | .exc C fs M' => .exc C fs M'
  | _ => .stuck
def makeT (C : Str) (g : List D → Ev D) : List D → Ev D := fun ds M => trimO M.length (makeK C g ds M)
theorem run_makeG {pins : List (Addr × Obj)} {σ : St} {H : Hp} {s : Shared} {Q : VK} {us : List Value} {vs : List V} {ρ : List (Option Addr)} {M : Sto} {as : List D} (Mq : Mk X.K (He.ga X.K C) f) (F : FnG X.prog X.w X.K X.mg X.base k f fd ps g) (hr : Room (k + 1) X.A) (hg : X.A.guards = some []) (hb : Binds X.K fd ps ds) (hd : Vals dvs ds)
    (tk : Takes X W) (I : Inv X pins σ H s) (r : Vals vs us) (hl : (vs ++ dvs).length + 1 = ps.length) (S : StOk X.K ρ M H) (rd : Dens X.K ρ (frz ρ H) as (vs ++ dvs)) (h : Res X.K (fun c d H' => W c d σ H') ρ H Q (makeK C g as M)) :
    wpAny (model X.prog X.w) X.A (call (.ref (He.ga X.K C)) us) (EP X pins σ Q) X.xe s := by
  have hx : H (s.heap.objs.size + 1) = none := I.hok.fresh (Nat.le_succ _)
  have hdx : H s.heap.objs.size = none := I.hok.fresh (Nat.le_refl _)
  have ne : s.heap.objs.size ≠ s.heap.objs.size + 1 := Nat.ne_of_lt (Nat.lt_succ_self _)
  have I2 := Inv.made (C := He.ga X.K C) I
  have n2 := Nx.push2 (ρ := ρ) (C := He.ga X.K C) (o1 := .own (s.heap.objs.size + 1)) (o2 := .ins (He.ga X.K C) s.heap.objs.size []) hx hdx ne
  have S2 := StOk.push2 (C := C) S hx hdx ne
  have r2 : Vals (V.ref (s.heap.objs.size + 1) :: (vs ++ dvs)) (Value.ref (s.heap.objs.size + 1) :: (us ++ ds)) := .cons rfl (r.append hd)
  have hl2 : (Value.ref (s.heap.objs.size + 1) :: us ++ ds).length = ps.length := by
    have e := r2.length
    rw [List.length_cons, List.length_cons] at e
    show (us ++ ds).length + 1 = ps.length
    omega
  have rd2 : Dens X.K (ρ ++ [some (s.heap.objs.size + 1)]) (frz (ρ ++ [some (s.heap.objs.size + 1)]) (upd (upd H s.heap.objs.size (.own (s.heap.objs.size + 1))) (s.heap.objs.size + 1) (.ins (He.ga X.K C) s.heap.objs.size []))) (.ref M.length :: as) (V.ref (s.heap.objs.size + 1) :: (vs ++ dvs)) := by
    refine .cons (.ref ?_) (rd.mono n2.ext)
    rw [← S.len, List.getElem?_append_right (Nat.le_refl _)]
    simp
  have h2 : Res X.K (fun c d H' => W c d σ H') (ρ ++ [some (s.heap.objs.size + 1)]) (upd (upd H s.heap.objs.size (.own (s.heap.objs.size + 1))) (s.heap.objs.size + 1) (.ins (He.ga X.K C) s.heap.objs.size []))
      (fun v H2 => v = .non ∧ Q (.ref (s.heap.objs.size + 1)) H2) (g (.ref M.length :: as) (M ++ [.ins C []])) := by
    unfold makeK at h
    revert h
    cases e1 : g (.ref M.length :: as) (M ++ [.ins C []]) with
    | stuck => exact fun h => h
    | exc C' fs M' => exact fun h ρ' d H' n s r => h ρ' d H' (n2.trans n) s r
    | ok d M' =>
      intro h
      cases d with
      | non =>
        intro ρ' v H' n s' r'
        cases r'
        refine ⟨rfl, h ρ' _ H' (n2.trans n) s' (.ref (n.refs _ _ ?_))⟩
        rw [← S.len, List.getElem?_append_right (Nat.le_refl _)]
        simp
      | _ => exact h.elim
  refine wpAny_call (make_map (f := f) I.kIn Mq.makes Mq.init (beq_iff_eq.mp Mq.fn) (codeAny_mono (F.run _ X.stack _ _ ⟨Value.ref (s.heap.objs.size + 1) :: us, []⟩ (Value.ref (s.heap.objs.size + 1) :: (us ++ ds)) _ _ (fun c d H' => W c d σ H') _ _ _ (hr.make _ us []) ?_
    (I2.env0.make _ us []) (hb _ (Value.ref (s.heap.objs.size + 1) :: us) I2.kIn hl2) r2 (by rw [List.length_cons]; exact hl) S2 rd2 h2) fun r s' hq' => ?_))
  · have e0 : (X.A.under (.builtin "type.__call__" ⟨.ref (He.ga X.K C) :: us, []⟩)).guards = X.A.guards := by
      first
        | rfl
        | simp [Around.under, pushGuards, Code.guards, Code.isGuard, guardIds]
    rw [e0]; exact hg
  · cases r with
    | error e => exact tk _ _ (XE.of_call I2 (fun cls d H' h => h) hq')
    | ok fl =>
      cases fl with
      | ret u =>
        obtain ⟨v, H', I3, rv, ev, q3⟩ := I2.after hq'
        subst ev
        exact ⟨rv, ⟨V.ref (s.heap.objs.size + 1), H', I3, rfl, q3⟩⟩
      | next => exact False.elim hq'
      | brk => exact False.elim hq'
      | cont => exact False.elim hq'
theorem pd_make {trim : Bool} (Mq : Mk X.K (He.ga X.K C) f) (F : FnG X.prog X.w X.K X.mg X.base k f fd ps g) (hr : Room (k + 1) X.A) (hgu : X.A.guards = some []) (tk : Takes X W) (hg : Gl X x) (hm : X.mg x = some (.ref (He.ga X.K C))) (hb : Binds X.K fd ps ds) (hd : Vals dvs ds)
    (hdd : ∀ ρ Φ, Dens X.K ρ Φ dds dvs) (ha : PDA X W (e :: es) fa) (hln : (e :: es).length + dds.length + 1 = ps.length) (hal : ALen fa (e :: es).length)
    (hdb : (x == ("__debug__" : Str)) = false := by decide) (he : starEach (e :: es) X.env = (false, eval e X.env) :: starEach es X.env := by rfl) (hpl : (backTo pos (starEach es X.env)).any (·.1) = false := by rfl) :
    PD X W (.Call (.Name x p) (e :: es) [] pos) (eFun (fun as => cond trim (makeT C g (as ++ dds)) (makeK C g (as ++ dds))) fa) := by
  refine ⟨fun pins s σ H Q I ⟨ρ, δ, M, hE, hS, h⟩ => ?_⟩
  refine wpAny_Call_Name_kw (ld_glob I hg hm ?_ hdb)
  have hq : rdA X.K W fa σ H fun vs H1 => ∃ ρ1 as M1, Nx ρ H ρ1 H1 ∧ DenE X.K ρ1 (frz ρ1 H1) δ σ ∧ StOk X.K ρ1 M1 H1 ∧ Dens X.K ρ1 (frz ρ1 H1) as vs ∧ as.length = (e :: es).length ∧ Res X.K (fun c d H' => W c d σ H') ρ1 H1 Q (makeK C g (as ++ dds) M1) := by
    refine ⟨ρ, δ, M, hE, hS, ?_⟩
    replace h : Res X.K (fun c d H' => W c d σ H') ρ H Q ((fa δ >>= fun as => cond trim (makeT C g (as ++ dds)) (makeK C g (as ++ dds))) M) := h
    rw [Ev.bind_run] at h
    cases e1 : fa δ M with
    | stuck => rw [e1] at h; exact h
    | exc C fs M' => rw [e1] at h; exact h
    | ok as M' =>
      rw [e1] at h
      intro ρ' vs H' n s r
      refine ⟨ρ', as, M', n, hE.mono n.ext, s, r, hal _ _ _ _ e1, ?_⟩
      have h := Res.nx n h
      cases trim with
      | false => exact h
      | true => exact trim_of s.len h
  refine PySem.W.callWith_K (h₀ := X.base) I.ok.mod.kin Mq.kp (thn (ha.run pos pins s σ H _ I hq) fun us s1 ⟨vs, H1, I1, r, ρ1, as, M1, n1, e1, s1', r1, l1, q1⟩ => ⟨I1.kIn, ?_⟩) he hpl
  have lv : (vs ++ dvs).length + 1 = ps.length := by
    rw [List.length_append, ← r1.length, l1, ← (hdd ρ1 (frz ρ1 H1)).length]
    exact hln
  exact run_makeG Mq F hr hgu hb hd tk I1 r lv s1' (r1.append (hdd _ _)) q1

/-! ### attributes -/
def fldD (M : Sto) (f : Str) : D → Option D
  | .ins _ fs => fs.lookup f
  | .exc _ fs => fs.lookup f
  | .ref i => (match M[i]? with
    | some (.ins _ fs) => fs.lookup f
    | _ => none)
  | _ => none
def clsOfD (M : Sto) : D → Option Str
  | .ins C _ => some C
  | .exc C _ => some C
  | .ref i => (match M[i]? with
    | some (.ins C _) => some C
    | _ => none)
  | _ => none
/-- o.f: Ci the classes of instances that are told, Ce of exceptions -/
def oFld (Ci Ce : List Str) (f : Str) : D → Sto → Option D := fun d M => match clsOfD M d with
  | some C => (match d with
    | .exc _ _ => if C ∈ Ce then fldD M f d else none
    | _ => if C ∈ Ci then fldD M f d else none)
  | none => none
theorem pe_or {e : Expr} {t t' : TE} (h : PE X e t) (h' : PE X e t') : PE X e (fun σ H Q => t σ H Q ∨ t' σ H Q) := ⟨fun pins s σ H Q I q => q.elim (fun z => h.run pins s σ H Q I z) fun z => h'.run pins s σ H Q I z⟩
/-- a reading that branches by what e gives -/
theorem rd_split {K : Frag} {f : EF} {g : D → Ev D} {P : D → Prop} [DecidablePred P] {σ : St} {H : Hp} {Q : VK} (h : rd K W (fun δ => f δ >>= g) σ H Q) {R R' : VK}
    (h1 : ∀ v H1 ρ1 d M1, StOk K ρ1 M1 H1 → Den K ρ1 (frz ρ1 H1) d v → P d → Res K (fun c d H' => W c d σ H') ρ1 H1 Q (g d M1) → R v H1)
    (h2 : ∀ v H1 ρ1 d M1, StOk K ρ1 M1 H1 → Den K ρ1 (frz ρ1 H1) d v → ¬ P d → Res K (fun c d H' => W c d σ H') ρ1 H1 Q (g d M1) → R' v H1) : rd K W f σ H R ∨ rd K W f σ H R' := by
  obtain ⟨ρ, δ, M, hE, hS, h⟩ := h
  replace h : Res K (fun c d H' => W c d σ H') ρ H Q ((f δ >>= g) M) := h
  rw [Ev.bind_run] at h
  cases e : f δ M with
  | stuck => rw [e] at h; exact h.elim
  | exc C fs M' => rw [e] at h; exact .inl ⟨ρ, δ, M, hE, hS, by rw [e]; exact h⟩
  | ok d M' =>
    rw [e] at h
    by_cases p : P d
    · refine .inl ⟨ρ, δ, M, hE, hS, ?_⟩
      rw [e]
      exact fun ρ' v H' n s r => h1 v H' ρ' d M' s r p (Res.nx n h)
    · refine .inr ⟨ρ, δ, M, hE, hS, ?_⟩
      rw [e]
      exact fun ρ' v H' n s r => h2 v H' ρ' d M' s r p (Res.nx n h)
def isExc : D → Bool
  | .exc _ _ => true
  | _ => false
theorem pd_fld {Ci Ce : List Str} {n : Str} (hI : ∀ C ∈ Ci, Cls X.K (He.ga X.K C) ∧ NoAttr X.K (He.ga X.K C) n) (hX : ∀ C ∈ Ce, XfC X.K (He.ga X.K C) ∧ findIn X.K (.ref (He.ga X.K C)) n = some none) (he : PD X W e fo) (hb : attributeBase e n X.env (eval e X.env) = eval e X.env := by rfl) :
    PD X W (.Attribute e n pos) (eUn (oFld Ci Ce n) fo) := pe_mono (pe_or (pe_xk he hb) (pe_fld he hb)) fun σ H Q h => by
  refine rd_split (P := fun d => isExc d = true) h (fun v H1 ρ1 d M1 S r p q => ?_) (fun v H1 ρ1 d M1 S r p q => ?_)
  · obtain ⟨z, ez, hz⟩ := opt_of q
    cases r with
    | @exc C fs a dd vfs h1 h2 h3 h4 =>
      unfold oFld at ez
      simp only [clsOfD, fldD] at ez
      split at ez
      · rename_i hc
        obtain ⟨t1, t2⟩ := hX C hc
        obtain ⟨w, l1, l2⟩ := h4.look ez
        cases dd with
        | none => rw [h3 rfl] at ez; cases ez
        | some dd => exact ⟨a, _, dd, vfs, w, rfl, (frz_of h1).2, t1, t2, (frz_of (h2 dd rfl)).2, l1, hz _ _ Nx.refl S l2⟩
      · cases ez
    | _ => cases p
  · obtain ⟨z, ez, hz⟩ := opt_of q
    cases r with
    | @ins C fs a dx vfs h1 h2 =>
      unfold oFld at ez
      simp only [clsOfD, fldD] at ez
      split at ez
      · rename_i hc
        obtain ⟨t1, t2⟩ := hI C hc
        obtain ⟨w, l1, l2⟩ := h2.look ez
        exact ⟨a, _, dx, vfs, w, rfl, (frz_of h1).2, t1, t2, l1, hz _ _ Nx.refl S l2⟩
      · cases ez
    | @ref i a h =>
      obtain ⟨m, h1, h2⟩ := S.at_ i a h
      unfold oFld at ez
      simp only [clsOfD, fldD, h1] at ez
      cases m with
      | ins C fs =>
        simp only at ez
        split at ez
        · rename_i hc
          obtain ⟨t1, t2⟩ := hI C hc
          obtain ⟨dx, vfs, h3, h4⟩ := h2
          obtain ⟨w, l1, l2⟩ := h4.look ez
          exact ⟨a, _, dx, vfs, w, rfl, h3, t1, t2, l1, hz _ _ Nx.refl S l2⟩
        · cases ez
      | _ => cases ez
    | exc _ _ _ _ => exact absurd rfl p
    | _ => cases ez
/-- o.f = e, o in the store -/
def setF (Ci : List Str) (f : Str) (o v : D) : Sto → Option Sto := fun M => match o with
  | .ref i => (match M[i]? with
    | some (.ins C fs) => if C ∈ Ci ∧ fs.length < 1000 then some (M.set i (.ins C (putD f v fs))) else none
    | _ => none)
  | _ => none
def sFldD (Ci : List Str) (f : Str) (fo fv : EF) : SF := sBind fv fun v => sBind fo fun o => fun δ M => match setF Ci f o v M with
  | some M' => .nx δ M'
  | none => .stuck
theorem pds_fld {Ci : List Str} {n : Str} {value : Expr} {fv : EF} {pos' : Pos} (hI : ∀ C ∈ Ci, Cls X.K (He.ga X.K C) ∧ NoAttr X.K (He.ga X.K C) n) (ho : PD X W o fo) (hv : PD X W value fv) (hs : swapsWith value (some (.Attribute o n pos')) pos.line X.env = pure false := by rfl) :
    PDS X W (.Assign [.Attribute o n pos'] value pos) (sFldD Ci n fo fv) := ps_mono (ps_fld ho hv hs) fun σ H E ⟨ρ, δ, M, hE, hS, h⟩ =>
  rd_mono (rd_bindS (f := fv) (g := fun v => sBind fo fun o => fun δ M => match setF Ci n o v M with
    | some M' => .nx δ M'
    | none => .stuck) hE hS h) fun y H1 ⟨ρ1, d1, M1, n1, e1, s1, r1, h1⟩ =>
    rd_mono (rd_bindS (f := fo) (g := fun o => fun δ M => match setF Ci n o d1 M with
      | some M' => .nx δ M'
      | none => .stuck) e1 s1 h1) fun x H2 ⟨ρ2, d2, M2, n2, e2, s2, r2, h2⟩ => by
      cases e : setF Ci n d2 d1 M2 with
      | none => simp only [e] at h2; exact h2.elim
      | some M3 =>
        simp only [e] at h2
        unfold setF at e
        cases r2 with
        | @ref i a h =>
          obtain ⟨m, h3, h4⟩ := s2.at_ i a h
          simp only [h3] at e
          cases m with
          | ins C fs =>
            simp only at e
            split at e
            · rename_i hc
              cases e
              obtain ⟨t1, t2⟩ := hI C hc.1
              obtain ⟨dx, vfs, h5, h6⟩ := h4
              have n3 := Nx.write (H := H2) (o := .ins (He.ga X.K C) dx (putF n y vfs)) h (fun φ q => by rw [h5] at q; cases q)
              refine ⟨a, _, dx, vfs, rfl, h5, t1, t2, by rw [← h6.length]; exact hc.2, ?_⟩
              exact h2 ρ2 σ _ n3 (s2.write h (fun φ q => by rw [h5] at q; cases q) ⟨dx, _, upd_same, Denf.put ((r1.mono n2.ext).mono n3.ext) (h6.mono n3.ext)⟩) (e2.mono n3.ext)
            · cases e
          | _ => cases e
        | _ => cases e
end
end L2.MK

end

section
set_option Elab.async false
set_option linter.all false
set_option maxRecDepth 100000
set_option maxHeartbeats 2000000
set_option autoImplicit false
/-! Comprehensions. -/
namespace L2.MK
open PySem PySem.Spec PyProof.Rows PySem.W

/-- what a target writes: a name, or parts -/
inductive Pt where
  | nm (i : Nat)
  | tp (ps : List Pt)
mutual
def setPt (M : Sto) : Pt → D → Env → Option Env
  | .nm i, d, δ => some (δ.set i (some d))
  | .tp ps, d, δ => match sqD M d with
    | some ys => setPts M ps ys δ
    | none => none
def setPts (M : Sto) : List Pt → List D → Env → Option Env
  | [], [], δ => some δ
  | p :: ps, d :: ds, δ => match setPt M p d δ with
    | some δ' => setPts M ps ds δ'
    | none => none
  | _, _, _ => none
end
mutual
def Pt.ixs : Pt → List Nat
  | .nm i => [i]
  | .tp ps => Pt.ixss ps
def Pt.ixss : List Pt → List Nat
  | [] => []
  | p :: ps => p.ixs ++ Pt.ixss ps
end
mutual
def tPt (K : Frag) : Pt → TG
  | .nm i => gName i
  | .tp ps => fun v σ H Q => gUnl K ps.length (tPts K ps) v σ H Q ∨ gTup K ps.length (tPts K ps) v σ H Q
def tPts (K : Frag) : List Pt → TGs
  | [] => gNil
  | p :: ps => gCons (tPt K p) (tPts K ps)
end
theorem setPts_len {M : Sto} : ∀ {ps : List Pt} {ds : List D} {δ δ' : Env}, setPts M ps ds δ = some δ' → ds.length = ps.length
  | [], [], _, _, _ => rfl
  | p :: ps, d :: ds, δ, δ', e => by
    unfold setPts at e
    cases q : setPt M p d δ with
    | none => rw [q] at e; cases e
    | some δ1 => rw [q] at e; exact congrArg (· + 1) (setPts_len e)
  | [], _ :: _, _, _, e => by cases e
  | _ :: _, [], _, _, e => by cases e
theorem set_wipe {σ : St} {i : Nat} {v : Option V} : ∀ {vs : List Nat}, i ∈ vs → L2.wipe (σ.set i v) vs = L2.wipe σ vs
  | [], h => (nomatch h)
  | w :: vs, h => by
    unfold L2.wipe
    by_cases e : i ∈ vs
    · rw [set_wipe e]
    · have e2 : i = w := by
        rcases List.mem_cons.mp h with z | z
        · exact z
        · exact absurd z e
      subst e2
      have key : ∀ {us : List Nat}, i ∉ us → L2.wipe (σ.set i v) us = (L2.wipe σ us).set i v := by
        intro us
        induction us with
        | nil => intro _; rfl
        | cons u us ih =>
          intro h
          unfold L2.wipe
          rw [ih (fun z => h (List.mem_cons_of_mem _ z)), List.set_comm _ _ (fun z => h (by rw [z]; exact List.mem_cons_self))]
      rw [key e, List.set_set]
theorem wipe_idem : ∀ {σ : St} {vs : List Nat}, L2.wipe (L2.wipe σ vs) vs = L2.wipe σ vs := by
  have key : ∀ {σ : St} {i : Nat} {v : Option V} {us : List Nat}, i ∉ us → L2.wipe (σ.set i v) us = (L2.wipe σ us).set i v := by
    intro σ i v us
    induction us with
    | nil => intro _; rfl
    | cons u us ih =>
      intro h
      unfold L2.wipe
      rw [ih (fun z => h (List.mem_cons_of_mem _ z)), List.set_comm _ _ (fun z => h (by rw [z]; exact List.mem_cons_self))]
  intro σ vs
  induction vs with
  | nil => rfl
  | cons w vs ih =>
    show (L2.wipe ((L2.wipe σ vs).set w none) vs).set w none = (L2.wipe σ vs).set w none
    by_cases e : w ∈ vs
    · rw [set_wipe e, ih]
    · rw [key e, ih, List.set_set]
theorem gAppend_ref {i : Nat} {y : D} {M : Sto} {q : D × Sto} (e : gAppend (.ref i) [y] M = some q) : ∃ acc, M[i]? = some (.lst acc) ∧ acc.length < sizeLine ∧ q = (.non, M.set i (.lst (acc ++ [y]))) := by
  replace e : (match M[i]? with
    | some (.lst xs) => if xs.length < sizeLine then some (D.non, M.set i (.lst (xs ++ [y]))) else none
    | _ => none) = some q := e
  split at e
  · rename_i acc e1
    split at e
    · rename_i hl
      cases e
      exact ⟨acc, e1, hl, rfl⟩
    · cases e
  · cases e
section
variable {K : Frag} {ρ : List (Option Addr)} {H : Hp} {M : Sto}
mutual
theorem pt_of (S : StOk K ρ M H) : ∀ (p : Pt) {d : D} {v : V} {δ δ' : Env} {σ : St} {vs : List Nat} {Q : St → Hp → Prop}, Den K ρ (frz ρ H) d v → DenE K ρ (frz ρ H) δ σ → setPt M p d δ = some δ' → (∀ i ∈ p.ixs, i ∈ vs) →
    (∀ σ', DenE K ρ (frz ρ H) δ' σ' → L2.wipe σ' vs = L2.wipe σ vs → Q σ' H) → tPt K p v σ H Q
  | .nm i, d, v, δ, δ', σ, vs, Q, r, hE, e, hv, hq => by
    cases e
    exact hq _ (hE.set r i) (set_wipe (hv i List.mem_cons_self))
  | .tp ps, d, v, δ, δ', σ, vs, Q, r, hE, e, hv, hq => by
    unfold setPt at e
    cases e1 : sqD M d with
    | none => rw [e1] at e; cases e
    | some ys =>
      rw [e1] at e
      obtain ⟨a, ws, rfl, hs, hd⟩ := sqD_of S r e1
      have hl : ws.length = ps.length := by rw [← hd.length]; exact setPts_len e
      have main := pts_of S ps hd hE e (vs := vs) (Q := Q) hv hq
      rcases hs with hs | hs
      · exact .inl ⟨a, ws, rfl, hs, hl, main⟩
      · exact .inr ⟨a, ws, rfl, hs, hl, main⟩
theorem pts_of (S : StOk K ρ M H) : ∀ (ps : List Pt) {ds : List D} {ws : List V} {δ δ' : Env} {σ : St} {vs : List Nat} {Q : St → Hp → Prop}, Dens K ρ (frz ρ H) ds ws → DenE K ρ (frz ρ H) δ σ → setPts M ps ds δ = some δ' → (∀ i ∈ Pt.ixss ps, i ∈ vs) →
    (∀ σ', DenE K ρ (frz ρ H) δ' σ' → L2.wipe σ' vs = L2.wipe σ vs → Q σ' H) → tPts K ps ws σ H Q
  | [], ds, ws, δ, δ', σ, vs, Q, r, hE, e, hv, hq => by
    cases r with
    | nil => cases e; exact ⟨rfl, hq σ hE rfl⟩
    | cons _ _ => cases e
  | p :: ps, ds, ws, δ, δ', σ, vs, Q, r, hE, e, hv, hq => by
    cases r with
    | nil => cases e
    | @cons d v ds' ws' r1 r2 =>
      unfold setPts at e
      cases e1 : setPt M p d δ with
      | none => rw [e1] at e; cases e
      | some δ1 =>
        rw [e1] at e
        refine ⟨v, ws', rfl, pt_of S p r1 hE e1 (vs := vs) (fun i hi => hv i (List.mem_append_left _ hi)) fun σ1 h1 w1 => ?_⟩
        exact pts_of S ps r2 h1 e (vs := vs) (fun i hi => hv i (List.mem_append_right _ hi)) fun σ2 h2 w2 => hq σ2 h2 (w2.trans w1)
end
end
section
variable {X : Cx} {W : WX}
/-- a target, read so -/
abbrev PP (X : Cx) (tg : Expr) (p : Pt) : Prop := PG X tg (tPt X.K p)
abbrev PPs (X : Cx) (tgs : List Expr) (ps : List Pt) : Prop := PGs X tgs (tPts X.K ps)
theorem pp_name {i : Nat} {x : Str} {pos : Pos} (hN : X.N.Nodup) (hi : X.N[i]? = some x) (hx : Loc X.env.scope x) (hf : X.fn x = true ∨ X.env.scope.names.lookup x = some .local := by first | exact .inl rfl | exact .inr rfl | assumption) : PP X (.Name x pos) (.nm i) := pg_name hN hi hx hf
theorem pps_nil : PPs X [] [] := pgs_nil
theorem pps_cons {e : Expr} {es : List Expr} {p : Pt} {ps : List Pt} (h1 : PP X e p) (h2 : PPs X es ps) (hx : (assignEach (e :: es) X.env).map (·.2) = assign e X.env :: (assignEach es X.env).map (·.2) := by rfl) : PPs X (e :: es) (p :: ps) := pgs_cons h1 h2 hx
theorem pp_tup {es : List Expr} {k : Nat} {ps : List Pt} {pos : Pos} (hc : X.calm = true) (h : PPs X es ps) (hn : (assignEach es X.env).length = ps.length := by rfl) (hst : (assignEach es X.env).findIdx? (·.1) = none := by rfl) : PP X (.Tuple es k pos) (.tp ps) :=
  pg_or (pg_unl hc h hn hst) (pg_tup hc h hn hst)
/-- nothing may be raised -/
def W0 : WX := fun _ _ _ _ => False
def bYes : BF := fun _ => Ev.pure true
abbrev PDTs (X : Cx) (W : WX) (ifs : List Expr) (f : BF) : Prop := PTs X ifs (rdB X.K W f)
theorem pts_mono {X : Cx} {e : List Expr} {t t' : TT} (h : PTs X e t) (m : ∀ σ H Q, t' σ H Q → t σ H Q) : PTs X e t' := ⟨fun pins s σ H Q I q => h.run pins s σ H Q I (m σ H Q q)⟩
theorem pdts_nil : PDTs X W [] bYes := pts_mono pts_nil fun σ H Q ⟨ρ, δ, M, hE, hS, h⟩ => h ρ H Nx.refl hS
theorem pdts_one {c : Expr} {f : BF} (h : PDB X W c f) : PDTs X W [c] f := pts_one h
/-- the turns of a comprehension: its list is the store's i0 -/
def lcO (it : ID) (p : Pt) (bt : BF) (f : EF) (i0 : Nat) (δw : Env) : Nat → Nat → Sto → Out D
  | 0, i => fun M => match it M i with
    | some none => .ok (.ref i0) M
    | _ => .stuck
  | r + 1, i => fun M => match it M i with
    | some none => .ok (.ref i0) M
    | some (some d) => (match setPt M p d δw with
      | some δ1 => (match bt δ1 M with
        | .ok false M2 => lcO it p bt f i0 δw r (i + 1) M2
        | .ok true M2 => (match f δ1 M2 with
          | .ok y M3 => (match gAppend (.ref i0) [y] M3 with
            | some q => lcO it p bt f i0 δw r (i + 1) q.2
            | none => .stuck)
          | _ => .stuck)
        | _ => .stuck)
      | none => .stuck)
    | none => .stuck
def eLcM (fi : IF) (p : Pt) (bt : BF) (f : EF) (vs : List Nat) : EF := fun δ M => match fi δ M with
  | .ok q M1 => lcO q.2 p bt f M1.length (wipeD δ vs) q.1 0 (M1 ++ [.lst []])
  | .exc C fs M1 => .exc C fs M1
  | .stuck => .stuck
def eLc (fi : IF) (p : Pt) (bt : BF) (f : EF) (vs : List Nat) : EF := fun δ M => trimO M.length (eLcM fi p bt f vs δ M)
theorem rd_trim {K : Frag} {f : EF} {σ : St} {H : Hp} {Q : VK} (h : rd K W (fun δ M => trimO M.length (f δ M)) σ H Q) : rd K W f σ H Q := by
  obtain ⟨ρ, δ, M, hE, hS, h⟩ := h
  exact ⟨ρ, δ, M, hE, hS, trim_of hS.len h⟩
theorem lc_of {K : Frag} {fi : IF} {p : Pt} {bt : BF} {f : EF} {vs : List Nat} {σ : St} {H : Hp} {Q : VK} (hv : ∀ i ∈ p.ixs, i ∈ vs) (h : rd K W (eLcM fi p bt f vs) σ H Q) : tLc (rdI K W fi) (tPt K p) (rdB K W0 bt) (rd K W0 f) vs σ H Q := by
  obtain ⟨ρ, δ, M, hE, hS, h⟩ := h
  refine ⟨ρ, δ, M, hE, hS, ?_⟩
  unfold eLcM at h
  cases e : fi δ M with
  | stuck => rw [e] at h; exact h
  | exc C fs M' => rw [e] at h; exact h
  | ok q M1 =>
    rw [e] at h
    intro ρ1 J H1 n1 S1 ok Dd hD
    have n2 := Nx.push (ρ := ρ1) (o := .lst []) hD
    have S2 : StOk K (ρ1 ++ [some Dd]) (M1 ++ [.lst []]) (upd H1 Dd (.lst [])) := S1.push hD ⟨[], upd_same, .nil⟩
    have at0 : (ρ1 ++ [some Dd])[M1.length]? = some (some Dd) := by
      rw [← S1.len, List.getElem?_append_right (Nat.le_refl _)]
      simp
    have E2 := ((hE.mono n1.ext).mono n2.ext).wipe vs
    have h2 := Res.nx (n1.trans n2) h
    refine ⟨fun i m H => ∃ ρ M, Nx (ρ1 ++ [some Dd]) (upd H1 Dd (.lst [])) ρ H ∧ StOk K ρ M H ∧ Res K (fun c d H' => W c d σ H') ρ H Q (lcO q.2 p bt f M1.length (wipeD δ vs) m i M), ⟨q.1, _, _, Nx.refl, S2, h2⟩, ?_⟩
    rintro i m H3 ⟨ρ3, M3, n3, S3, h3⟩
    obtain ⟨o1, o2⟩ := ok i ρ3 H3 M3 (n2.trans n3).ext S3
    have at3 := n3.refs _ _ at0
    cases e3 : q.2 M3 i with
    | none => cases m <;> (unfold lcO at h3; rw [e3] at h3; exact h3.elim)
    | some z =>
      cases z with
      | none =>
        refine .inl ⟨o1 e3, ?_⟩
        cases m <;> (unfold lcO at h3; rw [e3] at h3; exact h3.here S3 (.ref at3))
      | some d =>
        cases m with
        | zero => unfold lcO at h3; rw [e3] at h3; exact h3.elim
        | succ m =>
          unfold lcO at h3
          rw [e3] at h3
          obtain ⟨go, yl⟩ := o2 d e3
          refine .inr ⟨go, fun H' => ∃ ρ M, Nx (ρ1 ++ [some Dd]) (upd H1 Dd (.lst [])) ρ H' ∧ StOk K ρ M H' ∧ Res K (fun c d H' => W c d σ H') ρ H' Q (lcO q.2 p bt f M1.length (wipeD δ vs) m (i + 1) M), fun H' z => ⟨m, Nat.lt_succ_self _, z⟩, fun x H4 y => ?_⟩
          obtain ⟨n4, S4, r4⟩ := yl x H4 y
          cases e4 : setPt M3 p d (wipeD δ vs) with
          | none => simp only [e4] at h3; exact h3.elim
          | some δ1 =>
            simp only [e4] at h3
            refine pt_of S4 p r4 (E2.mono (n3.trans n4).ext) e4 hv fun σ2 E5 w5 => ⟨by rw [w5]; exact wipe_idem, ρ3, δ1, M3, E5, S4, ?_⟩
            cases e5 : bt δ1 M3 with
            | stuck => simp only [e5] at h3; exact h3.elim
            | exc C fs M' => simp only [e5] at h3; exact h3.elim
            | ok b M5 =>
              cases b with
              | false =>
                simp only [e5] at h3
                intro ρ6 H6 n6 S6
                rw [if_neg Bool.false_ne_true]
                exact ⟨ρ6, M5, (n3.trans n4).trans n6, S6, Res.nx (n4.trans n6) h3⟩
              | true =>
                simp only [e5] at h3
                intro ρ6 H6 n6 S6
                rw [if_pos rfl]
                refine ⟨ρ6, δ1, M5, E5.mono n6.ext, S6, ?_⟩
                cases e6 : f δ1 M5 with
                | stuck => simp only [e6] at h3; exact h3.elim
                | exc C fs M' => simp only [e6] at h3; exact h3.elim
                | ok y0 M6 =>
                  simp only [e6] at h3
                  intro ρ7 v7 H7 n7 S7 r7
                  have at7 := n7.refs _ _ (n6.refs _ _ (n4.refs _ _ at3))
                  cases e7 : gAppend (.ref M1.length) [y0] M6 with
                  | none => simp only [e7] at h3; exact h3.elim
                  | some q7 =>
                    simp only [e7] at h3
                    obtain ⟨acc, e8, hl, rfl⟩ := gAppend_ref e7
                    obtain ⟨m8, h8, h9⟩ := S7.at_ _ _ at7
                    rw [e8] at h8
                    cases h8
                    obtain ⟨ws, h10, h11⟩ := h9
                    have n8 := Nx.write (H := H7) (o := .lst (ws ++ [v7])) at7 (fun φ q => by rw [h10] at q; cases q)
                    have m8 : MOk K ρ7 (upd H7 Dd (.lst (ws ++ [v7]))) Dd (.lst (acc ++ [y0])) := ⟨_, upd_same, (h11.mono n8.ext).append (.cons (r7.mono n8.ext) .nil)⟩
                    exact ⟨ws, h10, by rw [← h11.length]; exact hl, ρ7, _, (((n3.trans n4).trans n6).trans n7).trans n8, S7.write at7 (fun φ q => by rw [h10] at q; cases q) m8, Res.nx (((n4.trans n6).trans n7).trans n8) h3⟩
/-- [elt for tg in iter if ..], frozen -/
theorem pd_lc {elt tg iter : Expr} {ifs : List Expr} {scope : Scope} {own : List (Str × Nat)} {pos : Pos} {fi : IF} {p : Pt} {bt : BF} {f : EF} (hc : X.calm = true) (hN : X.N.Nodup) (hi : PDI X W tg iter fi) (ok : BlkOk X.N X.env.scope scope own) (hv : ∀ i ∈ p.ixs, i ∈ own.map (·.2))
    (hg : ∀ (s : Shared) (H : Hp) (C : Addr) (cl : List (Str × Addr)) (fp : List Addr), PP (X.blk s H scope (compEnvC scope cl C X.env) fp) tg p) (ht : ∀ (s : Shared) (H : Hp) (C : Addr) (cl : List (Str × Addr)) (fp : List Addr), PDTs (X.blk s H scope (compEnvC scope cl C X.env) fp) W0 ifs bt)
    (he : ∀ (s : Shared) (H : Hp) (C : Addr) (cl : List (Str × Addr)) (fp : List Addr), PD (X.blk s H scope (compEnvC scope cl C X.env) fp) W0 elt f) (hs : ∀ x, foldedSetIterable iter X.env x = pure x := by intro _; rfl) :
    PD X W (.ListComp elt [⟨tg, iter, ifs, 0⟩] scope pos) (eLc fi p bt f (own.map (·.2))) := pe_mono (pe_lc hc hN hi ok hg ht he hs) fun _ _ _ h => lc_of hv (rd_trim h)
theorem pd_lcM {elt tg iter : Expr} {ifs : List Expr} {scope : Scope} {own : List (Str × Nat)} {pos : Pos} {fi : IF} {p : Pt} {bt : BF} {f : EF} (hc : X.calm = true) (hN : X.N.Nodup) (hi : PDI X W tg iter fi) (ok : BlkOk X.N X.env.scope scope own) (hv : ∀ i ∈ p.ixs, i ∈ own.map (·.2))
    (hg : ∀ (s : Shared) (H : Hp) (C : Addr) (cl : List (Str × Addr)) (fp : List Addr), PP (X.blk s H scope (compEnvC scope cl C X.env) fp) tg p) (ht : ∀ (s : Shared) (H : Hp) (C : Addr) (cl : List (Str × Addr)) (fp : List Addr), PDTs (X.blk s H scope (compEnvC scope cl C X.env) fp) W0 ifs bt)
    (he : ∀ (s : Shared) (H : Hp) (C : Addr) (cl : List (Str × Addr)) (fp : List Addr), PD (X.blk s H scope (compEnvC scope cl C X.env) fp) W0 elt f) (hs : ∀ x, foldedSetIterable iter X.env x = pure x := by intro _; rfl) :
    PD X W (.ListComp elt [⟨tg, iter, ifs, 0⟩] scope pos) (eLcM fi p bt f (own.map (·.2))) := pe_mono (pe_lc hc hN hi ok hg ht he hs) fun _ _ _ h => lc_of hv h
/-- name = [..] on one line -/
theorem pds_setLc {i : Nat} {y : Str} {py : Pos} {elt tg iter : Expr} {ifs : List Expr} {scope : Scope} {own : List (Str × Nat)} {pos spos : Pos} {fi : IF} {p : Pt} {bt : BF} {f : EF} {trim : Bool} (hc : X.calm = true) (hN : X.N.Nodup) (hy : X.N[i]? = some y) (hyl : X.env.scope.names.lookup y = some .local)
    (hsw : swapsWith (.ListComp elt [⟨tg, iter, ifs, 0⟩] scope pos) (some (.Name y py)) spos.line X.env = pure true) (hi : PDI X W tg iter fi) (ok : BlkOk X.N X.env.scope scope own) (hv : ∀ i ∈ p.ixs, i ∈ own.map (·.2))
    (hg : ∀ (s : Shared) (H : Hp) (C : Addr) (cl : List (Str × Addr)) (fp : List Addr), PP (X.blk s H scope (compEnvC scope cl C X.env) fp) tg p) (ht : ∀ (s : Shared) (H : Hp) (C : Addr) (cl : List (Str × Addr)) (fp : List Addr), PDTs (X.blk s H scope (compEnvC scope cl C X.env) fp) W0 ifs bt)
    (he : ∀ (s : Shared) (H : Hp) (C : Addr) (cl : List (Str × Addr)) (fp : List Addr), PD (X.blk s H scope (compEnvC scope cl C X.env) fp) W0 elt f) (hs : ∀ x, foldedSetIterable iter X.env x = pure x := by intro _; rfl) :
    PDS X W (.Assign [.Name y py] (.ListComp elt [⟨tg, iter, ifs, 0⟩] scope pos) spos) (sAsg (cond trim (eLc fi p bt f (own.map (·.2))) (eLcM fi p bt f (own.map (·.2)))) (gN i)) := ps_mono (ps_setLc (wi := rdI X.K W fi) (g := tPt X.K p) (tt := rdB X.K W0 bt) (te := rd X.K W0 f) hc hN hy hyl hsw hi ok hg ht he hs) fun σ H E ⟨ρ, δ, M, hE, hS, h⟩ => by
  refine lc_of (W := W) (bt := bt) (f := f) hv ?_
  have h2 := rd_bindS (f := cond trim (eLc fi p bt f (own.map (·.2))) (eLcM fi p bt f (own.map (·.2)))) (g := fun d δ M => noRet (gN i d δ M)) hE hS h
  have h3 : rd X.K W (eLcM fi p bt f (own.map (·.2))) σ H fun x H1 => ∃ ρ1 d M1, Nx ρ H ρ1 H1 ∧ DenE X.K ρ1 (frz ρ1 H1) δ σ ∧ StOk X.K ρ1 M1 H1 ∧ Den X.K ρ1 (frz ρ1 H1) d x ∧ ResS X.K W ρ1 H1 E (noRet (gN i d δ M1)) := by
    cases trim with
    | false => exact h2
    | true => exact rd_trim h2
  exact rd_mono h3 fun x H1 ⟨ρ1, d1, M1, n1, e1, s1, r1, q1⟩ => q1 ρ1 _ H1 Nx.refl s1 (e1.set r1 i)
end
end L2.MK

end

section
set_option Elab.async false
set_option linter.all false
set_option maxRecDepth 100000
set_option maxHeartbeats 2000000
set_option autoImplicit false
/-! raise, try; setdefault. -/
namespace L2.MK
open PySem PySem.Spec PyProof.Rows PySem.W

/-! ### raise -/
abbrev MkF := Env → Ev (Str × List (Str × D))
def ResM (K : Frag) (W' : Value → Option Addr → Hp → Prop) (ρ : List (Option Addr)) (H : Hp) (Q : XK) : Out (Str × List (Str × D)) → Prop
  | .ok p M' => ∀ ρ' d H', Nx ρ H ρ' H' → StOk K ρ' M' H' → ExD K ρ' (frz ρ' H') p.2 d → Q (.ref (He.ga K p.1)) d H'
  | .exc C fs M' => ∀ ρ' d H', Nx ρ H ρ' H' → StOk K ρ' M' H' → ExD K ρ' (frz ρ' H') fs d → W' (.ref (He.ga K C)) d H'
  | .stuck => False
def rdM (K : Frag) (W : WX) (f : MkF) : L2.St → Hp → XK → Prop := fun σ H Q => ∃ ρ δ M, DenE K ρ (frz ρ H) δ σ ∧ StOk K ρ M H ∧ ResM K (fun c d H' => W c d σ H') ρ H Q (f δ M)
def PDM (X : Cx) (W : WX) (e : Expr) (f : MkF) : Prop := PMk X e (rdM X.K W f)
theorem pmk_mono {X : Cx} {e : Expr} {t t' : L2.St → Hp → XK → Prop} (h : PMk X e t) (m : ∀ σ H Q, t' σ H Q → t σ H Q) : PMk X e t' := fun pins s σ H Q I q => h pins s σ H Q I (m σ H Q q)
def sRaise (f : MkF) : SF := fun δ M => match f δ M with
  | .ok p M' => .exc p.1 p.2 δ M'
  | .exc C fs M' => .exc C fs δ M'
  | .stuck => .stuck
section
variable {X : Cx} {W : WX} {x m : Str} {e : Expr} {es : List Expr} {f : MkF} {fa : AF} {p p2 pos : Pos} {j : Nat}
theorem pds_raise (hc : X.calm = true) (tk : Takes X W) (he : PDM X W e f) : PDS X W (.Raise (some e) none pos) (sRaise f) := ps_mono (ps_raise hc tk he) fun σ H E ⟨ρ, δ, M, hE, hS, h⟩ => by
  refine ⟨ρ, δ, M, hE, hS, ?_⟩
  unfold sRaise at h
  cases e1 : f δ M with
  | stuck => rw [e1] at h; exact h
  | exc C fs M' => rw [e1] at h; exact fun ρ' d H' n s r => h ρ' d σ H' n s (hE.mono n.ext) r
  | ok q M' => rw [e1] at h; exact fun ρ' d H' n s r => h ρ' d σ H' n s (hE.mono n.ext) r
/-- C('..') of a class without an own __init__ -/
def mkC (C : Str) : MkF := fun _ => Ev.pure (C, [])
theorem pdm_c {bmB : List Value} {B newId initId : String} (F : ExcBaseFacts B newId initId bmB) (q : PySem.W.excIn X.K (He.ga X.K x) bmB newId = true) (gC : X.mg x = some (.ref (He.ga X.K x))) (kC : PySem.W.keepIn X.K (.ref (He.ga X.K x)) = true) (r : Raises X (.ref (He.ga X.K x))) (hg : Gl X x)
    (hdb : (x == ("__debug__" : Str)) = false := by decide) : PDM X W (.Call (.Name x p) [.Constant (.str m) j p2] [] pos) (mkC x) :=
  pmk_mono (pmk_own F q gC kC r hg hdb) fun σ H Q ⟨ρ, δ, M, hE, hS, h⟩ => h ρ none H Nx.refl hS (.inl ⟨rfl, rfl⟩)
/-- what an __init__ of an exception with one field promises -/
def spXI (K : Frag) (C : Addr) (fld : Str) : Sp := fun vs H Q _ => ∃ (a : Addr) (v : V), vs = [.ref a, v] ∧ H a = some (exo a C none) ∧ OexC K C ∧ findIn K (.ref C) fld = some none ∧ ∀ dx, H dx = none → dx ≠ a → Q .non (upd (upd H dx (exd dx [(fld, v)])) a (exo a C (some dx)))
theorem okXI {P : Program} {w : World} {K : Frag} {mg : Str → Option Value} {base : Heap} {k : Nat} {f : Addr} {fd : FuncData} {y qual self arg m fld : Str} {params : Arguments} {body : List Stmt} {scope : Scope} {C : Addr} (F : FunD K y qual params body scope [] [] f fd) (S : FnScope [self, arg] [self, arg] scope)
    (hbody : ∀ (cdv : Value) (A : Around) (outer : List PySem.Env) (s : Shared) (H : Hp) (E : XK), Room k (A.deeper (envOfC qual scope s.heap.objs.size f cdv)) →
      PSs (cxOf (CX P w) P w K mg base [self, arg] qual scope f cdv A outer s H E) body (tSeq (tDrop (tVeI K (tCons (tVar 0) (tCons (tC (.str m)) tNil)))) (tOst K fld (tVar 0) (tVar 1)))) : FnOk P w K mg base (CX P w) (k + 1) f fd [self, arg] (spXI K C fld) := by
  refine F.ok S (fun vs H Q E h => ?_) fun cdv A outer s H vs Q E hr h => ⟨_, hbody cdv A outer s H E hr, ?_⟩
  · obtain ⟨a, v, rfl, _⟩ := h; rfl
  · obtain ⟨a, v, rfl, ha, ox, hno, hq⟩ := h
    exact ⟨.ref a, rfl, a, C, [.str m], rfl, (by show 1 ≤ 1000; decide), ox, ha, v, rfl, .ref a, rfl, a, C, rfl, ox, hno, .inl ⟨ha, fun dx n ne => hq dx n ne⟩⟩
def one : List D → Ev D
  | [d] => Ev.pure d
  | _ => Ev.fail
def mkX (C fld : Str) (fa : AF) : MkF := fun δ => fa δ >>= fun ds => one ds >>= fun v => Ev.pure (C, [(fld, v)])
theorem del_upd {H : Hp} {a : Addr} (ha : H a = none) {o : HO} : ∀ b o', H b = some o' → (del (upd H a o) a) b = some o' := fun b o' e => by
  have ne := ne_of_none e ha
  rw [del_ne ne, upd_ne ne]; exact e
theorem pdm_x {fld : Str} {k : Nat} {fI : Addr} {fd : FuncData} {ps : List Str} {dl : Nat} (T : OexC X.K (He.ga X.K x)) (hno : findIn X.K (.ref (He.ga X.K x)) fld = some none) (iC : findIn X.K (.ref (He.ga X.K x)) "__init__" = some (some (.ref fI))) (tI : typeIn X.K (.ref fI) = some (.type "function"))
    (F1 : FnOk X.prog X.w X.K X.mg X.base (CX X.prog X.w) k fI fd ps (spXI X.K (He.ga X.K x) fld)) (hr : Room (k + 1) X.A) (hb : Binds X.K fd ps []) (tk : Takes X W) (hg : Gl X x) (hm : X.mg x = some (.ref (He.ga X.K x))) (ha : PDA X W (e :: es) fa)
    (hdb : (x == ("__debug__" : Str)) = false := by decide) (he : starEach (e :: es) X.env = (false, eval e X.env) :: starEach es X.env := by rfl) (hpl : (backTo pos (starEach es X.env)).any (·.1) = false := by rfl) :
    PDM X W (.Call (.Name x p) (e :: es) [] pos) (mkX x fld fa) :=
  pmk_mono (pmk_oex (ds := []) (dvs := []) T iC tI F1 hr hb .nil (passes_call tk fun _ _ _ _ z => z.elim) hg hm ha hdb he hpl) fun σ H Q ⟨ρ, δ, M, hE, hS, h⟩ => by
    refine ⟨ρ, δ, M, hE, hS, ?_⟩
    replace h : ResM X.K (fun c d H' => W c d σ H') ρ H Q ((fa δ >>= fun ds => one ds >>= fun v => Ev.pure (x, [(fld, v)])) M) := h
    rw [Ev.bind_run] at h
    cases e1 : fa δ M with
    | stuck => rw [e1] at h; exact h
    | exc C fs M' => rw [e1] at h; exact h
    | ok ds M' =>
      rw [e1] at h
      intro ρ1 vs H1 n1 s1 r1
      cases r1 with
      | nil => exact h.elim
      | @cons d v ds' vs' r1 r2 =>
        cases r2 with
        | cons _ _ => exact h.elim
        | nil =>
          refine ⟨by simp, fun a ha => ⟨a, v, rfl, upd_same, T, hno, fun dx hdx ne => ⟨rfl, dx, [(fld, v)], upd_same, ?_, ?_, ?_⟩⟩⟩
          · rw [upd_ne ne, upd_same]
          · rw [upd_ne ne] at hdx; exact hdx
          · have hdx' : H1 dx = none := by rw [upd_ne ne] at hdx; exact hdx
            have sm : Same H1 (upd (del (upd (upd (upd H1 a (exo a (He.ga X.K x) none)) dx (exd dx [(fld, v)])) a (exo a (He.ga X.K x) (some dx))) a) dx (.xd [(fld, v)])) := fun b o eb => by
              have n1 := ne_of_none eb ha
              have n2 := ne_of_none eb hdx'
              rw [upd_ne n2, del_ne n1, upd_ne n1, upd_ne n2, upd_ne n1]; exact eb
            have n2 := Nx.of_same (ρ := ρ1) sm
            have s2 := s1.same sm
            refine h ρ1 (some dx) _ (n1.trans n2) s2 (.inr ⟨dx, [(fld, v)], rfl, frz_at (s1.notin hdx') upd_same, .cons (r1.mono n2.ext) .nil⟩)

/-! ### try: .. except C as n: .. -/
def unsetO (i : Nat) : SO → SO
  | .nx δ M => .nx (δ.set i none) M
  | .ret d M => .ret d M
  | _ => .stuck
def sTry (K : Frag) (cv : Value) (i : Nat) (fb fs : SF) : SF := fun δ M => match fb δ M with
  | .exc C xs δ' M' => (match exmOne K (.ref (He.ga K C)) cv with
    | some true => unsetO i (fs (δ'.set i (some (.exc C xs))) M')
    | some false => .exc C xs δ' M'
    | none => .stuck)
  | o => o
theorem pds_try {c : Value} {i : Nat} {n : Str} {body suite : List Stmt} {b₀ : Stmt} {np pos' : Pos} {fb fs : SF} (hs : X.stack = X.env :: X.outer) (hf : X.env.frame = some X.env.locals) (hN : X.N.Nodup) (hi : X.N[i]? = some n) (hln : X.env.kindOf n = some .local) (hc : Names X x c) (tk : Takes X W)
    (hex : ∀ b o, X.s_0.heap.get? b = some o → X.H_0 b = none → b ∈ X.ex → False)
    (hb : ∀ (W' : WX) (pn : List (Addr × Obj)) (xe : Value → Shared → Prop), Takes (X.tr pn xe) W' → PassesOwn (model X.prog X.w) X.A X.env xe → PDSs (X.tr pn xe) W' body fb)
    (hsu : ∀ (a : Addr) (pn : List (Addr × Obj)), PDSs (X.suite a pn) W0 (b₀ :: suite) fs) :
    PDS X W (.Try body [.ExceptHandler (some (.Name x np)) (some n) (b₀ :: suite) pos'] [] [] pos) (sTry X.K c i fb fs) :=
  ps_mono (ps_try_keep (tb := fun W' => rdS X.K W' fb) (ts := fun _ _ _ => rdS X.K W0 fs) hs hf hN hi hln hc tk hex (fun W' pn xe t1 t2 => hb W' pn xe t1 t2) (fun a cls d pn => hsu a pn)) fun σ H E ⟨ρ, δ, M, hE, hS, h⟩ => by
    refine ⟨ρ, δ, M, hE, hS, ?_⟩
    unfold sTry at h
    cases e1 : fb δ M with
    | nx δ' M' => rw [e1] at h; exact h
    | ret d M' => rw [e1] at h; exact h
    | stuck => rw [e1] at h; exact h
    | exc C xs δ' M' =>
      rw [e1] at h
      intro ρ1 d σ1 H1 n1 s1 E1 x1
      replace h : ResS X.K W ρ H E (match exmOne X.K (.ref (He.ga X.K C)) c with
        | some true => unsetO i (fs (δ'.set i (some (.exc C xs))) M')
        | some false => .exc C xs δ' M'
        | none => .stuck) := h
      cases e2 : exmOne X.K (.ref (He.ga X.K C)) c with
      | none => rw [e2] at h; exact h.elim
      | some b =>
        rw [e2] at h
        refine ⟨b, e2, fun hb a ha => ?_, fun hb => ?_⟩
        · subst hb
          have n2 := Nx.new (ρ := ρ1) (o := exk a (.ref (He.ga X.K C)) d) ha
          have s2 := s1.new (o := exk a (.ref (He.ga X.K C)) d) ha
          have x2 := x1.mono n2.ext
          have dn : Den X.K ρ1 (frz ρ1 (upd H1 a (exk a (.ref (He.ga X.K C)) d))) (.exc C xs) (.ref a) := by
            have h0 : frz ρ1 (upd H1 a (exk a (.ref (He.ga X.K C)) d)) a = some (exk a (.ref (He.ga X.K C)) d) := frz_at (s1.notin ha) upd_same
            rcases x2 with ⟨rfl, rfl⟩ | ⟨dd, vfs, rfl, h3, h4⟩
            · exact .exc (d := none) (vfs := []) h0 (fun dd z => nomatch z) (fun _ => rfl) .nil
            · exact .exc h0 (fun dd' z => by cases z; exact h3) (fun z => nomatch z) h4
          refine ⟨ρ1, δ'.set i (some (.exc C xs)), M', (E1.mono n2.ext).set dn i, s2, ?_⟩
          have h := ResS.nx (n1.trans n2) h
          cases e3 : fs (δ'.set i (some (.exc C xs))) M' with
          | stuck => rw [e3] at h; exact h
          | exc C' xs' δ'' M'' => rw [e3] at h; exact h.elim
          | ret d' M'' => rw [e3] at h; exact h
          | nx δ'' M'' => rw [e3] at h; exact fun ρ3 σ3 H3 n3 s3 E3 => h ρ3 _ H3 n3 s3 (E3.unset i)
        · subst hb
          exact h ρ1 d σ1 H1 n1 s1 E1 x1
end
end L2.MK

end

section
set_option Elab.async false
set_option linter.all false
set_option maxRecDepth 100000
set_option maxHeartbeats 2000000
set_option autoImplicit false
/-! setdefault; sorted({..}). -/
namespace L2.MK
open PySem PySem.Spec PyProof.Rows PySem.W

section
variable {X : Cx} {W : WX} {o e f : Expr} {fo fe ff : EF} {apos cpos pos : Pos}
def dctD (M : Sto) : D → Option (List (Key × D))
  | .ref i => (match M[i]? with
    | some (.dK kvs) => some kvs
    | _ => none)
  | _ => none
def evSetd (d y z : D) : Ev D := fun M => match d, keyD y with
  | .ref i, some k => (match M[i]? with
    | some (.dK kvs) => if kvs.length < sizeLine then (match valG kvs k with
      | some v => .ok v M
      | none => .ok z (M.set i (.dK (putG kvs k z)))) else .stuck
    | _ => .stuck)
  | _, _ => .stuck
def evIsD (d : D) : Ev Unit := fun M => match dctD M d with
  | some _ => .ok () M
  | none => .stuck
def eSetd (fo fe ff : EF) : EF := fun δ => fo δ >>= fun d => evIsD d >>= fun _ => fe δ >>= fun y => ff δ >>= fun z => evSetd d y z
theorem pd_setd (ho : PD X W o fo) (he : PD X W e fe) (hf : PD X W f ff) (m : L2.M2 X o "setdefault" apos e f cpos) : PD X W (.Call (.Attribute o "setdefault" apos) [e, f] [] cpos) (eSetd fo fe ff) := pe_mono (pe_dsetd ho he hf m) fun σ H Q ⟨ρ, δ, M, hE, hS, h⟩ =>
  rd_mono (rd_bind (f := fo) (g := fun d => evIsD d >>= fun _ => fe δ >>= fun y => ff δ >>= fun z => evSetd d y z) hE hS h) fun x H1 ⟨ρ1, d1, M1, n1, e1, s1, r1, h1⟩ => by
    rw [Ev.bind_run] at h1
    unfold evIsD at h1
    cases q1 : dctD M1 d1 with
    | none => rw [q1] at h1; exact h1.elim
    | some kvs1 =>
      rw [q1] at h1
      unfold dctD at q1
      split at q1
      · rename_i i
        split at q1
        · rename_i kvs0 q2
          cases q1
          obtain ⟨a, ws, rfl, at1, h2, h3⟩ := dct_at s1 r1 q2
          refine ⟨a, rfl, .inl ⟨ws, .of h2⟩, ?_⟩
          exact rd_mono (rd_bind (f := fe) (g := fun y => ff δ >>= fun z => evSetd (.ref i) y z) e1 s1 h1) fun y H2 ⟨ρ2, d2, M2, n2, e2, s2, r2, h4⟩ =>
            rd_mono (rd_bind (f := ff) (g := fun z => evSetd (.ref i) d2 z) e2 s2 h4) fun z H3 ⟨ρ3, d3, M3, n3, e3, s3, r3, h5⟩ => by
              have r1' := (r1.mono n2.ext).mono n3.ext
              have r2' := r2.mono n3.ext
              unfold evSetd at h5
              cases k1 : keyD d2 with
              | none => simp only [k1] at h5; exact h5.elim
              | some k =>
                simp only [k1] at h5
                cases k2 : M3[i]? with
                | none => simp only [k2] at h5; exact h5.elim
                | some m3 =>
                  simp only [k2] at h5
                  cases m3 with
                  | dK kvs3 =>
                    simp only at h5
                    by_cases hl : kvs3.length < sizeLine
                    · rw [if_pos hl] at h5
                      obtain ⟨a', ws', ea, at3, h6, h7⟩ := dct_at s3 r1' k2
                      cases ea
                      have ey := keyD_of r2' k1
                      refine ⟨ws', k, h6, ey, by rw [← h7.length]; exact hl, fun v hv => ?_, fun hv => ?_⟩
                      · rcases h7.val k with ⟨d', v', g1, g2, g3⟩ | ⟨g1, g2⟩
                        · rw [hv] at g2
                          cases g2
                          simp only [g1] at h5
                          exact h5.here s3 g3
                        · rw [hv] at g2; cases g2
                      · rcases h7.val k with ⟨d', v', g1, g2, g3⟩ | ⟨g1, g2⟩
                        · rw [hv] at g2; cases g2
                        · simp only [g1] at h5
                          have n4 := Nx.write (H := H3) (o := .dK (putK ws' k z)) at3 (fun φ q => by rw [h6] at q; cases q)
                          exact h5 ρ3 z _ n4 (s3.write at3 (fun φ q => by rw [h6] at q; cases q) ⟨_, upd_same, (h7.mono n4.ext).put k (r3.mono n4.ext)⟩) (r3.mono n4.ext)
                    · rw [if_neg hl] at h5; exact h5.elim
                  | _ => exact h5.elim
        · cases q1
      · cases q1

/-! ### sorted({elt for tg in iter for tg1 in iter1}), texts -/
/-- the inner turns: what was met, behind the former -/
def sc1O (it : ID) (p : Pt) (bt : BF) (f : EF) (δw : Env) : Nat → Nat → List Str → Sto → Out (List Str)
  | 0, i, acc => fun M => match it M i with
    | some none => .ok acc M
    | _ => .stuck
  | r + 1, i, acc => fun M => match it M i with
    | some none => .ok acc M
    | some (some d) => (match setPt M p d δw with
      | some δ1 => (match bt δ1 M with
        | .ok false M2 => sc1O it p bt f δw r (i + 1) acc M2
        | .ok true M2 => (match f δ1 M2 with
          | .ok (.str y) M3 => if acc.length < 1000 then sc1O it p bt f δw r (i + 1) (acc ++ [y]) M3 else .stuck
          | _ => .stuck)
        | _ => .stuck)
      | none => .stuck)
    | none => .stuck
def scO (it : ID) (p : Pt) (bt : BF) (fi1 : IF) (p1 : Pt) (bt1 : BF) (f : EF) (δw : Env) (vs1 : List Nat) : Nat → Nat → List Str → Sto → Out (List Str)
  | 0, i, acc => fun M => match it M i with
    | some none => .ok acc M
    | _ => .stuck
  | r + 1, i, acc => fun M => match it M i with
    | some none => .ok acc M
    | some (some d) => (match setPt M p d δw with
      | some δ1 => (match bt δ1 M with
        | .ok false M2 => scO it p bt fi1 p1 bt1 f δw vs1 r (i + 1) acc M2
        | .ok true M2 => (match fi1 δ1 M2 with
          | .ok q M3 => (match sc1O q.2 p1 bt1 f (wipeD δ1 vs1) q.1 0 acc M3 with
            | .ok acc' M4 => scO it p bt fi1 p1 bt1 f δw vs1 r (i + 1) acc' M4
            | _ => .stuck)
          | _ => .stuck)
        | _ => .stuck)
      | none => .stuck)
    | none => .stuck
def eSortSc (fi : IF) (p : Pt) (bt : BF) (fi1 : IF) (p1 : Pt) (bt1 : BF) (f : EF) (vs vs1 : List Nat) : EF := fun δ M => match fi δ M with
  | .ok q M1 => (match scO q.2 p bt fi1 p1 bt1 f (wipeD δ vs) vs1 q.1 0 [] (M1 ++ [.opq]) with
    | .ok acc M2 => if acc.length < 1000 then trimO M.length (.ok (.lst ((sortU acc).map .str)) M2) else .stuck
    | _ => .stuck)
  | .exc C fs M1 => .exc C fs M1
  | .stuck => .stuck
end
end L2.MK

end

section
set_option Elab.async false
set_option linter.all false
set_option maxRecDepth 100000
set_option maxHeartbeats 2000000
set_option autoImplicit false
/-! sorted({elt for tg in iter for tg1 in iter1}). -/
namespace L2.MK
open PySem PySem.Spec PyProof.Rows PySem.W

section
variable {X : Cx} {W : WX}
/-- sorted(set) of texts, the set counted -/
def rSortB (w : World) : List V → Hp → VK → Prop := fun xs H Q => ∃ (a : Addr) (S : Key → Bool) (n : Nat) (ks : List Str), xs = [.ref a] ∧ H a = some (SetBk w a S n) ∧ (∀ k, S k = (ks.map Sum.inr).any fun x => decide (x = k)) ∧ ∀ p, H p = none → Q (.ref p) (upd H p (.lst ((sortU ks).map V.str)))
theorem call_sortB (hc : X.calm = true) (hu : X.A.units + 64 < cLine) : CallR X (.builtin "sorted") (rSortB X.w) := by
  intro pins s σ H xs us Q I r h
  obtain ⟨a, S, n, ks, rfl, ha, hS, q⟩ := h
  obtain ⟨u, rfl, ru⟩ := vals1 r
  cases ru
  have R0 : SetB X.w s.heap a S n := (I.hok a _ ha).1
  have R : SetKs X.w s.heap a (fun k => (ks.map Sum.inr).any fun x => decide (x = k)) := ⟨n, R0.congr fun k => (hS k).symm⟩
  refine sorted_keys (I.ok.hd hc) hu R fun s' p out c kp hg ho' hp hget hs hl => ?_
  have hn : H p = none := I.hok.fresh hp
  have new : ObjOk X.prog X.w (upd H p (.lst ((sortU ks).map V.str))) s'.heap p (.lst ((sortU ks).map V.str)) := ⟨by rw [List.length_map]; exact hl, out, c, vals_strs hs, hget⟩
  exact inv_out (I.call (g' := s'.gens) (d' := s'.drawn) (t' := s'.toks) (ch := []) (Un.laid kp hp hn) (I.hok.laid kp hp new) (by rw [hg]; exact I.bare) (fun _ z => nomatch z)) ho' (v := .ref p) rfl (q p hn)
/-- the set at D has just these texts -/
def SetIs (w : World) (H : Hp) (D : Addr) (acc : List Str) : Prop := ∃ (S : Key → Bool) (n : Nat), H D = some (SetBk w D S n) ∧ n ≤ acc.length ∧ ∀ k, S k = (acc.map Sum.inr).any fun x => decide (x = k)
theorem SetIs.nx {w : World} {ρ ρ' : List (Option Addr)} {H H' : Hp} {D : Addr} {acc : List Str} (h : SetIs w H D acc) (m : some D ∈ ρ) (n : Nx ρ H ρ' H') : SetIs w H' D acc := by
  obtain ⟨S, k, h1, h2⟩ := h
  exact ⟨S, k, n.exts D _ m h1, h2⟩
/-- one thing more in the set -/
theorem Nx.wset {w : World} {ρ1 ρ : List (Option Addr)} {H1 H : Hp} {D : Addr} {o : HO} (n : Nx ρ1 H1 ρ H) (hD : H1 D = none) (m : some D ∈ ρ) : Nx ρ1 H1 ρ (upd H D o) := ⟨n.refs, fun b u e => by
  obtain ⟨n1, e1⟩ := frz_of (n.same b u e)
  refine frz_at n1 ?_
  rw [upd_ne (fun z => n1 (by rw [z]; exact m))]
  exact e1, n.len, fun b φ mb e => by
  rw [upd_ne (ne_of_none e hD)]
  exact n.exts b φ mb e⟩
theorem frz_wset {ρ : List (Option Addr)} {H : Hp} {D : Addr} {o : HO} (m : some D ∈ ρ) : Same (frz ρ H) (frz ρ (upd H D o)) := fun b u e => by
  obtain ⟨n1, e1⟩ := frz_of e
  refine frz_at n1 ?_
  rw [upd_ne (fun z => n1 (by rw [z]; exact m))]
  exact e1
theorem StOk.wset {K : Frag} {ρ : List (Option Addr)} {M : Sto} {H : Hp} {D : Addr} {o : HO} {i0 : Nat} (S : StOk K ρ M H) (at0 : ρ[i0]? = some (some D)) (hx : ∃ φ, H D = some (.ext φ)) : StOk K ρ M (upd H D o) := by
  have x : Ext ρ ρ (frz ρ H) (frz ρ (upd H D o)) := ⟨fun _ _ h => h, frz_wset (List.mem_of_getElem? at0)⟩
  refine ⟨S.len, S.inj, fun i a h => ?_, S.dead⟩
  obtain ⟨m, h1, h2⟩ := S.at_ i a h
  refine ⟨m, h1, ?_⟩
  obtain ⟨φ, hφ⟩ := hx
  by_cases e : a = D
  · subst e
    cases m with
    | lst ds => obtain ⟨vs, h3, _⟩ := h2; rw [hφ] at h3; cases h3
    | dK ds => obtain ⟨vs, h3, _⟩ := h2; rw [hφ] at h3; cases h3
    | ins C fs => obtain ⟨dx, vs, h3, _⟩ := h2; rw [hφ] at h3; cases h3
    | opq => exact ⟨_, upd_same⟩
    | dead => exact h2
  · cases m with
    | lst ds => obtain ⟨vs, h3, h4⟩ := h2; exact ⟨vs, by rw [upd_ne e]; exact h3, h4.mono x⟩
    | dK ds => obtain ⟨vs, h3, h4⟩ := h2; exact ⟨vs, by rw [upd_ne e]; exact h3, h4.mono x⟩
    | ins C fs => obtain ⟨dx, vs, h3, h4⟩ := h2; exact ⟨dx, vs, by rw [upd_ne e]; exact h3, h4.mono x⟩
    | opq => obtain ⟨o', h3⟩ := h2; exact ⟨o', by rw [upd_ne e]; exact h3⟩
    | dead => exact h2
/-- the end of the turns -/
def PEnd (P : List Str → Sto → Prop) : Out (List Str) → Prop
  | .ok acc M => P acc M
  | _ => False
theorem ext_trans {ρ ρ' ρ2 : List (Option Addr)} {Φ Φ' Φ2 : Hp} (a : Ext ρ ρ' Φ Φ') (b : Ext ρ' ρ2 Φ' Φ2) : Ext ρ ρ2 Φ Φ2 := ⟨fun i x h => b.refs i x (a.refs i x h), fun c o h => b.same c o (a.same c o h)⟩
theorem sc_of {K : Frag} {fi fi1 : IF} {p p1 : Pt} {bt bt1 : BF} {f : EF} {vs vs1 : List Nat} {σ : L2.St} {H : Hp} {Q : VK} (hv : ∀ i ∈ p.ixs, i ∈ vs) (hv1 : ∀ i ∈ p1.ixs, i ∈ vs1) (w : World) (h : rd K W (eSortSc fi p bt fi1 p1 bt1 f vs vs1) σ H Q) :
    tSc2 w (rdI K W fi) (tPt K p) (rdB K W0 bt) (rdI K W0 fi1) (tPt K p1) (rdB K W0 bt1) (rd K W0 f) vs vs1 σ H fun x H1 => rSortB w [x] H1 Q := by
  obtain ⟨ρ, δ, M, hE, hS, h⟩ := h
  refine ⟨ρ, δ, M, hE, hS, ?_⟩
  unfold eSortSc at h
  cases e : fi δ M with
  | stuck => rw [e] at h; exact h
  | exc C fs M' => rw [e] at h; exact h
  | ok q M1 =>
    rw [e] at h
    intro ρ1 J H1 n1 S1 ok Dd hD
    have n2 := Nx.push (ρ := ρ1) (o := SetBk w Dd (fun _ => false) 0) hD
    have S2 : StOk K (ρ1 ++ [some Dd]) (M1 ++ [.opq]) (upd H1 Dd (SetBk w Dd (fun _ => false) 0)) := S1.push hD ⟨_, upd_same⟩
    have at0 : (ρ1 ++ [some Dd])[M1.length]? = some (some Dd) := by
      rw [← S1.len, List.getElem?_append_right (Nat.le_refl _)]
      simp
    have E2 := ((hE.mono n1.ext).mono n2.ext).wipe vs
    -- what the end is to give
    replace h : Res K (fun c d H' => W c d σ H') ρ H Q (match scO q.2 p bt fi1 p1 bt1 f (wipeD δ vs) vs1 q.1 0 [] (M1 ++ [.opq]) with
      | .ok acc M2 => if acc.length < 1000 then trimO M.length (.ok (.lst ((sortU acc).map .str)) M2) else .stuck
      | _ => .stuck) := h
    have fin : PEnd (fun acc M2 => acc.length < 1000 ∧ Res K (fun c d H' => W c d σ H') ρ H Q (.ok (.lst ((sortU acc).map .str)) M2)) (scO q.2 p bt fi1 p1 bt1 f (wipeD δ vs) vs1 q.1 0 [] (M1 ++ [.opq])) := by
      revert h
      generalize scO q.2 p bt fi1 p1 bt1 f (wipeD δ vs) vs1 q.1 0 [] (M1 ++ [.opq]) = r
      intro h
      cases r with
      | stuck => exact h.elim
      | exc C fs M' => exact h.elim
      | ok acc M2 =>
        replace h : Res K (fun c d H' => W c d σ H') ρ H Q (if acc.length < 1000 then trimO M.length (.ok (.lst ((sortU acc).map .str)) M2) else .stuck) := h
        by_cases hl : acc.length < 1000
        · rw [if_pos hl] at h
          exact ⟨hl, trim_of hS.len h⟩
        · rw [if_neg hl] at h; exact h.elim
    have hq : q = (q.1, q.2) := rfl
    generalize hP : (fun (acc : List Str) (M2 : Sto) => acc.length < 1000 ∧ Res K (fun c d H' => W c d σ H') ρ H Q (.ok (.lst ((sortU acc).map .str)) M2)) = P at fin
    refine ⟨fun i m H3 => ∃ ρ3 M3 acc, Nx ρ1 H1 ρ3 H3 ∧ ρ3[M1.length]? = some (some Dd) ∧ DenE K ρ3 (frz ρ3 H3) (wipeD δ vs) (L2.wipe σ vs) ∧ StOk K ρ3 M3 H3 ∧ SetIs w H3 Dd acc ∧ PEnd P (scO q.2 p bt fi1 p1 bt1 f (wipeD δ vs) vs1 m i acc M3), ⟨q.1, ρ1 ++ [some Dd], M1 ++ [.opq], [], n2, at0, E2, S2, ⟨fun _ => false, 0, upd_same, Nat.le_refl _, fun k => rfl⟩, fin⟩, ?_⟩
    rintro i m H3 ⟨ρ3, M3, acc, n3, at3, E3, S3, set3, p3⟩
    obtain ⟨o1, o2⟩ := ok i ρ3 H3 M3 n3.ext S3
    cases e3 : q.2 M3 i with
    | none => cases m <;> (unfold scO at p3; rw [e3] at p3; exact p3.elim)
    | some z =>
      cases z with
      | none =>
        refine .inl ⟨o1 e3, ?_⟩
        have pe : P acc M3 := by cases m <;> (unfold scO at p3; rw [e3] at p3; exact p3)
        rw [← hP] at pe
        obtain ⟨S, n, a1, a2, a3⟩ := set3
        refine ⟨Dd, S, n, acc, rfl, a1, a3, fun pp hp => ?_⟩
        have n4 := Nx.new (ρ := ρ3) (o := .lst ((sortU acc).map V.str)) hp
        exact pe.2 ρ3 _ _ ((n1.trans n3).trans n4) (S3.new hp) (.lst (frz_at (S3.notin hp) upd_same) (dens_strs _))
      | some d =>
        cases m with
        | zero => unfold scO at p3; rw [e3] at p3; exact p3.elim
        | succ m =>
          unfold scO at p3
          rw [e3] at p3
          obtain ⟨go, yl⟩ := o2 d e3
          refine .inr ⟨go, fun H' => ∃ ρ3 M3 acc, Nx ρ1 H1 ρ3 H' ∧ ρ3[M1.length]? = some (some Dd) ∧ DenE K ρ3 (frz ρ3 H') (wipeD δ vs) (L2.wipe σ vs) ∧ StOk K ρ3 M3 H' ∧ SetIs w H' Dd acc ∧ PEnd P (scO q.2 p bt fi1 p1 bt1 f (wipeD δ vs) vs1 m (i + 1) acc M3), fun H' z => ⟨m, Nat.lt_succ_self _, z⟩, fun x H4 y => ?_⟩
          obtain ⟨n4, S4, r4⟩ := yl x H4 y
          have m3 := List.mem_of_getElem? at3
          cases e4 : setPt M3 p d (wipeD δ vs) with
          | none => simp only [e4] at p3; exact p3.elim
          | some δ1 =>
            simp only [e4] at p3
            refine pt_of S4 p r4 (E3.mono n4.ext) e4 hv fun σ2 E5 w5 => ⟨by rw [w5]; exact wipe_idem, ρ3, δ1, M3, E5, S4, ?_⟩
            have set4 := set3.nx m3 n4
            cases e5 : bt δ1 M3 with
            | stuck => simp only [e5] at p3; exact p3.elim
            | exc C fs M' => simp only [e5] at p3; exact p3.elim
            | ok b M5 =>
              cases b with
              | false =>
                simp only [e5] at p3
                intro ρ6 H6 n6 S6
                rw [if_neg Bool.false_ne_true]
                exact ⟨ρ6, M5, acc, (n3.trans n4).trans n6, n6.refs _ _ at3, (E3.mono n4.ext).mono n6.ext, S6, set4.nx m3 n6, p3⟩
              | true =>
                simp only [e5] at p3
                intro ρ6 H6 n6 S6
                rw [if_pos rfl]
                have at6 := n6.refs _ _ at3
                have set6 := set4.nx m3 n6
                refine ⟨ρ6, δ1, M5, E5.mono n6.ext, S6, ?_⟩
                cases e6 : fi1 δ1 M5 with
                | stuck => simp only [e6] at p3; exact p3.elim
                | exc C fs M' => simp only [e6] at p3; exact p3.elim
                | ok q1 M6 =>
                  simp only [e6] at p3
                  intro ρ7 J1 H7 n7 S7 ok1
                  have at7 := n7.refs _ _ at6
                  have set7 := set6.nx (List.mem_of_getElem? at6) n7
                  have n17 := ((n3.trans n4).trans n6).trans n7
                  have E7 := (((E5.mono n6.ext).mono n7.ext)).wipe vs1
                  have E7w := ((E3.mono n4.ext).mono n6.ext).mono n7.ext
                  -- the inner turns
                  have pin : PEnd (fun acc' M4 => PEnd P (scO q.2 p bt fi1 p1 bt1 f (wipeD δ vs) vs1 m (i + 1) acc' M4)) (sc1O q1.2 p1 bt1 f (wipeD δ1 vs1) q1.1 0 acc M6) := by
                    revert p3
                    generalize sc1O q1.2 p1 bt1 f (wipeD δ1 vs1) q1.1 0 acc M6 = r
                    intro p3
                    cases r with
                    | ok a b => exact p3
                    | exc C fs M' => exact p3
                    | stuck => exact p3
                  generalize hP1 : (fun acc' M4 => PEnd P (scO q.2 p bt fi1 p1 bt1 f (wipeD δ vs) vs1 m (i + 1) acc' M4)) = P1 at pin
                  refine ⟨fun j k H8 => ∃ ρ8 M8 acc8, Ext ρ7 ρ8 (frz ρ7 H7) (frz ρ8 H8) ∧ Nx ρ1 H1 ρ8 H8 ∧ ρ8[M1.length]? = some (some Dd) ∧ DenE K ρ8 (frz ρ8 H8) (wipeD δ1 vs1) (L2.wipe σ2 vs1) ∧ StOk K ρ8 M8 H8 ∧ SetIs w H8 Dd acc8 ∧ PEnd P1 (sc1O q1.2 p1 bt1 f (wipeD δ1 vs1) k j acc8 M8),
                    ⟨q1.1, ρ7, M6, acc, Nx.refl.ext, n17, at7, E7, S7, set7, pin⟩, ?_⟩
                  rintro j k H8 ⟨ρ8, M8, acc8, x8, n8, at8, E8, S8, set8, p8⟩
                  obtain ⟨o3, o4⟩ := ok1 j ρ8 H8 M8 x8 S8
                  have m8 := List.mem_of_getElem? at8
                  cases e8 : q1.2 M8 j with
                  | none => cases k <;> (unfold sc1O at p8; rw [e8] at p8; exact p8.elim)
                  | some z1 =>
                    cases z1 with
                    | none =>
                      refine .inl ⟨o3 e8, ?_⟩
                      have pe : P1 acc8 M8 := by cases k <;> (unfold sc1O at p8; rw [e8] at p8; exact p8)
                      rw [← hP1] at pe
                      exact ⟨ρ8, M8, acc8, n8, at8, E7w.mono x8, S8, set8, pe⟩
                    | some d8 =>
                      cases k with
                      | zero => unfold sc1O at p8; rw [e8] at p8; exact p8.elim
                      | succ k =>
                        unfold sc1O at p8
                        rw [e8] at p8
                        obtain ⟨go1, yl1⟩ := o4 d8 e8
                        refine .inr ⟨go1, fun H' => ∃ ρ8 M8 acc8, Ext ρ7 ρ8 (frz ρ7 H7) (frz ρ8 H') ∧ Nx ρ1 H1 ρ8 H' ∧ ρ8[M1.length]? = some (some Dd) ∧ DenE K ρ8 (frz ρ8 H') (wipeD δ1 vs1) (L2.wipe σ2 vs1) ∧ StOk K ρ8 M8 H' ∧ SetIs w H' Dd acc8 ∧ PEnd P1 (sc1O q1.2 p1 bt1 f (wipeD δ1 vs1) k (j + 1) acc8 M8),
                          fun H' z => ⟨k, Nat.lt_succ_self _, z⟩, fun x9 H9 y9 => ?_⟩
                        obtain ⟨n9, S9, r9⟩ := yl1 x9 H9 y9
                        cases e9 : setPt M8 p1 d8 (wipeD δ1 vs1) with
                        | none => simp only [e9] at p8; exact p8.elim
                        | some δ9 =>
                          simp only [e9] at p8
                          refine pt_of S9 p1 r9 (E8.mono n9.ext) e9 hv1 fun σ9 E9 w9 => ⟨by rw [w9]; exact wipe_idem, ρ8, δ9, M8, E9, S9, ?_⟩
                          have set9 := set8.nx m8 n9
                          cases e10 : bt1 δ9 M8 with
                          | stuck => simp only [e10] at p8; exact p8.elim
                          | exc C fs M' => simp only [e10] at p8; exact p8.elim
                          | ok b M10 =>
                            cases b with
                            | false =>
                              simp only [e10] at p8
                              intro ρ10 H10 n10 S10
                              rw [if_neg Bool.false_ne_true]
                              exact ⟨ρ10, M10, acc8, ext_trans x8 (n9.trans n10).ext, (n8.trans n9).trans n10, n10.refs _ _ at8, (E8.mono n9.ext).mono n10.ext, S10, set9.nx m8 n10, p8⟩
                            | true =>
                              simp only [e10] at p8
                              intro ρ10 H10 n10 S10
                              rw [if_pos rfl]
                              have at10 := n10.refs _ _ at8
                              have set10 := set9.nx m8 n10
                              refine ⟨ρ10, δ9, M10, E9.mono n10.ext, S10, ?_⟩
                              cases e11 : f δ9 M10 with
                              | stuck => simp only [e11] at p8; exact p8.elim
                              | exc C fs M' => simp only [e11] at p8; exact p8.elim
                              | ok y0 M11 =>
                                simp only [e11] at p8
                                cases y0 with
                                | str y1 =>
                                  simp only at p8
                                  by_cases hl : acc8.length < 1000
                                  · rw [if_pos hl] at p8
                                    intro ρ11 v11 H11 n11 S11 r11
                                    cases r11
                                    have at11 := n11.refs _ _ at10
                                    have m11 := List.mem_of_getElem? at11
                                    obtain ⟨S, n, a1, a2, a3⟩ := set10.nx (List.mem_of_getElem? at10) n11
                                    refine ⟨.inr y1, S, n, rfl, a1, by unfold scanBound; omega, ?_⟩
                                    have nn := ((n8.trans n9).trans n10).trans n11
                                    have fw := frz_wset (H := H11) (o := SetBk w Dd (fun j => S j || decide (j = Sum.inr y1)) (if S (.inr y1) = true then n else n + 1)) m11
                                    have xx : Ext ρ7 ρ11 (frz ρ7 H7) (frz ρ11 (upd H11 Dd (SetBk w Dd (fun j => S j || decide (j = Sum.inr y1)) (if S (.inr y1) = true then n else n + 1)))) := ext_trans (ext_trans x8 ((n9.trans n10).trans n11).ext) ⟨fun _ _ h => h, fw⟩
                                    refine ⟨ρ11, M11, acc8 ++ [y1], xx, Nx.wset (w := w) nn hD m11, at11, ((((E8.mono n9.ext).mono n10.ext).mono n11.ext)).mono ⟨fun _ _ h => h, fw⟩, S11.wset at11 ⟨_, a1⟩, ⟨_, _, upd_same, ?_, fun k' => ?_⟩, p8⟩
                                    · rw [List.length_append, List.length_singleton]
                                      split <;> omega
                                    · rw [List.map_append, List.any_append, a3]
                                      simp only [List.map_cons, List.map_nil, List.any_cons, List.any_nil, Bool.or_false]
                                      congr 1
                                      by_cases hk : k' = Sum.inr y1
                                      · rw [decide_eq_true hk, decide_eq_true hk.symm]
                                      · rw [decide_eq_false hk, decide_eq_false (fun z => hk z.symm)]
                                  · rw [if_neg hl] at p8; exact p8.elim
                                | _ => exact p8.elim
theorem pd_sortSc2 {elt tg iter tg1 iter1 : Expr} {ifs ifs1 : List Expr} {scope : Scope} {own : List (Str × Nat)} {vs1 : List Nat} {p0 pos spos : Pos} {fi fi1 : IF} {p p1 : Pt} {bt bt1 : BF} {f : EF} (hc : X.calm = true) (hu : X.A.units + 64 < cLine) (hN : X.N.Nodup) (hgs : Gl X "sorted") (hms : X.mg "sorted" = none) (hi : PDI X W tg iter fi)
    (ok : BlkOk X.N X.env.scope scope own) (hv : ∀ i ∈ vs1, i ∈ own.map (·.2)) (hp : ∀ i ∈ p.ixs, i ∈ own.map (·.2)) (hp1 : ∀ i ∈ p1.ixs, i ∈ vs1)
    (hg : ∀ (s : Shared) (H : Hp) (C : Addr) (cl : List (Str × Addr)) (fp : List Addr), PP (X.blk s H scope (compEnvC scope cl C X.env) fp) tg p) (ht : ∀ (s : Shared) (H : Hp) (C : Addr) (cl : List (Str × Addr)) (fp : List Addr), PDTs (X.blk s H scope (compEnvC scope cl C X.env) fp) W0 ifs bt)
    (hi1 : ∀ (s : Shared) (H : Hp) (C : Addr) (cl : List (Str × Addr)) (fp : List Addr), PDI (X.blk s H scope (compEnvC scope cl C X.env) fp) W0 tg1 iter1 fi1)
    (hg1 : ∀ (s : Shared) (H : Hp) (C : Addr) (cl : List (Str × Addr)) (fp : List Addr), PP (X.blk s H scope (compEnvC scope cl C X.env) fp) tg1 p1) (ht1 : ∀ (s : Shared) (H : Hp) (C : Addr) (cl : List (Str × Addr)) (fp : List Addr), PDTs (X.blk s H scope (compEnvC scope cl C X.env) fp) W0 ifs1 bt1)
    (he : ∀ (s : Shared) (H : Hp) (C : Addr) (cl : List (Str × Addr)) (fp : List Addr), PD (X.blk s H scope (compEnvC scope cl C X.env) fp) W0 elt f) (hs : ∀ x, foldedSetIterable iter X.env x = pure x := by intro _; rfl) (hs1 : ∀ env x, foldedSetIterable iter1 env x = pure x := by intro _ _; rfl)
    (h2 : starEach [(.SetComp elt [⟨tg, iter, ifs, 0⟩, ⟨tg1, iter1, ifs1, 0⟩] scope pos : Expr)] X.env = (false, eval (.SetComp elt [⟨tg, iter, ifs, 0⟩, ⟨tg1, iter1, ifs1, 0⟩] scope pos) X.env) :: starEach [] X.env := by rfl) :
    PD X W (.Call (.Name "sorted" p0) [.SetComp elt [⟨tg, iter, ifs, 0⟩, ⟨tg1, iter1, ifs1, 0⟩] scope pos] [] spos) (eSortSc fi p bt fi1 p1 bt1 f (own.map (·.2)) vs1) :=
  pe_mono (pe_callB (call_sortB hc hu) hgs hms PyProof.Rows.boot_sorted (pa_cons (pe_sc2 (wi := rdI X.K W fi) (g := tPt X.K p) (tt := rdB X.K W0 bt) (wi1 := rdI X.K W0 fi1) (g1 := tPt X.K p1) (tt1 := rdB X.K W0 bt1) (te := rd X.K W0 f) hc hN hi ok hv hg ht hi1 hg1 ht1 he hs hs1) pa_nil h2) (by decide) (by decide) h2 rfl) fun σ H Q h => sc_of hp hp1 X.w h
end
end L2.MK

end

section
set_option Elab.async false
set_option linter.all false
set_option maxRecDepth 100000
set_option maxHeartbeats 2000000
set_option autoImplicit false
/-! The head, the end. -/
namespace L2.MK
open PySem PySem.Spec PyProof.Rows PySem.W He

/-! ### facts of the written part -/
def oexB (K : Frag) (C : Addr) : Bool := (match K.lookup C with
  | some ⟨.type "type", _, .cls cd, sl⟩ => (match cd.mro, sl.toList with
    | .ref C' :: bm, [_, _, _, _, some (.builtin n), _] => C' == C && n == "ValueError.__new__" && !cd.hasDel && cd.hasDict && PySem.HandSPX.refsVE bm
    | _, _ => false)
  | _ => false) && (eqO (findIn K (.ref C) "__setattr__") (some (some (.builtin "object.__setattr__"))) && (decide (subIn K (.ref C) (.type "BaseException") = some true) && (decide (typeIn K (.ref C) = some (.type "type")) && keepIn K (.ref C))))
theorem oexB_ok {K : Frag} {C : Addr} (h : oexB K C = true) : OexC K C := by
  obtain ⟨q, h⟩ := ba h
  obtain ⟨h1, h⟩ := ba h
  obtain ⟨h2, h⟩ := ba h
  obtain ⟨h3, h4⟩ := ba h
  refine ⟨?_, eqO_ok h1, of_decide_eq_true h2, of_decide_eq_true h3, h4⟩
  split at q
  · rename_i dd cd sl ho
    split at q
    · rename_i C' bm k0 k1 k2 k3 n k5 hm hs
      simp only [Bool.and_eq_true, beq_iff_eq, Bool.not_eq_true'] at q
      obtain ⟨⟨⟨⟨rfl, rfl⟩, hdel⟩, hdd⟩, ht⟩ := q
      obtain ⟨nm, bs, mro, ns, qn, hd, sn, sub, ab, col, del⟩ := cd
      dsimp only at hm hdel hdd
      subst hm hdel hdd
      have hsl : sl = #[k0, k1, k2, k3, some (.builtin "ValueError.__new__"), k5] := by
        obtain ⟨l⟩ := sl
        simp only at hs
        rw [hs]
      subst hsl
      exact ⟨nm, qn, ns, bs, bm, sn, sub, ab, col, dd, k0, k1, k2, k3, k5, ho, ht⟩
    · cases q
  · cases q
def excB (K : Frag) (D : Addr) : Bool := eqO (findIn K (.ref D) "__getattribute__") (some (some (.builtin "BaseException.__getattribute__"))) && (eqO (findIn K (.ref D) "__getattr__") (some none) && (decide (subIn K (.ref D) (.type "BaseException") = some true) && (hasDictIn K D &&
  (eqO (findIn K (.ref D) "__class__") (some (some (.builtin "object.__class__"))) && (eqO (specialIn K (.builtin "object.__class__") "__get__") (some (some (.builtin "getset_descriptor.__get__"))) && (decide (takesIn K (.builtin "object.__class__") = some true) && decide (mroIn K D (.type "object") = some true)))))))
theorem excB_ok {K : Frag} {D : Addr} (h : excB K D = true) : ExcC K D := by
  obtain ⟨h1, h⟩ := ba h
  obtain ⟨h2, h⟩ := ba h
  obtain ⟨h3, h⟩ := ba h
  obtain ⟨h4, h⟩ := ba h
  obtain ⟨h5, h⟩ := ba h
  obtain ⟨h6, h⟩ := ba h
  obtain ⟨h7, h8⟩ := ba h
  exact ⟨eqO_ok h1, eqO_ok h2, of_decide_eq_true h3, h4, eqO_ok h5, eqO_ok h6, of_decide_eq_true h7, of_decide_eq_true h8⟩
def insB (K : Frag) (x : Str) : Bool := (Fa.cls x).ok K && (eqO (findIn K (.ref (ga K x)) "__class__") (some (some (.builtin "object.__class__"))) && (eqO (specialIn K (.builtin "object.__class__") "__get__") (some (some (.builtin "getset_descriptor.__get__"))) &&
  (decide (takesIn K (.builtin "object.__class__") = some true) && decide (mroIn K (ga K x) (.type "object") = some true))))
theorem insB_ok {K : Frag} {x : Str} (h : insB K x = true) : InsC K (ga K x) := by
  obtain ⟨h1, h⟩ := ba h
  obtain ⟨h5, h⟩ := ba h
  obtain ⟨h6, h⟩ := ba h
  obtain ⟨h7, h8⟩ := ba h
  exact ⟨cls_ok h1, eqO_ok h5, eqO_ok h6, of_decide_eq_true h7, of_decide_eq_true h8⟩
/-- a class with ValueError's __init__, read off the class -/
def veiB (K : Frag) (C : Addr) : Bool := readsIn K C (.type "type") && (eqO (specialIn K (.ref C) "__getattribute__") (some (some (.builtin "type.__getattribute__"))) && (match findCls K (.ref C) (.type "type") "__init__" with
  | some (.val (.builtin n)) => n == "ValueError.__init__"
  | _ => false))
theorem veiB_ok {K : Frag} {C : Addr} (h : veiB K C = true) : ClX.CRead K C (.type "type") ∧ findCls K (.ref C) (.type "type") "__init__" = some (.val (.builtin "ValueError.__init__")) := by
  obtain ⟨h1, h⟩ := ba h
  obtain ⟨h2, h⟩ := ba h
  refine ⟨⟨h1, eqO_ok h2⟩, ?_⟩
  split at h
  · rename_i n e
    rw [e, beq_iff_eq.mp h]
  · cases h
/-! ### the Hook, with any tests -/
def asX (g : Addr → Option Obj) : Nat → List Addr
  | 0 => [mainGlobals, cStatics]
  | n + 1 => growD g (asX g n)
def fnA (K : Frag) (a : Addr) : FnW := match K.lookup a with
  | some ⟨_, _, .func fd, _⟩ => some (fd.name, fd.qualname, fd.params, fd.body, fd.scope, fd.globals, fd.closure, fd.builtins)
  | _ => none
def okA (K : Frag) (a : Addr) (d : DefD) : Bool := PySem.W.keepIn K (.ref a) && (match K.lookup a with
  | some ⟨_, _, .func fd, _⟩ => PySem.W.codeIn K fd.code d.qual && (dflB K fd.defaults (d.dvs K) && kwdB K fd.kwdefaults (d.kws K))
  | _ => false)
theorem funA {K : Frag} {a : Addr} {d : DefD} (e : fnA K a = d.val) (c : okA K a d = true) : ∃ fd, FunD K d.name d.qual d.params d.body d.scope (d.dvs K) (d.kws K) a fd := by
  obtain ⟨kp, c2⟩ := ba c
  unfold fnA at e
  cases q : K.lookup a with
  | none =>
    rw [q] at c2
    cases c2
  | some o =>
    obtain ⟨oc, od, dt, osl⟩ := o
    rw [q] at c2 e
    cases dt with
    | func fd =>
      obtain ⟨n1, n2, n3, n4, n5, n6, n7, n8, n9, n10, n11, n12, n13, n14, n15⟩ := fd
      have e2 : (some (n1, n2, n3, n4, n5, n6, n7, n15) : FnW) = some (d.name, d.qual, d.params, .stmts d.body, d.scope, mainGlobals, [], builtinsNs) := e
      simp only [Option.some.injEq, Prod.mk.injEq] at e2
      obtain ⟨h1, h2, h3, h4, h5, h6, h7, h8⟩ := e2
      subst h1 h2 h3 h4 h5 h6 h7 h8
      have c3 : (PySem.W.codeIn K n13 d.qual && (dflB K n8 (d.dvs K) && kwdB K n9 (d.kws K))) = true := c2
      obtain ⟨k1, k2⟩ := ba c3
      obtain ⟨k3, k4⟩ := ba k2
      exact ⟨_, ⟨oc, od, n8, n9, n10, n11, n12, n13, n14, osl, rfl, q, k1, dflB_ok k3, kwdB_ok k4⟩, kp⟩
    | _ => cases c2
/-- a def; pr: it stands behind a property -/
structure DefX where
  d : DefD
  pr : Bool
def pAd (K : Frag) (p : Str × Option Str) : Addr := match PySem.W.recIn K (fAd K p) "property" with
  | some (.ref g :: _) => g
  | _ => 0
def DefX.ad (K : Frag) (x : DefX) : Addr := cond x.pr (pAd K x.d.at_) (fAd K x.d.at_)
def valX (fn : List DefX) : AlD := (true, fn.map fun x => x.d.val)
def obsX (fb : List (Frag → Bool)) (fn : List DefX) (K : Frag) : AlD := ((fb.all fun f => f K) && fn.all fun x => okA K (x.ad K) x.d, fn.map fun x => fnA K (x.ad K))
def SaysX (fb : List (Frag → Bool)) (fn : List DefX) (K : Frag) : Prop := obsX fb fn K = valX fn
def obsXG (n : Nat) (fb : List (Frag → Bool)) (fn : List DefX) (g : Addr → Option Obj) : AlD := obsX fb fn (frG g (asX g n))
def hookX (n : Nat) (fb : List (Frag → Bool)) (fn : List DefX) : Hook where
  α := AlD
  obs := fun s => obsXG n fb fn s.heap.get?
  val := fun _ => valX fn
  says := fun _ h => ∃ K : Frag, K.In h ∧ SaysX fb fn K
  of := fun _ _ e => ⟨_, frG_in, e⟩
  keeps := fun _ _ _ ⟨K, hK, c⟩ k => ⟨K, Frag.In.keeps hK k, c⟩
theorem obsXG_eq {n : Nat} {fb : List (Frag → Bool)} {fn : List DefX} {g : Addr → Option Obj} {s : Shared} (h : ∀ a, g a = s.heap.get? a) : obsXG n fb fn g = (hookX n fb fn).obs s := by
  have e : g = s.heap.get? := funext h
  rw [e] <;> rfl
section
variable {fb : List (Frag → Bool)} {fn : List DefX} {K : Frag}
theorem SaysX.fact (c : SaysX fb fn K) (i : Nat) {f : Frag → Bool} (h : fb[i]? = some f := by rfl) : f K = true := by
  have c1 := (ba (show ((fb.all fun f => f K) && fn.all fun x => okA K (x.ad K) x.d) = true from congrArg (fun z : AlD => z.1) c)).1
  exact List.all_eq_true.mp c1 f (List.mem_of_getElem? h)
theorem SaysX.def_ (c : SaysX fb fn K) (i : Nat) {x : DefX} (h : fn[i]? = some x := by rfl) : ∃ fd, FunD K x.d.name x.d.qual x.d.params x.d.body x.d.scope (x.d.dvs K) (x.d.kws K) (x.ad K) fd := by
  have c2 := (ba (show ((fb.all fun f => f K) && fn.all fun x => okA K (x.ad K) x.d) = true from congrArg (fun z : AlD => z.1) c)).2
  have e : fn.map (fun x => fnA K (x.ad K)) = fn.map (fun x => x.d.val) := congrArg (fun z : AlD => z.2) c
  have e2 : (fn.map fun x => fnA K (x.ad K))[i]? = (fn.map fun x => x.d.val)[i]? := by rw [e]
  rw [List.getElem?_map, List.getElem?_map, h] at e2
  exact funA (Option.some.inj e2) (List.all_eq_true.mp c2 x (List.mem_of_getElem? h))
end
/-! ### the end -/
theorem same_frz0 (H : Hp) : Same H (frz [] H) := fun a o h => frz_at (fun z => nomatch z) h
theorem dens_ints {K : Frag} {ρ : List (Option Addr)} {Φ : Hp} : ∀ ns : List Int, Dens K ρ Φ (ns.map .int) (ns.map V.int)
  | [] => .nil
  | n :: ns => .cons (.int n) (dens_ints ns)
theorem law_callG {P : Program} {w : World} {K : PySem.W.Frag} {mg mb : Str → Option Value} {k : Nat} {fa a : Addr} {fd : FuncData} {x : Str} {g : List D → Ev D} {s₁ : Shared} {vs : List Value} {ns : List Int}
    (KX : K.In s₁.heap) (hns : s₁.heap.Ns mainGlobals mg) (hb : s₁.heap.Ns builtinsNs mb) (hbb : ∀ x : Str, x ≠ "__name__" → mb x = bootBuiltins x) (hlim : s₁.heap.NoLimit) (hg : s₁.gens = #[])
    (ha : s₁.heap.get? a = some { cls := .type "list", data := .seq vs.toArray }) (hi : IntsAre vs ns) (hl : ns.length ≤ sizeLine) (hr : Room k callerA)
    (F : ∀ base : Heap, K.In base → base.Ns mainGlobals mg → FnG P w K mg base k fa fd [x] g) (hbind : ∀ (s : Shared) (u : Value), BindsTo s fd ⟨[u], []⟩ [(x, u)])
    (hlaw : ∃ M, g [.rol (ns.map .int)] [] = .ok (.bl true) M) :
    codeAny (model P w) callerA (.call (.ref fa) ⟨[.ref a], []⟩) (fun r s' => r = .ok (.ret (.bool true)) ∧ OldK s₁.heap s'.heap ∧ s'.os = s₁.os ∧ AllBare s'.gens) s₁ := by
  have rv := vals_ints hi
  have lenV := hi.length
  -- from an abstract heap in which nothing but the script may be tracked
  have core : ∀ H : Hp, Only H → SqL K H a (ns.map V.int) → HOk P w H s₁.heap → (∀ b, H b ≠ none → b = a) → (H a ≠ none → K.lookup a = none) →
      codeAny (model P w) callerA (.call (.ref fa) ⟨[.ref a], []⟩) (fun r s' => r = .ok (.ret (.bool true)) ∧ OldK s₁.heap s'.heap ∧ s'.os = s₁.os ∧ AllBare s'.gens) s₁ := by
    intro H hO hS hok hA hK
    have base_of : ∀ {b : Addr} {o : Obj}, s₁.heap.get? b = some o → H b = none → (hidT s₁.heap H).get? b = some o := fun e n => hidT_get e n
    have noA : ∀ {b : Addr} {o : Obj} {es : Array DictEntry} {ep : Nat}, s₁.heap.get? b = some o → o.data = .dict es ep → H b = none := fun {b o es ep} e d => by
      cases q : H b with
      | none => rfl
      | some u =>
        have e' : b = a := hA b (by rw [q]; simp)
        subst e'
        rw [ha] at e; cases e
        have d' : Data.seq vs.toArray _ = Data.dict es ep := d
        cases d'
    have nsK : ∀ {b : Addr} {m : Str → Option Value}, s₁.heap.Ns b m → (hidT s₁.heap H).Ns b m := fun {b m} ⟨o, es, ep, e, d, r⟩ => ⟨o, es, ep, base_of e (noA e d), d, r⟩
    have hKb : K.In (hidT s₁.heap H) := fun b o e => base_of (KX b o e) (by
      cases q : H b with
      | none => rfl
      | some u =>
        have e' : b = a := hA b (by rw [q]; simp)
        subst e'
        rw [hK (by rw [q]; simp)] at e; cases e)
    have hM : Mod K mg (hidT s₁.heap H) := ⟨hKb, nsK hns, ⟨mb, nsK hb, hbb⟩, let ⟨mc, h1, h2⟩ := hlim; ⟨mc, nsK h1, h2⟩⟩
    have e0 : Env0 P w K mg (hidT s₁.heap H) callerA [] s₁ H := ⟨rfl, hM, fun b o e => of_hidT e, Nat.le_of_eq (hidT_size _ _), trivial, fun b hb => absurd (show b ∈ ([] : List Addr) from hb) (by simp), hok, .of_eq hg⟩
    refine codeAny_mono ((F _ hKb (nsK hns)).run callerA [] s₁ H ⟨[.ref a], []⟩ [.ref a] [.ref a] (fun v _ => v = .bl true) (fun _ _ _ => False) [] [] [.rol (ns.map .int)] hr rfl e0 (hbind s₁ (.ref a)) (.cons rfl .nil) rfl ⟨rfl, fun i j a h => (by simp at h), fun i a h => (by simp at h), fun i h => (by simp at h)⟩ (.cons (.rol (Same.seq (same_frz0 H) hS) (dens_ints ns)) .nil) (by
      obtain ⟨M, hM⟩ := hlaw
      rw [hM]
      intro ρ' v H' _ _ rd
      cases rd
      rfl)) fun r s' h => ?_
    cases r with
    | error e =>
      obtain ⟨_, _, _, _, _, _, _, _, _, _, _, _, z⟩ := h
      exact z.elim
    | ok fl =>
      cases fl with
      | next => exact False.elim h
      | brk => exact False.elim h
      | cont => exact False.elim h
      | ret u =>
        obtain ⟨v, H', os, bare, un, hok', r', q⟩ := h
        have q' : v = .bl true := q
        subst q'
        obtain rfl : u = Value.bool true := r'
        refine ⟨rfl, OldK.of_keep fun b o e => ?_, os, bare⟩
        cases q : H b with
        | none => exact un.keep b o e q (by intro z; exact absurd (show b ∈ ([] : List Addr) from z) (by simp)) (by simp)
        | some u =>
          rcases hO b with z | ⟨ob, xs, z⟩
          · rw [q] at z; cases z
          · have z2 := un.frzs b ob _ z
            obtain ⟨e1, _⟩ := hok b _ z
            obtain ⟨e2, _⟩ := hok' b _ z2
            rw [e] at e1; cases e1
            exact e2
  cases hk : K.lookup a with
  | some o =>
    -- the script is one of the module's own objects
    have e := KX a o hk
    rw [ha] at e
    cases e
    refine core (fun _ => none) (fun _ => .inl rfl) (.inr ⟨_, vs.toArray, _, hk, rfl, rfl, rfl, by rw [List.size_toArray, lenV]; exact hl, by simpa using rv⟩) (fun b u z => by have z' : (none : Option HO) = some u := z; cases z') (fun b z => absurd rfl z) fun z => absurd rfl z
  | none =>
    refine core (fun b => if b = a then some (.frz { cls := .type "list", data := .seq vs.toArray } (.lst (ns.map V.int))) else none) (fun b => ?_) (.inl (.inr ⟨{ cls := .type "list", data := .seq vs.toArray }, if_pos rfl⟩)) (fun b u z => ?_) (fun b z => ?_) fun _ => hk
    · by_cases hb : b = a
      · exact .inr ⟨_, _, if_pos hb⟩
      · exact .inl (if_neg hb)
    · by_cases hb : b = a
      · have z' := (if_pos hb).symm.trans z
        cases z'
        subst hb
        exact ⟨ha, by rw [List.length_map]; exact hl, vs, _, rv, ha⟩
      · have z' := (if_neg hb).symm.trans z
        cases z'
    · by_cases hb : b = a
      · exact hb
      · exact absurd (if_neg hb) z

theorem walk_ofG {l : PySem.W.OpenLaw} {n k : Nat} {q : Program} {loose : List Str} {XP : (Str → Option Value) → Heap → Prop} {YP : World → Heap → Prop} {d : DefRec} {x : Str}
    (hn : l.most = some n) (hn2 : n ≤ sizeLine) (hdf : d.params.defaults = []) (hr : Room k callerA)
    (F : ∀ (w : World) (mg : Str → Option Value) (fa : Addr) (h : Heap), YP w h → h.Ns mainGlobals mg → mg d.name = some (.ref fa) →
      ∃ (K : Frag) (fd : FuncData) (g : List D → Ev D), K.In h ∧ (∀ (s : Shared) (u : Value), BindsTo s fd ⟨[u], []⟩ [(x, u)]) ∧
        (∀ ns : List Int, ns.length ≤ n → ∃ M, g [.rol (ns.map .int)] [] = .ok (.bl true) M) ∧
        ∀ base : Heap, K.In base → base.Ns mainGlobals mg → FnG l.prog w K mg base k fa fd [x] g) :
    PySem.W.WalkO q loose XP YP l.row.toRowW d [] (fun f vs => PySem.call f vs) := by
  refine Att.attach_call hn hdf fun w s₀ s₁ mg mb fa o pm cd doc a vs ns G Y ho hd hcd hmg hobj hints hlen hg => ?_
  obtain ⟨K, fd, g, KX, hb, hlaw, hF⟩ := F w mg fa _ Y G.T.g hmg
  exact law_callG KX G.T.g G.T.b G.T.builtins G.T.nolimit hg hobj hints (Nat.le_trans hlen hn2) hr hF hb (hlaw ns hlen)
end L2.MK

end

section
set_option Elab.async false
set_option linter.all false
set_option maxRecDepth 100000
set_option maxHeartbeats 2000000
set_option autoImplicit false
/-! Rules as they are printed. -/
namespace L2.MK
open PySem PySem.Spec PyProof.Rows PySem.W

theorem takes_W0 {X : Cx} : Takes X W0 := fun u s' ⟨_, _, _, _, _, _, _, _, _, _, _, _, _, _, _, _, w⟩ => w.elim
section
variable {X : Cx} {W : WX} {k : Nat} {f : Addr} {fd : FuncData} {ps : List Str} {g : List D → Ev D} {x C : Str} {p pos : Pos} {e : Expr} {es : List Expr} {fa : AF}
theorem nil_dens {K : Frag} : ∀ (ρ : List (Option Addr)) (Φ : Hp), Dens K ρ Φ [] [] := fun _ _ => .nil
/-- f(e, ..), the new frozen -/
theorem pd_callT (F : FnG X.prog X.w X.K X.mg X.base k f fd ps g) (hb : Binds X.K fd ps []) (hk : PySem.W.keepIn X.K (.ref f) = true) (hm : X.mg x = some (.ref f)) (hr : Room k X.A) (hgu : X.A.guards = some []) (tk : Takes X W) (hg : Gl X x)
    (ha : PDA X W (e :: es) fa) (hal : ALen fa (e :: es).length) (hln : (e :: es).length = ps.length)
    (hdb : (x == ("__debug__" : Str)) = false := by decide) (he : starEach (e :: es) X.env = (false, eval e X.env) :: starEach es X.env := by rfl) (hpl : (backTo pos (starEach es X.env)).any (·.1) = false := by rfl) :
    PD X W (.Call (.Name x p) (e :: es) [] pos) (eFun (callT g) fa) := by
  have h := pd_call (pos := pos) (p := p) (trim := true) (dds := []) (dvs := []) (ds := []) F hr hgu tk hg hm hk hb .nil nil_dens ha hln hal hdb he hpl
  simpa only [List.append_nil, cond_true] using h
theorem pd_callK (F : FnG X.prog X.w X.K X.mg X.base k f fd ps g) (hb : Binds X.K fd ps []) (hk : PySem.W.keepIn X.K (.ref f) = true) (hm : X.mg x = some (.ref f)) (hr : Room k X.A) (hgu : X.A.guards = some []) (tk : Takes X W) (hg : Gl X x)
    (ha : PDA X W (e :: es) fa) (hal : ALen fa (e :: es).length) (hln : (e :: es).length = ps.length)
    (hdb : (x == ("__debug__" : Str)) = false := by decide) (he : starEach (e :: es) X.env = (false, eval e X.env) :: starEach es X.env := by rfl) (hpl : (backTo pos (starEach es X.env)).any (·.1) = false := by rfl) :
    PD X W (.Call (.Name x p) (e :: es) [] pos) (eFun (callK g) fa) := by
  have h := pd_call (pos := pos) (p := p) (trim := false) (dds := []) (dvs := []) (ds := []) F hr hgu tk hg hm hk hb .nil nil_dens ha hln hal hdb he hpl
  simpa only [List.append_nil, cond_false] using h
theorem pd_makeT (Mq : Mk X.K (He.ga X.K C) f) (F : FnG X.prog X.w X.K X.mg X.base k f fd ps g) (hb : Binds X.K fd ps []) (hm : X.mg C = some (.ref (He.ga X.K C))) (hr : Room (k + 1) X.A) (hgu : X.A.guards = some []) (tk : Takes X W) (hg : Gl X C)
    (ha : PDA X W (e :: es) fa) (hal : ALen fa (e :: es).length) (hln : (e :: es).length + 1 = ps.length)
    (hdb : (C == ("__debug__" : Str)) = false := by decide) (he : starEach (e :: es) X.env = (false, eval e X.env) :: starEach es X.env := by rfl) (hpl : (backTo pos (starEach es X.env)).any (·.1) = false := by rfl) :
    PD X W (.Call (.Name C p) (e :: es) [] pos) (eFun (makeT C g) fa) := by
  have h := pd_make (pos := pos) (p := p) (trim := true) (dds := []) (dvs := []) (ds := []) Mq F hr hgu tk hg hm hb .nil nil_dens ha hln hal hdb he hpl
  simpa only [List.append_nil, cond_true] using h
end
end L2.MK

end

section
set_option Elab.async false
set_option linter.all false
set_option maxRecDepth 100000
set_option maxHeartbeats 1000000
set_option autoImplicit false
/-! Instances whose class says what ==, in, len are; properties; constants of a class. -/
namespace L2.MK
open PySem PySem.Spec PyProof.Rows

/-- an instance's class -/
def insOf (M : Sto) : D → Option Str
  | .ins C _ => some C
  | .ref i => (match M[i]? with
    | some (.ins C _) => some C
    | _ => none)
  | _ => none
/-- nothing is raised -/
def noX (m : Ev D) : Ev D := fun M => match m M with
  | .ok d M' => .ok d M'
  | _ => .stuck
/-- a value whose class is known -/
def knD (Ci : List Str) (M : Sto) (d : D) : Bool := (btD M d).isSome || (match insOf M d with
  | some C => decide (C ∈ Ci)
  | none => false)
section
variable {K : PySem.W.Frag} {ρ : List (Option Addr)} {H : Hp} {M : Sto}
theorem insOf_of (S : StOk K ρ M H) {d : D} {v : V} {C : Str} (r : Den K ρ (frz ρ H) d v) (e : insOf M d = some C) : ∃ a dx fs, v = .ref a ∧ H a = some (.ins (He.ga K C) dx fs) := by
  cases r with
  | @ins C' fs a dx vfs h1 h2 => cases e; exact ⟨a, dx, vfs, rfl, (frz_of h1).2⟩
  | @ref i a h =>
    obtain ⟨m, h1, h2⟩ := S.at_ i a h
    unfold insOf at e
    simp only [h1] at e
    cases m with
    | ins C' fs => cases e; obtain ⟨dx, vfs, h3, h4⟩ := h2; exact ⟨a, dx, vfs, rfl, h3⟩
    | _ => cases e
  | _ => cases e
theorem noX_of {W1 W2 : Value → Option Addr → Hp → Prop} {Q : VK} {m : Ev D} (h : Res K W1 ρ H Q (noX m M)) : Res K W2 ρ H Q (m M) := by
  unfold noX at h
  cases e : m M with
  | ok d M' => rw [e] at h; exact h
  | exc C fs M' => rw [e] at h; exact h.elim
  | stuck => rw [e] at h; exact h.elim
theorem Res.mono' {W1 : Value → Option Addr → Hp → Prop} {Q Q' : VK} {o : Out D} (h : Res K W1 ρ H Q o) (m : ∀ v H', Q v H' → Q' v H') : Res K W1 ρ H Q' o := by
  cases o with
  | ok d M' => exact fun ρ' v H' n s r => m _ _ (h ρ' v H' n s r)
  | exc C fs M' => exact h
  | stuck => exact h
end
/-- a two-place operation that may call -/
def rE (K : PySem.W.Frag) (g : D → D → Ev D) : R2 := fun x y H Q => ∃ ρ M a b, StOk K ρ M H ∧ Den K ρ (frz ρ H) a x ∧ Den K ρ (frz ρ H) b y ∧ Res K (fun _ _ _ => False) ρ H Q (noX (g a b) M)
def eBinE (g : D → D → Ev D) (fa fb : EF) : EF := fun δ => fa δ >>= fun x => fb δ >>= fun y => noX (g x y)
section
variable {X : Cx} {W : WX}
theorem binE_of {K : PySem.W.Frag} {g : D → D → Ev D} {fa fb : EF} {σ : L2.St} {H : Hp} {Q : VK} (h : rd K W (eBinE g fa fb) σ H Q) : tOp (rE K g) (rd K W fa) (rd K W fb) σ H Q := by
  obtain ⟨ρ, δ, M, hE, hS, h⟩ := h
  exact rd_mono (rd_bind (f := fa) (g := fun x => fb δ >>= fun y => noX (g x y)) hE hS h) fun x H1 ⟨ρ1, d1, M1, n1, e1, s1, r1, h1⟩ =>
    rd_mono (rd_bind (f := fb) (g := fun y => noX (g d1 y)) e1 s1 h1) fun y H2 ⟨ρ2, d2, M2, n2, e2, s2, r2, h2⟩ => by
      refine ⟨ρ2, M2, d1, d2, s2, r1.mono n2.ext, r2, ?_⟩
      have z : Res K (fun _ _ _ => False) ρ2 H2 Q (g d1 d2 M2) := noX_of h2
      unfold noX
      cases e : g d1 d2 M2 with
      | ok d M' => rw [e] at z; exact z
      | exc C fs M' => unfold noX at h2; rw [e] at h2; exact h2.elim
      | stuck => rw [e] at z; exact z
theorem binE_ofB {K : PySem.W.Frag} {g : D → D → Ev D} {fa fb : EF} {σ : L2.St} {H : Hp} {Q : Bool → Hp → Prop} (h : rdB K W (bOf (eBinE g fa fb)) σ H Q) : tTest (tOp (rE K g) (rd K W fa) (rd K W fb)) σ H Q := by
  have q := tst_of h
  unfold tTest at q ⊢
  exact binE_of q
theorem pd_cmpE {op : CmpOp} {g : D → D → Ev D} {a b : Expr} {fa fb : EF} {pos : Pos} (ho : OpR X (compareOp op) (rE X.K g)) (ha : PD X W a fa) (hb : PD X W b fb) (hm : behindInMarks op b = false) : PD X W (.Compare a [op] [b] pos) (eBinE g fa fb) := pe_mono (pe_cmpR ho ha hb hm) fun _ _ _ h => binE_of h
theorem pd_cmpEB {op : CmpOp} {g : D → D → Ev D} {a b : Expr} {fa fb : EF} {pos : Pos} (ho : OpR X (compareOp op) (rE X.K g)) (ha : PD X W a fa) (hb : PD X W b fb) (hm : behindInMarks op b = false) : PDB X W (.Compare a [op] [b] pos) (bOf (eBinE g fa fb)) := pt_mono (pt_cmpR ho ha hb hm) fun _ _ _ h => binE_ofB h
end
/-! ### the own defs -/
/-- the class C has the name nm as a def that gives g -/
structure OwnF (P : Program) (w : World) (K : PySem.W.Frag) (mg : Str → Option Value) (base : Heap) (k : Nat) (C nm : Str) (n : Nat) (g : List D → Ev D) : Prop where
  ex : ∃ (f : Addr) (fd : FuncData) (ps : List Str), PySem.W.findIn K (.ref (He.ga K C)) nm = some (some (.ref f)) ∧ PySem.W.isFn K (.ref f) = true ∧ FnG P w K mg base k f fd ps g ∧ Binds K fd ps [] ∧ ps.length = n
abbrev GT := List (Str × (List D → Ev D))
section
variable {X : Cx} {pins : List (Addr × Obj)} {σ : L2.St} {H : Hp} {s : Shared} {Q : VK} {ρ : List (Option Addr)} {M : Sto} {k : Nat} {f : Addr} {fd : FuncData} {ps : List Str} {g : List D → Ev D}
/-- an own def runs below -/
theorem run_in1 {us : List Value} {vs : List V} {as : List D} {E' : Value → Shared → Prop} (F : FnG X.prog X.w X.K X.mg X.base k f fd ps g) (hr : Room (k + 1) X.A) (hg : X.A.guards = some []) (hb : Binds X.K fd ps [])
    (I : Inv X pins σ H s) (r : Vals vs us) (hl : vs.length = ps.length) (S : StOk X.K ρ M H) (rd : Dens X.K ρ (frz ρ H) as vs) (h : Res X.K (fun _ _ _ => False) ρ H Q (g as M)) :
    wpAny (model X.prog X.w) X.A.in1 (call (.ref f) us) (EP X pins σ Q) E' s := by
  have hl2 : us.length = ps.length := by rw [← r.length]; exact hl
  refine wpAny_call (codeAny_mono (F.run X.A.in1 X.stack s H ⟨us, []⟩ us vs Q (fun _ _ _ => False) ρ M as hr.in1 hg I.env0.in1 (by simpa using hb s us I.kIn (by simpa using hl2)) r hl S rd h) fun r s' hq => ?_)
  cases r with
  | error e =>
    obtain ⟨_, _, _, _, _, _, _, _, _, _, _, _, z⟩ := hq
    exact z.elim
  | ok fl =>
    cases fl with
    | ret u => exact I.after hq
    | next => exact False.elim hq
    | brk => exact False.elim hq
    | cont => exact False.elim hq
/-! ### ==, !=, in, len -/
def seven : List String := ["NoneType", "bool", "int", "str", "tuple", "list", "dict"]
/-- what the classes say of the name nm -/
structure OwnC (P : Program) (w : World) (K : PySem.W.Frag) (mg : Str → Option Value) (base : Heap) (k : Nat) (nm : Str) (n : Nat) (Ci : List Str) (ms : GT) : Prop where
  fn : ∀ p ∈ ms, OwnF P w K mg base k p.1 nm n p.2
  ins : ∀ C ∈ Ci, InsC K (He.ga K C)
  nf : ∀ p ∈ ms, ∀ T ∈ seven, PySem.W.notFirst K (He.ga K p.1) (.type T) = true
  nfi : ∀ p ∈ ms, ∀ C ∈ Ci, PySem.W.notFirst K (He.ga K p.1) (.ref (He.ga K C)) = true
theorem btD_seven {M : Sto} {d : D} {T : String} (e : btD M d = some T) : T ∈ seven := by
  unfold seven
  cases d <;> simp only [btD, Option.some.injEq, reduceCtorEq] at e <;> first | (subst e; simp) | skip
  split at e <;> simp only [Option.some.injEq, reduceCtorEq] at e <;> (subst e; simp)
theorem gt_mem {ms : GT} {C : Str} {g : List D → Ev D} (e : ms.lookup C = some g) : (C, g) ∈ ms := by
  induction ms with
  | nil => simp at e
  | cons p r ih =>
    obtain ⟨C', g'⟩ := p
    rw [List.lookup_cons] at e
    cases q : C == C' with
    | true =>
      rw [q] at e
      simp only [Option.some.injEq] at e
      subst e
      rw [beq_iff_eq.mp q]
      exact List.mem_cons_self ..
    | false => rw [q] at e; exact List.mem_cons_of_mem _ (ih e)
theorem looks_kn {Ci : List Str} {d : D} {v : V} {u : Value} (I : Inv X pins σ H s) (hI : ∀ C ∈ Ci, InsC X.K (He.ga X.K C)) (S : StOk X.K ρ M H) (r : Den X.K ρ (frz ρ H) d v) (ru : RelV v u) (e : knD Ci M d = true) :
    ∃ t, PySem.W.Looks (model X.prog X.w) s.heap (typeOf u) t ∧ ((∃ T ∈ seven, t = .type T) ∨ ∃ C ∈ Ci, t = .ref (He.ga X.K C)) := by
  unfold knD at e
  cases q : btD M d with
  | some T =>
    obtain ⟨P, Z, p, _⟩ := kit_of I ru (btD_of S r q)
    exact ⟨_, Z.ty _ _ I.kIn p, .inl ⟨T, btD_seven q, rfl⟩⟩
  | none =>
    rw [q] at e
    cases q2 : insOf M d with
    | none => rw [q2] at e; cases e
    | some C =>
      rw [q2] at e
      have hc : C ∈ Ci := of_decide_eq_true (by simpa using e)
      obtain ⟨a, dx, fs, rfl, hA⟩ := insOf_of S r q2
      cases (show u = Value.ref a from ru)
      obtain ⟨mA, O, _⟩ := ins_get I.hok hA
      obtain ⟨od, J, _⟩ := O.look
      exact ⟨_, J.type, .inr ⟨C, hc, rfl⟩⟩
def evEq (Ci : List Str) (ms : GT) (x y : D) : Ev D := fun M => match insOf M x with
  | none => opt (oEq x y) M
  | some C => (match ms.lookup C with
    | some g => if knD Ci M y = true then callT g [x, y] M else .stuck
    | none => .stuck)
def notO : Out D → Out D
  | .ok (.bl b) M => .ok (.bl !b) M
  | _ => .stuck
def blO : Out D → Out D
  | .ok (.bl b) M => .ok (.bl b) M
  | _ => .stuck
def lenO : Out D → Out D
  | .ok (.int n) M => if 0 ≤ n ∧ n < 2 ^ 63 then .ok (.int n) M else .stuck
  | _ => .stuck
theorem notO_of {W1 W2 : Value → Option Addr → Hp → Prop} {K : PySem.W.Frag} {o : Out D} (h : Res K W1 ρ H Q (notO o)) : Res K W2 ρ H (fun v H' => ∃ b, v = .bl b ∧ Q (.bl !b) H') o := by
  cases o with
  | ok d M' =>
    cases d with
    | bl b => exact fun ρ' v H' n s r => by cases r; exact ⟨b, rfl, h ρ' _ H' n s (.bl _)⟩
    | _ => exact h.elim
  | exc C fs M' => exact h.elim
  | stuck => exact h.elim
theorem blO_of {W1 W2 : Value → Option Addr → Hp → Prop} {K : PySem.W.Frag} {o : Out D} (h : Res K W1 ρ H Q (blO o)) : Res K W2 ρ H (fun v H' => ∃ b, v = .bl b ∧ Q (.bl b) H') o := by
  cases o with
  | ok d M' =>
    cases d with
    | bl b => exact fun ρ' v H' n s r => by cases r; exact ⟨b, rfl, h ρ' _ H' n s (.bl _)⟩
    | _ => exact h.elim
  | exc C fs M' => exact h.elim
  | stuck => exact h.elim
theorem lenO_of {W1 W2 : Value → Option Addr → Hp → Prop} {K : PySem.W.Frag} {o : Out D} (h : Res K W1 ρ H Q (lenO o)) : Res K W2 ρ H (fun v H' => ∃ n, v = .int n ∧ 0 ≤ n ∧ n < 2 ^ 63 ∧ Q (.int n) H') o := by
  cases o with
  | ok d M' =>
    cases d with
    | int n =>
      intro ρ' v H' nx s r
      cases r
      replace h : Res K W1 ρ H Q (if 0 ≤ n ∧ n < 2 ^ 63 then .ok (.int n) M' else .stuck) := h
      by_cases c : 0 ≤ n ∧ n < 2 ^ 63
      · rw [if_pos c] at h; exact ⟨n, rfl, c.1, c.2, h ρ' _ H' nx s (.int _)⟩
      · rw [if_neg c] at h; exact h.elim
    | _ => exact h.elim
  | exc C fs M' => exact h.elim
  | stuck => exact h.elim
theorem op_eqE {Ci : List Str} {ms : GT} (hu : X.A.units + 64 < cLine) (hr : Room (k + 1) X.A) (hg : X.A.guards = some []) (o : OwnC X.prog X.w X.K X.mg X.base k "__eq__" 2 Ci ms) : OpR X (compareOp .Eq) (rE X.K (evEq Ci ms)) := by
  rintro pins s σ H x y v u Q I rx ry ⟨ρ, M, a, b, S, ra, rb, h⟩
  replace h : Res X.K (fun _ _ _ => False) ρ H Q (evEq Ci ms a b M) := noX_of h
  unfold evEq at h
  cases e : insOf M a with
  | none =>
    rw [e] at h
    obtain ⟨d, e1, h1⟩ := opt_of h
    exact op_eq' hu pins s σ H x y v u Q I rx ry ⟨ρ, M, a, b, d, S, ra, rb, e1, h1⟩
  | some C =>
    rw [e] at h
    simp only at h
    cases e2 : ms.lookup C with
    | none => rw [e2] at h; exact h.elim
    | some g =>
      rw [e2] at h
      simp only at h
      by_cases hk : knD Ci M b = true
      · rw [if_pos hk] at h
        have hmem := gt_mem e2
        obtain ⟨ad, dx, fs, rfl, hA⟩ := insOf_of S ra e
        cases (show v = Value.ref ad from rx)
        obtain ⟨mA, O, _⟩ := ins_get I.hok hA
        obtain ⟨od, J, _⟩ := O.look
        obtain ⟨m, hF⟩ := I.fr
        obtain ⟨f, fd, ps, hs, hf, F, hb, hl⟩ := (o.fn _ hmem).ex
        obtain ⟨t, ht, hn⟩ := looks_kn I o.ins S rb ry hk
        have nf : PySem.W.notFirst X.K (He.ga X.K C) t = true := by
          rcases hn with ⟨T, hT, rfl⟩ | ⟨C', hC, rfl⟩
          · exact o.nf _ hmem T hT
          · exact o.nfi _ hmem C' hC
        show wpAny _ _ (richCompare .Eq _ _) _ _ _
        refine PySem.W.cmp_K (op := .Eq) (tb := t) hr.units0 hF I.ok.mod.kin J ht nf hs hf ?_
        refine wpAny_mono (run_fnG (W := W0) (us := [.ref ad, u]) (vs := [.ref ad, y]) (ds := []) (dvs := []) (as := [a, b]) F (Room.mono hr (Nat.le_succ _)) hg hb .nil takes_W0 I (.cons rfl (.cons ry .nil)) hl.symm S (.cons ra (.cons rb .nil)) (trim_of S.len h)) (fun w s' z => ?_) fun _ _ x => x
        obtain ⟨z', H', I', rz, qz⟩ := z
        exact SlX.cmpback rz ⟨z', H', I', rz, qz⟩
      · rw [if_neg hk] at h; exact h.elim
/-! != -/
def evNe (Ci : List Str) (ms : GT) (x y : D) : Ev D := fun M => match insOf M x with
  | none => opt (oNe x y) M
  | some C => (match ms.lookup C with
    | some g => if knD Ci M y = true then notO (callT g [x, y] M) else .stuck
    | none => .stuck)
end
section
variable {prog : Program} {w : World} {A : Around} {E : Value → Shared → Prop} {s : Shared} {K : PySem.W.Frag} {x C f L : Addr} {ox : Obj} {od : Option Obj} {b tb : Value} {h₀ : Heap} {m : Str → Option Value}
theorem ne_entry (hu : A.units < cLine) (X : K.In s.heap) (I : PySem.W.InstAt s.heap x ox C od) (he : PySem.W.findIn K (.ref C) "__eq__" = some (some (.ref f))) (hf : PySem.W.isFn K (.ref f) = true) {Q : Fin → Shared → Prop}
    (hcall : wpAny (model prog w) A (call (.ref f) [.ref x, b]) (fun v s' => ∃ k, v = .bool k ∧ Q (.done (.ret (.bool (!k)))) s') E s) : wpAny (model prog w) A (Builtin.«object.__ne__» ⟨[.ref x, b], []⟩) Q E s := by
  unfold Builtin.«object.__ne__»
  repeat (first
    | with_reducible refine wpAny_cRoomFor hu ?_
    | (refine wpAny_bind (m := callSpecialIfBound? (.ref x) (Str.ofString "__eq__") [b])
        (PySem.W.ifBound_K X I he hf (wpAny_mono hcall (fun r s' hr => by
          obtain ⟨b, rfl, hq⟩ := hr
          repeat (first | exact hq | exact wpAny_pure hq | exact wpAny_truthy_bool hq | (refine wpAny_bind (m := truthy (.bool _)) (wpAny_truthy_bool ?_)) | wp_step)) fun _ _ e => e)))
    | wp_step)
theorem ifBound_ne {M : Model} {args : List Value} {Q : Option Value → Shared → Prop} (X : K.In s.heap) (I : PySem.W.InstAt s.heap x ox C od) (hs : PySem.W.findIn K (.ref C) "__ne__" = some (some (.builtin "object.__ne__")))
    (h : wpAny M A (call (.builtin "object.__ne__") (.ref x :: args)) (fun v => Q (some v)) E s) : wpAny M A (callSpecialIfBound? (.ref x) "__ne__" args) Q E s := by
  simp only [callSpecialIfBound?, bindSpecialIfBound?]
  refine wpAny_holding (wpAny_bind (wpAny_bind (wpAny_bind (I.type.here ((PySem.W.looks_findIn X hs).here ?_)))))
  refine wpAny_bind (wpAny_askSetting (wpAny_ite ?_))
  have fin : wpAny M A (call (.builtin "object.__ne__") ([.ref x] ++ args) >>= fun v => pure (some v)) Q E s := wpAny_bind (wpAny_mono h (fun v s' h' => wpAny_pure h') fun _ _ h' => h')
  split
  · exact wpAny_bind (wpAny_of_eq (F.cmp_object.ne.bind _) (wpAny_pure (by exact fin)))
  · exact wpAny_tryCatch (wpAny_bind (wpAny_of_eq (F.cmp_object.ne.bind _) (wpAny_pure (by exact fin))))
theorem ne_K {Q : Value → Shared → Prop} (hu : A.units + 1 < cLine) (fF : PyProof.Rows.Fr h₀ L s.heap m) (X₀ : K.In h₀) (I : PySem.W.InstAt s.heap x ox C od) (hb : PySem.W.Looks (model prog w) s.heap (typeOf b) tb) (hn : PySem.W.notFirst K C tb = true)
    (hs : PySem.W.findIn K (.ref C) "__ne__" = some (some (.builtin "object.__ne__"))) (hm : PySem.W.mroIn K C (.type "object") = some true) (he : PySem.W.findIn K (.ref C) "__eq__" = some (some (.ref f))) (hf : PySem.W.isFn K (.ref f) = true)
    (h : wpAny (model prog w) A.in1 (call (.ref f) [.ref x, b]) (fun v s' => ∃ k, v = .bool k ∧ Q (.bool (!k)) s') E s) : wpAny (model prog w) A (richCompare .NotEq (.ref x) b) Q E s := by
  have X := X₀.keeps fF.keep
  have one : wpAny (model prog w) A (tryCompare (.ref x) (cmpInfo .NotEq).2.1 b) (fun r s' => ∃ v, r = some v ∧ Q v s') E s := by
    unfold tryCompare
    refine wpAny_bind (ifBound_ne X I hs (wpAny_call (codeAny_call_builtin F.cmp_object.ne.plain F.cmpEntry_ne (PySem.W.check_slot F.cmpKind_ne F.cmpSplit_ne (I.type.andThen (PySem.W.looks_mroIn X hm)) (F.cmpArgs_ne _ _)
      (ne_entry (A := A.in1) hu X I he hf (wpAny_mono h (fun v s' hv => ?_) fun _ _ e => e))))))
    obtain ⟨k, rfl, hq⟩ := hv
    exact ⟨k, rfl, wpAny_pure ⟨_, rfl, hq⟩⟩
  unfold richCompare
  simp only [oneThing_ref]
  refine wpAny_holding (wpAny_bind (wpAny_cRoomFor (Nat.lt_of_succ_lt hu) ?_))
  refine wpAny_bind (I.type.here (wpAny_bind (hb.here ?_)))
  split
  · rename_i q
    have e : PySem.W.subIn K tb (.ref C) = some false := by
      rcases Bool.or_eq_true_iff.mp hn with e | e
      · rw [beq_iff_eq.mp e] at q; simp at q
      · exact beq_iff_eq.mp e
    refine wpAny_bind ((PySem.W.looks_subIn X e).here ?_)
    simp only [Bool.false_eq_true, if_false]
    refine wpAny_bind (wpAny_mono one (fun r s' z => ?_) fun _ _ e => e)
    obtain ⟨v, rfl, hq⟩ := z
    exact wpAny_pure hq
  · refine wpAny_bind (wpAny_pure ?_)
    simp only [Bool.false_eq_true, if_false]
    refine wpAny_bind (wpAny_mono one (fun r s' z => ?_) fun _ _ e => e)
    obtain ⟨v, rfl, hq⟩ := z
    exact wpAny_pure hq
end
/-- .. whose != is object's -/
def NeC (K : PySem.W.Frag) (ms : GT) : Prop := ∀ p ∈ ms, PySem.W.findIn K (.ref (He.ga K p.1)) "__ne__" = some (some (.builtin "object.__ne__")) ∧ PySem.W.mroIn K (He.ga K p.1) (.type "object") = some true
section
variable {X : Cx} {k : Nat} {W : WX}
theorem op_neE {Ci : List Str} {ms : GT} (hu : X.A.units + 64 < cLine) (hr : Room (k + 1) X.A) (hg : X.A.guards = some []) (o : OwnC X.prog X.w X.K X.mg X.base k "__eq__" 2 Ci ms) (on : NeC X.K ms) : OpR X (compareOp .NotEq) (rE X.K (evNe Ci ms)) := by
  rintro pins s σ H x y v u Q I rx ry ⟨ρ, M, a, b, S, ra, rb, h⟩
  replace h : Res X.K (fun _ _ _ => False) ρ H Q (evNe Ci ms a b M) := noX_of h
  unfold evNe at h
  cases e : insOf M a with
  | none =>
    rw [e] at h
    obtain ⟨d, e1, h1⟩ := opt_of h
    exact op_ne' hu pins s σ H x y v u Q I rx ry ⟨ρ, M, a, b, d, S, ra, rb, e1, h1⟩
  | some C =>
    rw [e] at h
    simp only at h
    cases e2 : ms.lookup C with
    | none => rw [e2] at h; exact h.elim
    | some g =>
      rw [e2] at h
      simp only at h
      by_cases hk : knD Ci M b = true
      · rw [if_pos hk] at h
        have hmem := gt_mem e2
        obtain ⟨ad, dx, fs, rfl, hA⟩ := insOf_of S ra e
        cases (show v = Value.ref ad from rx)
        obtain ⟨mA, O, _⟩ := ins_get I.hok hA
        obtain ⟨od, J, _⟩ := O.look
        obtain ⟨m, hF⟩ := I.fr
        obtain ⟨f, fd, ps, hs, hf, F, hb, hl⟩ := (o.fn _ hmem).ex
        obtain ⟨t, ht, hn⟩ := looks_kn I o.ins S rb ry hk
        have nf : PySem.W.notFirst X.K (He.ga X.K C) t = true := by
          rcases hn with ⟨T, hT, rfl⟩ | ⟨C', hC, rfl⟩
          · exact o.nf _ hmem T hT
          · exact o.nfi _ hmem C' hC
        obtain ⟨n1, n2⟩ := on _ hmem
        show wpAny _ _ (richCompare .NotEq _ _) _ _ _
        refine ne_K (tb := t) (by omega) hF I.ok.mod.kin J ht nf n1 n2 hs hf ?_
        refine wpAny_mono (run_in1 (us := [.ref ad, u]) (vs := [.ref ad, y]) (as := [a, b]) F hr hg hb I (.cons rfl (.cons ry .nil)) hl.symm S (.cons ra (.cons rb .nil)) (trim_of S.len (notO_of h))) (fun w s' z => ?_) fun _ _ x => x
        obtain ⟨z', H', I', rz, b', rfl, qz⟩ := z
        cases (show w = Value.bool b' from rz)
        exact ⟨b', rfl, .bl !b', H', I', rfl, qz⟩
      · rw [if_neg hk] at h; exact h.elim
/-! in -/
def evIn (ms : GT) (x y : D) : Ev D := fun M => match insOf M y with
  | none => opt (oIn x y) M
  | some C => (match ms.lookup C with
    | some g => blO (callT g [y, x] M)
    | none => .stuck)
def evNotIn (ms : GT) (x y : D) : Ev D := fun M => match insOf M y with
  | none => opt (oNotIn x y) M
  | some C => (match ms.lookup C with
    | some g => notO (callT g [y, x] M)
    | none => .stuck)
theorem op_inE {ms : GT} (hu : X.A.units + 64 < cLine) (hr : Room (k + 1) X.A) (hg : X.A.guards = some []) (o : ∀ p ∈ ms, OwnF X.prog X.w X.K X.mg X.base k p.1 "__contains__" 2 p.2) : OpR X (compareOp .In) (rE X.K (evIn ms)) := by
  rintro pins s σ H x y v u Q I rx ry ⟨ρ, M, a, b, S, ra, rb, h⟩
  replace h : Res X.K (fun _ _ _ => False) ρ H Q (evIn ms a b M) := noX_of h
  unfold evIn at h
  cases e : insOf M b with
  | none =>
    rw [e] at h
    obtain ⟨d, e1, h1⟩ := opt_of h
    exact op_in' hu pins s σ H x y v u Q I rx ry ⟨ρ, M, a, b, d, S, ra, rb, e1, h1⟩
  | some C =>
    rw [e] at h
    simp only at h
    cases e2 : ms.lookup C with
    | none => rw [e2] at h; exact h.elim
    | some g =>
      rw [e2] at h
      simp only at h
      have hmem := gt_mem e2
      obtain ⟨ad, dx, fs, rfl, hA⟩ := insOf_of S rb e
      cases (show u = Value.ref ad from ry)
      obtain ⟨mA, O, _⟩ := ins_get I.hok hA
      obtain ⟨od, J, _⟩ := O.look
      obtain ⟨m, hF⟩ := I.fr
      obtain ⟨f, fd, ps, hs, hf, F, hb, hl⟩ := (o _ hmem).ex
      refine PySem.W.in_K hF I.ok.mod.kin J hs hf ?_
      refine wpAny_mono (run_fnG (W := W0) (us := [.ref ad, v]) (vs := [.ref ad, x]) (ds := []) (dvs := []) (as := [b, a]) F (Room.mono hr (Nat.le_succ _)) hg hb .nil takes_W0 I (.cons rfl (.cons rx .nil)) hl.symm S (.cons rb (.cons ra .nil)) (trim_of S.len (blO_of h))) (fun w s' z => ?_) fun _ _ x => x
      obtain ⟨z', H', I', rz, b', rfl, qz⟩ := z
      cases (show w = Value.bool b' from rz)
      exact wpAny_truthy_bool ⟨.bl b', H', I', rfl, qz⟩
theorem op_notInE {ms : GT} (hu : X.A.units + 64 < cLine) (hr : Room (k + 1) X.A) (hg : X.A.guards = some []) (o : ∀ p ∈ ms, OwnF X.prog X.w X.K X.mg X.base k p.1 "__contains__" 2 p.2) : OpR X (compareOp .NotIn) (rE X.K (evNotIn ms)) := by
  rintro pins s σ H x y v u Q I rx ry ⟨ρ, M, a, b, S, ra, rb, h⟩
  replace h : Res X.K (fun _ _ _ => False) ρ H Q (evNotIn ms a b M) := noX_of h
  unfold evNotIn at h
  cases e : insOf M b with
  | none =>
    rw [e] at h
    obtain ⟨d, e1, h1⟩ := opt_of h
    exact op_notIn' hu pins s σ H x y v u Q I rx ry ⟨ρ, M, a, b, d, S, ra, rb, e1, h1⟩
  | some C =>
    rw [e] at h
    simp only at h
    cases e2 : ms.lookup C with
    | none => rw [e2] at h; exact h.elim
    | some g =>
      rw [e2] at h
      simp only at h
      have hmem := gt_mem e2
      obtain ⟨ad, dx, fs, rfl, hA⟩ := insOf_of S rb e
      cases (show u = Value.ref ad from ry)
      obtain ⟨mA, O, _⟩ := ins_get I.hok hA
      obtain ⟨od, J, _⟩ := O.look
      obtain ⟨m, hF⟩ := I.fr
      obtain ⟨f, fd, ps, hs, hf, F, hb, hl⟩ := (o _ hmem).ex
      refine PySem.W.notIn_K hF I.ok.mod.kin J hs hf ?_
      refine wpAny_mono (run_fnG (W := W0) (us := [.ref ad, v]) (vs := [.ref ad, x]) (ds := []) (dvs := []) (as := [b, a]) F (Room.mono hr (Nat.le_succ _)) hg hb .nil takes_W0 I (.cons rfl (.cons rx .nil)) hl.symm S (.cons rb (.cons ra .nil)) (trim_of S.len (notO_of h))) (fun w s' z => ?_) fun _ _ x => x
      obtain ⟨z', H', I', rz, b', rfl, qz⟩ := z
      cases (show w = Value.bool b' from rz)
      exact wpAny_truthy_bool ⟨.bl !b', H', I', rfl, qz⟩
/-! len -/
abbrev GE := List D → Ev D
def rCE (K : PySem.W.Frag) (g : GE) : List V → Hp → VK → Prop := fun xs H Q => ∃ ρ M ds, StOk K ρ M H ∧ Dens K ρ (frz ρ H) ds xs ∧ Res K (fun _ _ _ => False) ρ H Q (noX (g ds) M)
def eCallE (g : GE) (f : AF) : EF := fun δ => f δ >>= fun ds => noX (g ds)
theorem callE_of {K : PySem.W.Frag} {g : GE} {f : AF} {σ : L2.St} {H : Hp} {Q : VK} (h : rd K W (eCallE g f) σ H Q) : tCB (rCE K g) (rdA K W f) σ H Q := by
  obtain ⟨ρ, δ, M, hE, hS, h⟩ := h
  refine rdA_mono (rdA_bind (f := f) (g := fun ds => noX (g ds)) hE hS h) fun xs H1 ⟨ρ1, ds, M1, n1, e1, s1, r1, h1⟩ => ?_
  refine ⟨ρ1, M1, ds, s1, r1, ?_⟩
  have z : Res K (fun _ _ _ => False) ρ1 H1 Q (g ds M1) := noX_of h1
  unfold noX
  cases e : g ds M1 with
  | ok d M' => rw [e] at z; exact z
  | exc C fs M' => rw [e] at z; exact False.elim (by unfold noX at h1; rw [e] at h1; exact h1)
  | stuck => rw [e] at z; exact z
theorem pd_callBE {x : Str} {id : String} {g : GE} {e : Expr} {es : List Expr} {f : AF} {p pos : Pos} (hc : CallR X (.builtin id) (rCE X.K g)) (hg : Gl X x) (hm : X.mg x = none) (hv : bootBuiltins x = some (.builtin id)) (ha : PDA X W (e :: es) f)
    (hn : x ≠ "__name__" := by decide) (hdb : (x == ("__debug__" : Str)) = false := by decide)
    (he : starEach (e :: es) X.env = (false, eval e X.env) :: starEach es X.env := by rfl) (hpl : (backTo pos (starEach es X.env)).any (·.1) = false := by rfl) : PD X W (.Call (.Name x p) (e :: es) [] pos) (eCallE g f) :=
  pe_mono (pe_callB hc hg hm hv ha hn hdb he hpl) fun _ _ _ h => callE_of h
def gLenE (ms : GT) : GE := fun ds M => match ds with
  | [d] => (match insOf M d with
    | none => opt (gLen [d]) M
    | some C => (match ms.lookup C with
      | some g => lenO (callT g [d] M)
      | none => .stuck))
  | _ => .stuck
theorem cr_lenE {ms : GT} (hr : Room (k + 1) X.A) (hg : X.A.guards = some []) (o : ∀ p ∈ ms, OwnF X.prog X.w X.K X.mg X.base k p.1 "__len__" 1 p.2) : CallR X (.builtin "len") (rCE X.K (gLenE ms)) := by
  rintro pins s σ H xs us Q I rx ⟨ρ, M, ds, S, rs, h⟩
  replace h : Res X.K (fun _ _ _ => False) ρ H Q (gLenE ms ds M) := noX_of h
  unfold gLenE at h
  split at h
  · rename_i d
    cases e : insOf M d with
    | none =>
      rw [e] at h
      obtain ⟨d', e1, h1⟩ := opt_of h
      exact cr_len pins s σ H xs us Q I rx ⟨ρ, M, [d], d', S, rs, e1, h1⟩
    | some C =>
      rw [e] at h
      simp only at h
      cases e2 : ms.lookup C with
      | none => rw [e2] at h; exact h.elim
      | some g =>
        rw [e2] at h
        simp only at h
        have hmem := gt_mem e2
        obtain ⟨x, rfl, rd1⟩ := dens1 rs
        obtain ⟨ad, dx, fs, rfl, hA⟩ := insOf_of S rd1 e
        obtain ⟨u, rfl, ru⟩ := rx.one
        cases (show u = Value.ref ad from ru)
        obtain ⟨mA, O, _⟩ := ins_get I.hok hA
        obtain ⟨od, J, _⟩ := O.look
        obtain ⟨m, hF⟩ := I.fr
        obtain ⟨f, fd, ps, hs, hf, F, hb, hl⟩ := (o _ hmem).ex
        refine PySem.W.len_K hF I.ok.mod.kin J hs hf ?_
        refine wpAny_mono (run_in1 (us := [.ref ad]) (vs := [.ref ad]) (as := [d]) F hr hg hb I (.cons rfl .nil) hl.symm S (.cons rd1 .nil) (trim_of S.len (lenO_of h))) (fun w s' z => ?_) fun _ _ x => x
        obtain ⟨z', H', I', rz, n, rfl, h0, h1, qz⟩ := z
        obtain ⟨t, ht⟩ := (show ∃ t, w = Value.int n t from rz)
        subst ht
        exact ⟨⟨h0, h1⟩, .int n, H', I'.tok _, ⟨_, rfl⟩, qz⟩
  · exact h.elim
/-! properties -/
def evPr (ms : GT) (d : D) : Ev D := fun M => match insOf M d with
  | some C => (match ms.lookup C with
    | some g => callT g [d] M
    | none => .stuck)
  | none => .stuck
def eUnE (g : D → Ev D) (f : EF) : EF := fun δ => f δ >>= fun x => noX (g x)
/-- the class C has the name nm as a property whose getter gives g -/
structure OwnP (P : Program) (w : World) (K : PySem.W.Frag) (mg : Str → Option Value) (base : Heap) (k : Nat) (C nm : Str) (g : List D → Ev D) : Prop where
  cl : Cls K (He.ga K C)
  ex : ∃ (p f : Addr) (fd : FuncData) (ps : List Str), PropOf K (He.ga K C) nm p f ∧ FnG P w K mg base k f fd ps g ∧ Binds K fd ps [] ∧ ps.length = 1
theorem pd_prop {ms : GT} {n : Str} {e : Expr} {fo : EF} {pos : Pos} (hr : Room (k + 1) X.A) (hg : X.A.guards = some []) (o : ∀ p ∈ ms, OwnP X.prog X.w X.K X.mg X.base k p.1 n p.2) (he : PD X W e fo) (hb : attributeBase e n X.env (eval e X.env) = eval e X.env := by rfl) :
    PD X W (.Attribute e n pos) (eUnE (evPr ms) fo) := by
  refine ⟨fun pins s σ H Q I ⟨ρ, δ, M, hE, hS, h⟩ => ?_⟩
  refine attr_of hb (thn (he.run pins s σ H _ I (rd_bind (f := fo) (g := fun x => noX (evPr ms x)) hE hS h)) fun u s1 ⟨x, H1, I1, rx, ρ1, d, M1, n1, e1, S, ra, h1⟩ => ?_)
  replace h1 : Res X.K (fun _ _ _ => False) ρ1 H1 Q (evPr ms d M1) := noX_of h1
  unfold evPr at h1
  cases e0 : insOf M1 d with
  | none => rw [e0] at h1; exact h1.elim
  | some C =>
    rw [e0] at h1
    simp only at h1
    cases e2 : ms.lookup C with
    | none => rw [e2] at h1; exact h1.elim
    | some g =>
      rw [e2] at h1
      simp only at h1
      obtain ⟨c, p, f, fd, ps, hp, F, hbi, hl⟩ := o _ (gt_mem e2)
      obtain ⟨ad, dx, fs, rfl, hA⟩ := insOf_of S ra e0
      cases (show u = Value.ref ad from rx)
      obtain ⟨mA, O, _, _, _, _⟩ := ins_get I1.hok hA
      obtain ⟨od, J, _⟩ := O.look
      obtain ⟨rest, hrec⟩ := hp.rec_
      have I2 := I1.tok (s1.toks + 1)
      have hc : (PySem.W.clsIn X.K (He.ga X.K C)).isSome = true := by
        obtain ⟨cd, hc, _⟩ := PySem.W.any_some c.hd
        rw [hc]
        rfl
      refine PySem.W.get_bind I1.kIn J (PySem.W.plainGet_of (c.get n)).1 (PySem.W.findObj_data hc hp.at_ hp.get hp.tak) (PySem.W.plainGet_of (c.get n)).2 (wpAny_call (PySem.W.prop_get (s := { s1 with toks := s1.toks + 1 }) I1.kIn hrec ?_))
      refine codeAny_mono (F.run X.A.in1 X.stack { s1 with toks := s1.toks + 1 } H1 ⟨[.ref ad], []⟩ [.ref ad] [.ref ad] Q (fun _ _ _ => False) ρ1 M1 [d] hr.in1 hg I2.env0.in1 (by simpa using hbi { s1 with toks := s1.toks + 1 } [.ref ad] I2.kIn (by simpa using hl.symm)) (.cons rfl .nil) hl.symm S (.cons ra .nil) (trim_of S.len h1)) fun r s' hq => ?_
      cases r with
      | error er =>
        obtain ⟨_, _, _, _, _, _, _, _, _, _, _, _, z⟩ := hq
        exact z.elim
      | ok fl =>
        cases fl with
        | ret u =>
          obtain ⟨v, H', I3, rv, q3⟩ := I2.after hq
          show wpAny _ _ (handedOut u) _ _ _
          rw [PySem.W.handedOut_of (handed_of rv)]
          exact wpAny_pure ⟨v, H', I3, rv, q3⟩
        | next => exact False.elim hq
        | brk => exact False.elim hq
        | cont => exact False.elim hq
end
end L2.MK

end

section
set_option Elab.async false
set_option linter.all false
set_option maxRecDepth 100000
set_option maxHeartbeats 1000000
set_option autoImplicit false
/-! Turned sequences, dicts of constants, constants of a class, kept sums, an empty dict shown. -/
namespace HT
open PySem PyProof.Rows
open PySem.SeqAt
open PySem.AutoSeq1 (wpAny_loadPart')
open PySem.MeetsSeq PySem.MeetsSeq2 PySem.MeetsSeq3
section
variable {prog : Program} {w : World} {A : Around} {E : Value → Shared → Prop} {s : Shared}
theorem sliceApplied_rev {sl : Addr} {vl vu vs : Value} {n : Nat} {Q : Int × Int × Nat → Shared → Prop} (hs : s.heap.IsSliceOf sl vl vu vs) (pl : IsPart vl none) (pu : IsPart vu none) (ps : IsPart vs (some (-1)))
    (h : Q ((n : Int) - 1, -1, n) s) : wpAny (model prog w) A (Builtin.Slice.sliceApplied (.ref sl) (pure (n : Int))) Q E s := by
  obtain ⟨os, hos, hcs, hds⟩ := id hs
  unfold Builtin.Slice.sliceApplied Builtin.Slice.sliceFields
  refine wpAny_bind (wpAny_bind (wpAny_field hos hds (x := vl) rfl (wpAny_bind (wpAny_field hos hds (x := vu) rfl (wpAny_bind (wpAny_field hos hds (x := vs) rfl (wpAny_pure ?_)))))))
  refine wpAny_bind (slicePart_ ps ?_)
  show wpAny _ _ (if ((-1 : Int) == 0) = true then _ else _) _ _ s
  rw [if_neg (by decide)]
  refine wpAny_bind (slicePart_ pl (wpAny_bind (slicePart_ pu (wpAny_bind (wpAny_pure ?_)))))
  show wpAny _ _ (pure ((n : Int) - 1, (-1 : Int), Builtin.Slice.slicePlaces ((n : Int) - 1) (-1) (-1))) _ _ s
  have e : Builtin.Slice.slicePlaces ((n : Int) - 1) (-1) (-1) = n := by
    unfold Builtin.Slice.slicePlaces
    rw [if_neg (by decide)]
    by_cases h0 : (n : Int) - 1 > -1
    · rw [if_pos h0]
      have : ((n : Int) - 1 - -1 - 1) / (- -1) + 1 = n := by
        rw [show (- -1 : Int) = 1 by decide, Int.ediv_one]; omega
      rw [this]; simp
    · rw [if_neg h0]; omega
  rw [e]
  exact wpAny_pure h
theorem pick_rev (xs : Array Value) : ((List.range xs.size).filterMap fun (k : Nat) => xs[(((xs.size : Int) - 1) + (k : Int) * (-1)).toNat]?).toArray = xs.toList.reverse.toArray := by
  have e : ((List.range xs.size).filterMap fun (k : Nat) => xs[(((xs.size : Int) - 1) + (k : Int) * (-1)).toNat]?) = ((List.range xs.size).map fun k => xs.size - 1 - k).filterMap (xs[·]?) := by
    rw [List.filterMap_map]
    have cong : ∀ l : List Nat, (∀ k ∈ l, k < xs.size) → (l.filterMap fun (k : Nat) => xs[(((xs.size : Int) - 1) + (k : Int) * (-1)).toNat]?) = l.filterMap ((fun x => xs[x]?) ∘ fun k => xs.size - 1 - k) := by
      intro l
      induction l with
      | nil => exact fun _ => rfl
      | cons k r ih =>
        intro hl
        have := hl k (List.mem_cons_self ..)
        have e2 : (((xs.size : Int) - 1) + (k : Int) * (-1)).toNat = xs.size - 1 - k := by omega
        rw [List.filterMap_cons, List.filterMap_cons, ih fun k hk => hl k (List.mem_cons_of_mem _ hk), e2]
        rfl
    exact cong _ fun k hk => List.mem_range.mp hk
  rw [e, PySem.W.krv_range, List.filterMap_reverse, PySem.W.krv_all]
theorem getItem_tuple_rev {t sl : Addr} {items : Array Value} {vl vu vs : Value} {Q : Value → Shared → Prop} (ht : IsTup s.heap t items) (hs : s.heap.IsSliceOf sl vl vu vs) (pl : IsPart vl none) (pu : IsPart vu none) (ps : IsPart vs (some (-1)))
    (h : Q (.ref s.heap.objs.size) { s with heap := s.heap.push { cls := .type "tuple", data := .seq items.toList.reverse.toArray } })
    (hsz : items.size ≤ sizeLine) : wpAny (model prog w) A (getItem (.ref t) (.ref sl)) Q E s := by
  have htake : sizeOk (.seq items.toList.reverse.toArray) := by
    show items.toList.reverse.toArray.size ≤ sizeLine
    rw [List.size_toArray, List.length_reverse, Array.length_toList]
    exact hsz
  obtain ⟨os, hos, hcs, hds⟩ := id hs
  have hTs : s.TypeIs (.ref sl) "slice" := ⟨os, hos, hcs⟩
  unfold getItem
  try with_reducible refine wpAny_holding ?_
  first | refine wpAny_bind (wpAny_pure ?_) | skip
  refine wpAny_bind (wpAny_sequenceKey ht.typeIs (by decide) ?_)
  refine wpAny_bind (wpAny_callSpecial?_slot (name := Str.ofString "__getitem__") ht.typeIs PyProof.Rows.slot_tuple_getitem
    (wpAny_call_entry PyProof.Rows.slot_tuple_getitem ht.typeIs entry_tuple_getitem ?_ (args_tuple_getitem _ _)))
  show wpAny _ _ (Builtin.Tuple.tupleItemsOf (.ref t) >>= _) _ _ s
  refine wpAny_bind (tupleItemsOf_ ht ?_)
  refine wpAny_bind (wpAny_typeOf hTs ?_)
  rw [if_pos (by decide)]
  refine wpAny_bind (sliceApplied_rev hs pl pu ps ?_)
  have hno : ¬ ((((items.size : Int) - 1) == 0 && (-1 : Int) == 1 && items.size == items.size) = true) := by simp
  show wpAny _ _ (if (((items.size : Int) - 1) == 0 && (-1 : Int) == 1 && items.size == items.size) = true then _ else _) _ _ s
  rw [if_neg hno, pick_rev]
  first
    | exact wpAny_bind (m := Builtin.Tuple.tupleExact _) (wpAny_newObj_type (wpAny_pure ⟨_, rfl, wpAny_pure h⟩) htake)
    | exact wpAny_bind (m := Builtin.Tuple.tupleExact _) (wpAny_newObj_type (wpAny_bind (wpAny_pure (wpAny_pure ⟨_, rfl, wpAny_pure h⟩))) htake)
    | exact wpAny_bind (wpAny_bind (m := Builtin.Tuple.tupleExact _) (wpAny_newObj_type (wpAny_pure (wpAny_pure ⟨_, rfl, wpAny_pure h⟩)) htake))
    | exact wpAny_bind (wpAny_bind (m := Builtin.Tuple.tupleExact _) (wpAny_newObj_type (wpAny_pure ⟨_, rfl, wpAny_pure h⟩) htake))
end
end HT
namespace L2.MK
open PySem PySem.Spec PyProof.Rows
/-- t[::-1] -/
def tRevT (K : PySem.W.Frag) (te : TE) : TE := fun σ H Q => te σ H fun x H1 => ∃ a xs, x = .ref a ∧ SqT K H1 a xs ∧ ∀ p, H1 p = none → Q (.ref p) (upd H1 p (.tup xs.reverse))
section
variable {X : Cx} {W : WX}
theorem pe_revT {e : Expr} {te : TE} {k : Nat} {p1 p2 p3 pos : Pos} (he : PE X e te) : PE X (.Subscript e (.Slice none none (some (.UnaryOp .USub (.Constant (.int 1) k p1) p2)) p3) pos) (tRevT X.K te) := by
  refine ⟨fun pins s σ H Q I h => ?_⟩
  refine Subscript_ (thn (he.run pins s σ H _ I h) fun v s1 ⟨x, H1, I1, r1, q1⟩ => ?_)
  obtain ⟨a, xs, ex, hx, q⟩ := q1
  subst ex
  cases r1
  have hst : PO X (some (.UnaryOp .USub (.Constant (.int 1) k p1) p2)) (tPart (tUn (rU fun i => .int (-i)) (tC (.int 1)))) := po_some (pe_un un_neg pe_int)
  refine wpAny_Slice (thn (po_none.run pins s1 σ H1 (fun o H2 => o = none ∧ H2 = H1) I1 ⟨rfl, rfl⟩) fun vl s2 ⟨l, H2, I2, pl, el, e2⟩ => ?_)
  subst el e2
  refine thn (po_none.run pins s2 σ H2 (fun o H3 => o = none ∧ H3 = H2) I2 ⟨rfl, rfl⟩) fun vu s3 ⟨u, H3, I3, pu, eu, e3⟩ => ?_
  subst eu e3
  refine thn (hst.run pins s3 σ H3 (fun o H4 => o = some (-1) ∧ H4 = H3) I3 ⟨1, rfl, -1, rfl, rfl, rfl⟩) fun vs s4 ⟨o, H4, I4, ps, eo, e4⟩ => ?_
  subst eo e4
  have I5 : Inv X pins σ H4 { s4 with heap := s4.heap.push { cls := .type "slice", data := .fields #[vl, vu, vs] } } := I4.kept (t' := s4.toks) fun b ob q => Heap.get?_push_of_some _ q
  obtain ⟨its, r, ht, hz⟩ := I5.tuple hx
  have hlen := r.length
  show wpAny (model X.prog X.w) X.A (subscriptTail e (.Slice none none (some (.UnaryOp .USub (.Constant (.int 1) k p1) p2)) p3) (.ref a) (.ref s4.heap.objs.size)) (EP X pins σ Q) X.xe { s4 with heap := s4.heap.push { cls := .type "slice", data := .fields #[vl, vu, vs] } }
  refine tail_any (ops := [.ref a, .ref s4.heap.objs.size]) ht.typeIs (PyProof.Rows.slot_tuple_getitem.lookup) ?_ (by with_unfolding_all rfl)
  refine HT.getItem_tuple_rev ht (Heap.IsSliceOf.new _ vl vu vs) pl pu ps ?_ (by rw [List.size_toArray]; omega)
  refine ⟨.ref _, _, I5.laid (t' := s4.toks) (o := .tup xs.reverse) (fun b ob q => Heap.get?_push_of_some _ q) (Nat.le_refl _) ?_, rfl, q _ (I5.hok.fresh (Nat.le_refl _))⟩
  exact ⟨by rw [List.length_reverse]; exact hz, _, r.reverse, IsTup.new _ _⟩
theorem Dens.reverse {K : PySem.W.Frag} {ρ : List (Option Addr)} {Φ : Hp} : ∀ {ds : List D} {vs : List V}, Dens K ρ Φ ds vs → Dens K ρ Φ ds.reverse vs.reverse
  | _, _, .nil => .nil
  | _, _, .cons h r => by
    rw [List.reverse_cons, List.reverse_cons]
    exact (Dens.reverse r).append (.cons h .nil)
def oRev : D → Sto → Option D := fun x M => match vw M x with
  | .lst xs => some (.lst xs.reverse)
  | .rol xs => some (.lst xs.reverse)
  | .tup xs => some (.tup xs.reverse)
  | _ => none
theorem pd_rev {e : Expr} {f : EF} {k : Nat} {p1 p2 p3 pos : Pos} (he : PD X W e f) : PD X W (.Subscript e (.Slice none none (some (.UnaryOp .USub (.Constant (.int 1) k p1) p2)) p3) pos) (eUn oRev f) := by
  refine pe_mono (pe_or (pe_revL he) (pe_revT he)) fun σ H Q h => ?_
  obtain ⟨ρ, δ, M, hE, hS, h⟩ := h
  replace h : Res X.K (fun c d H' => W c d σ H') ρ H Q ((f δ >>= fun x => opt (oRev x)) M) := h
  rw [Ev.bind_run] at h
  cases e0 : f δ M with
  | stuck => rw [e0] at h; exact h.elim
  | exc C fs M' => rw [e0] at h; exact .inl ⟨ρ, δ, M, hE, hS, by rw [e0]; exact h⟩
  | ok d M' =>
    rw [e0] at h
    replace h : Res X.K (fun c d H' => W c d σ H') ρ H Q (opt (oRev d) M') := h
    cases e1 : oRev d M' with
    | none => unfold opt at h; rw [e1] at h; exact h.elim
    | some z =>
      have hz : ∀ ρ' v H', Nx ρ H ρ' H' → StOk X.K ρ' M' H' → Den X.K ρ' (frz ρ' H') z v → Q v H' := by
        unfold opt at h; rw [e1] at h; exact h
      unfold oRev at e1
      by_cases ht : isTup d = true
      · refine .inr ⟨ρ, δ, M, hE, hS, ?_⟩
        rw [e0]
        intro ρ' v H' n S r
        cases d with
        | tup xs =>
          cases r with
          | tup h1 h2 =>
            cases e1
            exact ⟨_, _, rfl, same_sqT (frz_same ρ' H') h1, fun p hp => hz ρ' _ _ (n.trans (Nx.new hp)) (S.new hp) (.tup (.of (frz_at (S.notin hp) upd_same)) (h2.mono (Nx.new hp).ext).reverse)⟩
        | _ => cases ht
      · refine .inl ⟨ρ, δ, M, hE, hS, ?_⟩
        rw [e0]
        intro ρ' v H' n S r
        have sn := seen_of S r
        have hnt : ∀ xs, vw M' d ≠ .tup xs := fun xs q => by
          cases d with
          | tup _ => exact ht rfl
          | ref i =>
            unfold vw at q
            revert q
            simp only
            split
            · exact fun q => D.noConfusion q
            · exact fun q => D.noConfusion q
          | _ => cases q
        generalize vw M' d = d' at sn e1 hnt
        cases sn with
        | den z =>
          cases z with
          | lst h1 r1 =>
            cases e1
            exact ⟨_, _, rfl, .of (frz_of h1).2, fun p hp => hz ρ' _ _ (n.trans (Nx.new hp)) (S.new hp) (.lst (frz_at (S.notin hp) upd_same) (r1.mono (Nx.new hp).ext).reverse)⟩
          | rol h1 r1 =>
            cases e1
            exact ⟨_, _, rfl, (frz_same ρ' H').seq h1, fun p hp => hz ρ' _ _ (n.trans (Nx.new hp)) (S.new hp) (.lst (frz_at (S.notin hp) upd_same) (r1.mono (Nx.new hp).ext).reverse)⟩
          | tup h1 r1 => exact absurd rfl (hnt _)
          | _ => cases e1
        | lst h1 r1 =>
          cases e1
          exact ⟨_, _, rfl, .of h1, fun p hp => hz ρ' _ _ (n.trans (Nx.new hp)) (S.new hp) (.lst (frz_at (S.notin hp) upd_same) (r1.mono (Nx.new hp).ext).reverse)⟩
/-- .. of a list, kept -/
def evRevM (x : D) : Ev D := fun M => match rvw M x with
  | some xs => .ok (.ref M.length) (M ++ [.lst xs.reverse])
  | none => .stuck
def eRevM (f : EF) : EF := fun δ => f δ >>= evRevM
theorem pd_revM {e : Expr} {f : EF} {k : Nat} {p1 p2 p3 pos : Pos} (he : PD X W e f) : PD X W (.Subscript e (.Slice none none (some (.UnaryOp .USub (.Constant (.int 1) k p1) p2)) p3) pos) (eRevM f) :=
  pe_mono (pe_revL he) fun σ H Q ⟨ρ, δ, M, hE, hS, q⟩ =>
    rd_mono (rd_bind (f := f) (g := evRevM) hE hS q) fun x H1 ⟨ρ1, d1, M1, n1, e1, s1, r1, h1⟩ => by
      unfold evRevM at h1
      cases ev : rvw M1 d1 with
      | none => rw [ev] at h1; exact h1.elim
      | some xs =>
        rw [ev] at h1
        obtain ⟨a, vs, rfl, hs, r⟩ := rvw_of s1 r1 ev
        exact ⟨_, _, rfl, hs, fun p hp => joinL h1 s1 r.reverse hp⟩
/-! ### dicts of constants -/
theorem pd_dctF {pos : Pos} : PD X W (.Dict [] [] pos) (eC (.dct [] [])) := pe_mono pe_dnewK fun σ H Q ⟨ρ, δ, M, hE, S, h⟩ p hp =>
  Res.made (W' := fun c d H' => W c d σ H') (show Res X.K _ ρ H Q (.ok (.dct [] []) M) from h) S hp (.dct (vs := []) (frz_at (S.notin hp) upd_same) rfl .nil)
/-- {k: v}, both written -/
theorem pd_dct1 {ke ve : Expr} {k : Key} {d : D} {v : V} {pos : Pos} (hk : PE X ke (tC (kV k))) (hv : PE X ve (tC v)) (r : ∀ ρ Φ, Den X.K ρ Φ d v) : PD X W (.Dict [some ke] [ve] pos) (eC (.dct [k] [d])) :=
  pe_mono (pe_disp (L2.pps_cons hk hv L2.pps_nil) rfl rfl (by simp) (by simp)) fun σ H Q ⟨ρ, δ, M, hE, S, h⟩ p hp => by
    refine ⟨upd_same, [(k, v)], rfl, by simp, ?_⟩
    have e : upd (upd H p (.dK [])) p (.dK (mergeK [] [(k, v)])) = upd H p (.dK [(k, v)]) := by
      funext b
      unfold upd
      by_cases hb : b = p
      · simp only [hb]; rfl
      · simp only [hb, if_false]
    rw [e]
    exact Res.made (W' := fun c d H' => W c d σ H') (show Res X.K _ ρ H Q (.ok (.dct [k] [d]) M) from h) S hp (.dct (vs := [(k, v)]) (frz_at (S.notin hp) upd_same) rfl (.cons (r _ _) .nil))
/-! ### constants of a class -/
theorem pd_ccon {x f : Str} {mc : Value} {v : V} {u : Value} {d : D} {p pos : Pos} (hg : Gl X x) (hm : X.mg x = some (.ref (He.ga X.K x))) (c : ClX.CRead X.K (He.ga X.K x) mc) (k : ClX.CVal X.K (He.ga X.K x) mc f v u) (r : ∀ ρ Φ, Den X.K ρ Φ d v)
    (hd : (x == ("__debug__" : Str)) = false := by decide) (hb : attributeBase (.Name x p) f X.env (eval (.Name x p) X.env) = eval (.Name x p) X.env := by rfl) : PD X W (.Attribute (.Name x p) f pos) (eC d) :=
  pe_mono (ClX.pe_cval (pe_glob (v := .ref (He.ga X.K x)) hg hm rfl hd) hb) fun σ H Q ⟨ρ, δ, M, hE, S, h⟩ =>
    ⟨_, mc, v, u, rfl, c, k, Res.here (W' := fun c d H' => W c d σ H') (show Res X.K _ ρ H Q (.ok d M) from h) S (r _ _)⟩
end
end L2.MK

end

section
set_option Elab.async false
set_option linter.all false
set_option maxRecDepth 100000
set_option maxHeartbeats 1000000
set_option autoImplicit false
/-! An empty dict shown; sums that are kept. -/
namespace L2.MK
open PySem PySem.Spec PyProof.Rows
section
variable {X : Cx} {W : WX}
theorem repr_dk0 {pins : List (Addr × Obj)} {σ : L2.St} {H : Hp} {s : Shared} {Q : VK} {a : Addr} (hu : X.A.units + 64 < cLine) (hg : X.A.guards = some []) (I : Inv X pins σ H s) (ha : H a = some (.dK [])) (q : Q (.str "{}") H) :
    wpAny (model X.prog X.w) X.A (call (.builtin "repr") [.ref a]) (EP X pins σ Q) X.xe s := by
  obtain ⟨_, hsys, vs, kv, o, es, ep, h1, h2, h3, _, h4, _⟩ := (show ObjOk X.prog X.w H s.heap a (.dK []) from I.hok a _ ha)
  have ev : vs = [] := by
    cases vs with
    | nil => rfl
    | cons _ _ => cases kv
  subst ev
  have ee : es = #[] := by
    have : es.toList = [] := by cases q : es.toList with | nil => rfl | cons a r => (rw [q] at h4; cases h4)
    simpa using this
  subst ee
  have hr : Reads s.heap (.ref a) (.dict []) [a] := Reads.dict (kvs := []) (as := []) (bs := []) h1 h2.1 h3 .nil .nil
  refine repr_of_reads' hr rfl (fun _ z => ?_) hg (by show X.A.units + (_ + 1) < _; have : (PyData.dict []).depth ≤ 1 := by decide
                                                      omega) (fun _ _ e => e) (fun h' u tk k => ⟨.str _, H, I.kept (t' := tk) k, ⟨u, rfl⟩, q⟩) (by decide)
  rw [List.mem_singleton] at z
  rw [← z] at hsys
  simp at hsys
def gReprE : GF := fun ds M => match ds with
  | [.dct [] []] => some (.str "{}")
  | ds => gRepr ds M
theorem cr_reprE (hu : X.A.units + 64 < cLine) (hg : X.A.guards = some []) : CallR X (.builtin "repr") (rC X.K gReprE) := by
  rintro pins s σ H xs us Q I rx ⟨ρ, M, ds, d, S, r, e, q⟩
  unfold gReprE at e
  split at e
  · cases e
    obtain ⟨x, rfl, r1⟩ := dens1 r
    obtain ⟨u, rfl, ru⟩ := rx.one
    cases r1 with
    | @dct _ _ a vs h1 h2 h3 =>
      have : vs = [] := by simpa using h2
      subst this
      cases (show u = Value.ref a from ru)
      exact repr_dk0 hu hg I (frz_of h1).2 (q _ H Nx.refl S (.str _))
  · exact cr_repr hu hg pins s σ H xs us Q I rx ⟨ρ, M, ds, d, S, r, e, q⟩
/-! a sum that is changed -/
def evAddM (x y : D) : Ev D := fun M => match lvw M x, lvw M y with
  | some xs, some ys => if xs.length + ys.length ≤ sizeLine then .ok (.ref M.length) (M ++ [.lst (xs ++ ys)]) else .stuck
  | _, _ => .stuck
def eAddM (fa fb : EF) : EF := fun δ => fa δ >>= fun x => fb δ >>= fun y => evAddM x y
theorem pd_addM {a b : Expr} {fa fb : EF} {pos : Pos} (ha : PD X W a fa) (hb : PD X W b fb) : PD X W (.BinOp a .Add b pos) (eAddM fa fb) :=
  pe_mono (pe_op op_cat ha hb) fun σ H Q ⟨ρ, δ, M, hE, hS, h⟩ =>
    rd_mono (rd_bind (f := fa) (g := fun x => fb δ >>= fun y => evAddM x y) hE hS h) fun x H1 ⟨ρ1, d1, M1, n1, e1, s1, r1, h1⟩ =>
      rd_mono (rd_bind (f := fb) (g := fun y => evAddM d1 y) e1 s1 h1) fun y H2 ⟨ρ2, d2, M2, n2, e2, s2, r2, h2⟩ => by
        have ra := r1.mono n2.ext
        unfold evAddM at h2
        cases q1 : lvw M2 d1 with
        | none => rw [q1] at h2; exact h2.elim
        | some xs =>
          cases q2 : lvw M2 d2 with
          | none => rw [q1, q2] at h2; exact h2.elim
          | some ys =>
            rw [q1, q2] at h2
            simp only at h2
            by_cases hz : xs.length + ys.length ≤ sizeLine
            · rw [if_pos hz] at h2
              obtain ⟨l1, vs1, rfl, g1, z1⟩ := lvw_of s2 ra q1
              obtain ⟨l2, vs2, rfl, g2, z2⟩ := lvw_of s2 r2 q2
              exact ⟨_, _, _, _, rfl, rfl, g1, g2, by rw [← z1.length, ← z2.length]; exact hz, fun p hp => joinL h2 s2 (z1.append z2) hp⟩
            · rw [if_neg hz] at h2; exact h2.elim
end
end L2.MK
namespace L2.MK
open PySem PySem.Spec PyProof.Rows PySem.W He
/-! facts -/
def ccB (K : Frag) (C f : Str) (i : Int) : Bool := readsIn K (ga K C) (.type "type") && (eqO (specialIn K (.ref (ga K C)) "__getattribute__") (some (some (.builtin "type.__getattribute__"))) && (match findCls K (.ref (ga K C)) (.type "type") f with
  | some (.val (.int j _)) => decide (j = i)
  | _ => false))
theorem ccB_ok {K : Frag} {C f : Str} {i : Int} (h : ccB K C f i = true) : ClX.CRead K (ga K C) (.type "type") ∧ ∃ u, ClX.CVal K (ga K C) (.type "type") f (.int i) u := by
  obtain ⟨h1, h⟩ := ba h
  obtain ⟨h2, h⟩ := ba h
  refine ⟨⟨h1, eqO_ok h2⟩, ?_⟩
  split at h
  · rename_i j t e
    have := of_decide_eq_true h
    subst this
    exact ⟨_, e, _, rfl⟩
  · cases h
theorem pd_cconI {X : Cx} {W : WX} {x f : Str} {i : Int} {p pos : Pos} (hg : Gl X x) (hm : X.mg x = some (.ref (ga X.K x))) (c : ClX.CRead X.K (ga X.K x) (.type "type") ∧ ∃ u, ClX.CVal X.K (ga X.K x) (.type "type") f (.int i) u)
    (hd : (x == ("__debug__" : Str)) = false := by decide) (hb : attributeBase (.Name x p) f X.env (eval (.Name x p) X.env) = eval (.Name x p) X.env := by rfl) : PD X W (.Attribute (.Name x p) f pos) (eC (.int i)) := by
  obtain ⟨c1, u, c2⟩ := c
  exact pd_ccon hg hm c1 c2 (fun _ _ => .int _) hd hb
def prB (K : Frag) (C f : Str) : Bool := eqO (findIn K (.ref (ga K C)) f) (some (some (.ref (ma K (ga K C) f)))) && (eqO (specialIn K (.ref (ma K (ga K C) f)) "__get__") (some (some (.builtin "property.__get__"))) && (decide (takesIn K (.ref (ma K (ga K C) f)) = some true) &&
  (match recIn K (ma K (ga K C) f) "property" with
  | some (.ref _ :: _) => true
  | _ => false)))
theorem prB_ok {K : Frag} {C f : Str} (h : prB K C f = true) : PropOf K (ga K C) f (ma K (ga K C) f) (pAd K (C, some f)) := by
  obtain ⟨h1, h⟩ := ba h
  obtain ⟨h2, h⟩ := ba h
  obtain ⟨h3, h⟩ := ba h
  refine ⟨eqO_ok h1, eqO_ok h2, of_decide_eq_true h3, ?_⟩
  split at h
  · rename_i g r e
    have e2 : pAd K (C, some f) = g := by
      unfold pAd
      show (match recIn K (ma K (ga K C) f) "property" with
        | some (.ref g :: _) => g
        | _ => 0) = g
      rw [e]
    rw [e2]
    exact ⟨r, e⟩
  · cases h
def ofB (K : Frag) (C m : Str) : Bool := eqO (findIn K (.ref (ga K C)) m) (some (some (.ref (fAd K (C, some m))))) && isFn K (.ref (fAd K (C, some m)))
theorem ofB_ok {K : Frag} {C m : Str} (h : ofB K C m = true) : findIn K (.ref (ga K C)) m = some (some (.ref (fAd K (C, some m)))) ∧ isFn K (.ref (fAd K (C, some m))) = true := by
  obtain ⟨h1, h2⟩ := ba h
  exact ⟨eqO_ok h1, h2⟩
def nfB (K : Frag) (C : Str) (Ci : List Str) : Bool := (seven.all fun T => notFirst K (ga K C) (.type T)) && Ci.all fun D => notFirst K (ga K C) (.ref (ga K D))
theorem nfB_ok {K : Frag} {C : Str} {Ci : List Str} (h : nfB K C Ci = true) : (∀ T ∈ seven, notFirst K (ga K C) (.type T) = true) ∧ ∀ D ∈ Ci, notFirst K (ga K C) (.ref (ga K D)) = true := by
  obtain ⟨h1, h2⟩ := ba h
  exact ⟨fun T hT => List.all_eq_true.mp h1 T hT, fun D hD => List.all_eq_true.mp h2 D hD⟩
def neB (K : Frag) (C : Str) : Bool := eqO (findIn K (.ref (ga K C)) "__ne__") (some (some (.builtin "object.__ne__"))) && decide (mroIn K (ga K C) (.type "object") = some true)
theorem neB_ok {K : Frag} {C : Str} (h : neB K C = true) : findIn K (.ref (ga K C)) "__ne__" = some (some (.builtin "object.__ne__")) ∧ mroIn K (ga K C) (.type "object") = some true := by
  obtain ⟨h1, h2⟩ := ba h
  exact ⟨eqO_ok h1, of_decide_eq_true h2⟩
end L2.MK

end

section
set_option Elab.async false
set_option linter.all false
set_option maxRecDepth 100000
set_option maxHeartbeats 2000000
set_option autoImplicit false
/-! What denotations give: rules to reckon with. No program in sight. -/
namespace L2.MK
open PySem PySem.Spec PyProof.Rows PySem.W

abbrev XP := Str → List (Str × D) → Sto → Prop
@[irreducible] def Wp {α : Type} (o : Out α) (Q : α → Sto → Prop) (X : XP) : Prop := match o with
  | .ok a M => Q a M
  | .exc C fs M => X C fs M
  | .stuck => False
def Sm {α : Type} (o : Option α) (P : α → Prop) : Prop := match o with
  | some a => P a
  | none => False
abbrev XS := Str → List (Str × D) → Env → Sto → Prop
@[irreducible] def Ws (o : SO) (N : Env → Sto → Prop) (R : D → Sto → Prop) (X : XS) : Prop := match o with
  | .nx δ M => N δ M
  | .ret d M => R d M
  | .exc C fs δ M => X C fs δ M
  | .stuck => False
/-- nothing is raised -/
abbrev X0 : XP := fun _ _ _ => False
abbrev XS0 : XS := fun _ _ _ _ => False
theorem Sm.of {α : Type} {o : Option α} {P : α → Prop} {a : α} (e : o = some a) (h : P a) : Sm o P := by rw [e]; exact h
theorem Sm.get {α : Type} {o : Option α} {P : α → Prop} (h : Sm o P) : ∃ a, o = some a ∧ P a := by
  cases o with
  | none => exact h.elim
  | some a => exact ⟨a, rfl, h⟩
theorem wp_ok {α : Type} {a : α} {M : Sto} {Q : α → Sto → Prop} {X : XP} : Wp (.ok a M) Q X ↔ Q a M := by with_unfolding_all exact Iff.rfl
theorem sm_some {α : Type} {P : α → Prop} (a : α) : Sm (some a) P ↔ P a := Iff.rfl
theorem sm_none {α : Type} {P : α → Prop} : Sm (none : Option α) P ↔ False := Iff.rfl
theorem sm_map {α β : Type} {P : β → Prop} (f : α → β) (o : Option α) : Sm (o.map f) P ↔ Sm o (fun a => P (f a)) := by cases o <;> exact Iff.rfl
theorem sm_bind {α β : Type} {P : β → Prop} (f : α → Option β) (o : Option α) : Sm (o.bind f) P ↔ Sm o (fun a => Sm (f a) P) := by cases o <;> exact Iff.rfl
theorem sm_ite {α : Type} {P : α → Prop} {c : Prop} [Decidable c] {a : α} : Sm (if c then some a else none) P ↔ c ∧ P a := by
  by_cases h : c
  · rw [if_pos h]; exact ⟨fun z => ⟨h, z⟩, fun z => z.2⟩
  · rw [if_neg h]; exact ⟨fun z => z.elim, fun z => h z.1⟩
theorem Sm.mono {α : Type} {o : Option α} {P P' : α → Prop} (h : Sm o P) (m : ∀ a, P a → P' a) : Sm o P' := by
  cases o with
  | none => exact h
  | some a => exact m a h
theorem Wp.mono {α : Type} {o : Out α} {Q Q' : α → Sto → Prop} {X : XP} (h : Wp o Q X) (m : ∀ a M, Q a M → Q' a M) : Wp o Q' X := by with_unfolding_all
  cases o with
  | ok a M => exact m a M h
  | exc C fs M => exact h
  | stuck => exact h
theorem Wp.monoX {α : Type} {o : Out α} {Q Q' : α → Sto → Prop} {X X' : XP} (h : Wp o Q X) (m : ∀ a M, Q a M → Q' a M) (mx : ∀ C fs M, X C fs M → X' C fs M) : Wp o Q' X' := by with_unfolding_all
  cases o with
  | ok a M => exact m a M h
  | exc C fs M => exact mx C fs M h
  | stuck => exact h
theorem Wp.any {α : Type} {o : Out α} {Q Q' : α → Sto → Prop} {X : XP} (h : Wp o Q X0) (m : ∀ a M, Q a M → Q' a M) : Wp o Q' X := h.monoX m fun _ _ _ z => z.elim
theorem Ws.mono {o : SO} {N N' : Env → Sto → Prop} {R R' : D → Sto → Prop} {X X' : XS} (h : Ws o N R X) (m : ∀ δ M, N δ M → N' δ M) (m2 : ∀ d M, R d M → R' d M) (mx : ∀ C fs δ M, X C fs δ M → X' C fs δ M) : Ws o N' R' X' := by with_unfolding_all
  cases o with
  | nx δ M => exact m δ M h
  | ret d M => exact m2 d M h
  | exc C fs δ M => exact mx C fs δ M h
  | stuck => exact h
section
variable {α β : Type} {Q : α → Sto → Prop} {X : XP} {QD : D → Sto → Prop} {M : Sto} {δ : Env} {N : Env → Sto → Prop} {R : D → Sto → Prop} {XX : XS}
theorem w_bind (m : Ev β) (f : β → Ev α) : Wp ((m >>= f) M) Q X ↔ Wp (m M) (fun a M' => Wp (f a M') Q X) X := by with_unfolding_all
  rw [Ev.bind_run]; cases m M <;> exact Iff.rfl
theorem w_pure (a : α) : Wp (Ev.pure a M) Q X ↔ Q a M := by with_unfolding_all exact Iff.rfl
theorem w_pure' (a : α) : Wp ((Pure.pure a : Ev α) M) Q X ↔ Q a M := by with_unfolding_all exact Iff.rfl
theorem w_fail : Wp ((Ev.fail : Ev α) M) Q X ↔ False := by with_unfolding_all exact Iff.rfl
theorem w_opt (o : Sto → Option D) : Wp (opt o M) QD X ↔ Sm (o M) (fun d => QD d M) := by with_unfolding_all
  unfold opt; cases o M <;> exact Iff.rfl
theorem w_var (i : Nat) : Wp (eVar i δ M) QD X ↔ Sm (δ[i]?.join) (fun d => QD d M) := by with_unfolding_all
  unfold eVar Ev.get; cases δ[i]?.join <;> exact Iff.rfl
theorem w_C (d : D) : Wp (eC d δ M) QD X ↔ QD d M := by with_unfolding_all exact Iff.rfl
theorem w_bin (g : OF) (fa fb : EF) : Wp (eBin g fa fb δ M) QD X ↔ Wp (fa δ M) (fun x M1 => Wp (fb δ M1) (fun y M2 => Sm (g x y M2) (fun d => QD d M2)) X) X := by
  unfold eBin; simp only [w_bind, w_opt]
theorem w_un (g : D → Sto → Option D) (fa : EF) : Wp (eUn g fa δ M) QD X ↔ Wp (fa δ M) (fun x M1 => Sm (g x M1) (fun d => QD d M1)) X := by
  unfold eUn; simp only [w_bind, w_opt]
theorem w_call (g : GF) (fa : AF) : Wp (eCall g fa δ M) QD X ↔ Wp (fa δ M) (fun ds M1 => Sm (g ds M1) (fun d => QD d M1)) X := by
  unfold eCall; simp only [w_bind, w_opt]
theorem w_fun (g : List D → Ev D) (fa : AF) : Wp (eFun g fa δ M) QD X ↔ Wp (fa δ M) (fun ds M1 => Wp (g ds M1) QD X) X := by
  unfold eFun; simp only [w_bind]
theorem w_nil {QL : List D → Sto → Prop} : Wp (aNil δ M) QL X ↔ QL [] M := by with_unfolding_all exact Iff.rfl
theorem w_cons {QL : List D → Sto → Prop} (f : EF) (g : AF) : Wp (aCons f g δ M) QL X ↔ Wp (f δ M) (fun d M1 => Wp (g δ M1) (fun ds M2 => QL (d :: ds) M2) X) X := by
  unfold aCons; simp only [w_bind, w_pure]
theorem w_tup (f : AF) : Wp (eTup f δ M) QD X ↔ Wp (f δ M) (fun ds M1 => ds.length ≤ sizeLine ∧ QD (.tup ds) M1) X := by
  unfold eTup; simp only [w_bind, w_opt, sm_ite]
theorem w_lst (f : AF) : Wp (eLst f δ M) QD X ↔ Wp (f δ M) (fun ds M1 => ds.length ≤ sizeLine ∧ QD (.lst ds) M1) X := by
  unfold eLst; simp only [w_bind, w_opt, sm_ite]
theorem w_lstM (f : AF) : Wp (eLstM f δ M) QD X ↔ Wp (f δ M) (fun ds M1 => ds.length ≤ sizeLine ∧ QD (.ref M1.length) (M1 ++ [.lst ds])) X := by with_unfolding_all
  have e : Wp (eLstM f δ M) QD X ↔ Wp (f δ M) (fun ds M1 => Wp ((if ds.length ≤ sizeLine then .ok (.ref M1.length) (M1 ++ [.lst ds]) else .stuck) : Out D) QD X) X := by
    exact w_bind (f δ) _
  refine e.trans ?_
  constructor <;> refine fun h => h.mono fun ds M1 z => ?_
  · split at z
    · exact ⟨by assumption, z⟩
    · exact z.elim
  · rw [if_pos z.1]; exact z.2
theorem w_dctM : Wp (eDctM δ M) QD X ↔ QD (.ref M.length) (M ++ [.dK []]) := by with_unfolding_all exact Iff.rfl
theorem w_isBl {QB : Bool → Sto → Prop} (b : Bool) : Wp (isBl (.bl b) M) QB X ↔ QB b M := by with_unfolding_all exact Iff.rfl
theorem w_tru {QB : Bool → Sto → Prop} (d : D) : Wp (tru d M) QB X ↔ Sm (truD M d) (fun b => QB b M) := by with_unfolding_all
  unfold tru; cases truD M d <;> exact Iff.rfl
theorem w_bTru {QB : Bool → Sto → Prop} (f : EF) : Wp (bTru f δ M) QB X ↔ Wp (f δ M) (fun d M1 => Sm (truD M1 d) (fun b => QB b M1)) X := by
  unfold bTru; simp only [w_bind, w_tru]
theorem w_bOf {QB : Bool → Sto → Prop} (f : EF) : Wp (bOf f δ M) QB X ↔ Wp (f δ M) (fun d M1 => Wp (isBl d M1) QB X) X := by
  unfold bOf; simp only [w_bind]
theorem wp_ite {c : Prop} [Decidable c] {m n : Ev α} : Wp ((if c then m else n) M) Q X ↔ if c then Wp (m M) Q X else Wp (n M) Q X := by
  split <;> exact Iff.rfl
theorem w_and (f g : EF) : Wp (eAnd f g δ M) QD X ↔ Wp (f δ M) (fun x M1 => Sm (truD M1 x) (fun k => if k = true then Wp (g δ M1) QD X else QD x M1)) X := by
  unfold eAnd; simp only [w_bind, w_tru, wp_ite, w_pure]
theorem w_or (f g : EF) : Wp (eOr f g δ M) QD X ↔ Wp (f δ M) (fun x M1 => Sm (truD M1 x) (fun k => if k = true then QD x M1 else Wp (g δ M1) QD X)) X := by
  unfold eOr; simp only [w_bind, w_tru, wp_ite, w_pure]
theorem w_not (f : EF) : Wp (eNot f δ M) QD X ↔ Wp (f δ M) (fun x M1 => Sm (truD M1 x) (fun k => QD (.bl !k) M1)) X := by
  unfold eNot; simp only [w_bind, w_tru, w_pure]
theorem wb_and {QB : Bool → Sto → Prop} (f g : BF) : Wp (bAnd f g δ M) QB X ↔ Wp (f δ M) (fun k M1 => if k = true then Wp (g δ M1) QB X else QB false M1) X := by
  unfold bAnd; simp only [w_bind, wp_ite, w_pure]
theorem wb_or {QB : Bool → Sto → Prop} (f g : BF) : Wp (bOr f g δ M) QB X ↔ Wp (f δ M) (fun k M1 => if k = true then QB true M1 else Wp (g δ M1) QB X) X := by
  unfold bOr; simp only [w_bind, wp_ite, w_pure]
theorem wb_not {QB : Bool → Sto → Prop} (f : BF) : Wp (bNot f δ M) QB X ↔ Wp (f δ M) (fun k M1 => QB (!k) M1) X := by
  unfold bNot; simp only [w_bind, w_pure]
theorem wb_yes {QB : Bool → Sto → Prop} : Wp (bYes δ M) QB X ↔ QB true M := by with_unfolding_all exact Iff.rfl
theorem w_if (c : BF) (f g : EF) : Wp (eIf c f g δ M) QD X ↔ Wp (c δ M) (fun k M1 => if k = true then Wp (f δ M1) QD X else Wp (g δ M1) QD X) X := by
  unfold eIf; simp only [w_bind, wp_ite]
theorem w_chain (g g' : OF) (fa fb fc : EF) : Wp (eChain g g' fa fb fc δ M) QD X ↔ Wp (fa δ M) (fun x M1 => Wp (fb δ M1) (fun y M2 => Sm (g x y M2) (fun z => Wp (isBl z M2) (fun k M3 => if k = true then Wp (fc δ M3) (fun w M4 => Sm (g' y w M4) (fun d => QD d M4)) X else QD (.bl false) M3) X)) X) X := by
  unfold eChain; simp only [w_bind, w_opt, wp_ite, w_pure]
theorem w_cut (f : EF) (lo hi : OF1) : Wp (eCut f lo hi δ M) QD X ↔ Wp (f δ M) (fun x M1 => Wp (lo δ M1) (fun l M2 => Wp (hi δ M2) (fun h M3 => Sm (oCut x l h M3) (fun d => QD d M3)) X) X) X := by
  unfold eCut; simp only [w_bind, w_opt]
theorem w_evCutM (x : D) (l h : Option Int) : Wp (evCutM x l h M) QD X ↔ Sm (rvw M x) (fun xs => QD (.ref M.length) (M ++ [.lst (cutD xs l h)])) := by with_unfolding_all
  unfold evCutM; cases rvw M x <;> exact Iff.rfl
theorem w_cutM (f : EF) (lo hi : OF1) : Wp (eCutM f lo hi δ M) QD X ↔ Wp (f δ M) (fun x M1 => Wp (lo δ M1) (fun l M2 => Wp (hi δ M2) (fun h M3 => Sm (rvw M3 x) (fun xs => QD (.ref M3.length) (M3 ++ [.lst (cutD xs l h)]))) X) X) X := by
  unfold eCutM; simp only [w_bind, w_evCutM]
theorem w_sNo {QO : Option Int → Sto → Prop} : Wp (sNo δ M) QO X ↔ QO none M := by with_unfolding_all exact Iff.rfl
theorem w_isI {QO : Option Int → Sto → Prop} (i : Int) : Wp (isI (.int i) M) QO X ↔ QO (some i) M := by with_unfolding_all exact Iff.rfl
theorem w_sAt {QO : Option Int → Sto → Prop} (f : EF) : Wp (sAt f δ M) QO X ↔ Wp (f δ M) (fun d M1 => Wp (isI d M1) QO X) X := by
  unfold sAt; simp only [w_bind]
theorem w_evTy {QU : Unit → Sto → Prop} (T : String) (o : D) : Wp (evTy T o M) QU X ↔ tyOkD T M o = true ∧ QU () M := by with_unfolding_all
  unfold evTy
  by_cases h : tyOkD T M o = true
  · rw [if_pos h]; exact ⟨fun z => ⟨h, z⟩, fun z => z.2⟩
  · rw [if_neg h]; exact ⟨fun z => z.elim, fun z => h z.1⟩
theorem w_evM (g : MF) (o : D) (ds : List D) : Wp (evM g o ds M) QD X ↔ Sm (g o ds M) (fun p => QD p.1 p.2) := by with_unfolding_all
  unfold evM; rcases g o ds M with _ | ⟨d, M'⟩ <;> exact Iff.rfl
theorem w_meth (T : String) (g : MF) (fo : EF) (fa : AF) : Wp (eMeth T g fo fa δ M) QD X ↔ Wp (fo δ M) (fun o M1 => tyOkD T M1 o = true ∧ Wp (fa δ M1) (fun ds M2 => Sm (g o ds M2) (fun p => QD p.1 p.2)) X) X := by
  unfold eMeth; simp only [w_bind, w_evTy, w_evM]
theorem w_setd (fo fe ff : EF) : Wp (eSetd fo fe ff δ M) QD X ↔ Wp (fo δ M) (fun d M1 => Wp (evIsD d M1) (fun _ M2 => Wp (fe δ M2) (fun y M3 => Wp (ff δ M3) (fun z M4 => Wp (evSetd d y z M4) QD X) X) X) X) X := by
  unfold eSetd; simp only [w_bind]
/-! statements -/
theorem ws_skip : Ws (sSkip δ M) N R XX ↔ N δ M := by with_unfolding_all exact Iff.rfl
theorem ws_seq (f g : SF) : Ws (sSeq f g δ M) N R XX ↔ Ws (f δ M) (fun δ' M' => Ws (g δ' M') N R XX) R XX := by with_unfolding_all
  unfold sSeq; cases f δ M <;> exact Iff.rfl
theorem ws_bind (f : EF) (g : D → SF) : Ws (sBind f g δ M) N R XX ↔ Wp (f δ M) (fun d M' => Ws (g d δ M') N R XX) (fun C fs M' => XX C fs δ M') := by with_unfolding_all
  unfold sBind; cases f δ M <;> exact Iff.rfl
theorem ws_bindB (f : BF) (g : Bool → SF) : Ws (sBindB f g δ M) N R XX ↔ Wp (f δ M) (fun d M' => Ws (g d δ M') N R XX) (fun C fs M' => XX C fs δ M') := by with_unfolding_all
  unfold sBindB; cases f δ M <;> exact Iff.rfl
theorem ws_exp (f : EF) : Ws (sExp f δ M) N R XX ↔ Wp (f δ M) (fun _ M' => N δ M') (fun C fs M' => XX C fs δ M') := by
  unfold sExp; simp only [ws_bind, ws_skip]
theorem ws_ret (f : EF) : Ws (sRet f δ M) N R XX ↔ Wp (f δ M) (fun d M' => R d M') (fun C fs M' => XX C fs δ M') := by with_unfolding_all
  unfold sRet; rw [ws_bind]; exact Iff.rfl
theorem ws_retN : Ws (sRetN δ M) N R XX ↔ R .non M := by with_unfolding_all exact Iff.rfl
theorem ws_ite {c : Prop} [Decidable c] {f g : SF} : Ws ((if c then f else g) δ M) N R XX ↔ if c then Ws (f δ M) N R XX else Ws (g δ M) N R XX := by
  split <;> exact Iff.rfl
theorem ws_if (b : BF) (f g : SF) : Ws (sIf b f g δ M) N R XX ↔ Wp (b δ M) (fun k M' => if k = true then Ws (f δ M') N R XX else Ws (g δ M') N R XX) (fun C fs M' => XX C fs δ M') := by
  unfold sIf; simp only [ws_bindB, ws_ite]
theorem ws_noRet (o : SO) : Ws (noRet o) N R XX ↔ Ws o N (fun _ _ => False) XX := by with_unfolding_all
  cases o <;> exact Iff.rfl
theorem ws_gN (i : Nat) (d : D) : Ws (gN i d δ M) N R XX ↔ N (δ.set i (some d)) M := by with_unfolding_all exact Iff.rfl
theorem ws_asg (f : EF) (g : D → SF) : Ws (sAsg f g δ M) N R XX ↔ Wp (f δ M) (fun d M' => Ws (g d δ M') N (fun _ _ => False) XX) (fun C fs M' => XX C fs δ M') := by
  unfold sAsg; rw [ws_bind]; simp only [ws_noRet]
theorem ws_gNils : Ws (gNils [] δ M) N R XX ↔ N δ M := by with_unfolding_all exact Iff.rfl
theorem ws_gConss (g : D → SF) (gs : List D → SF) (d : D) (r : List D) : Ws (gConss g gs (d :: r) δ M) N R XX ↔ Ws (g d δ M) (fun δ' M' => Ws (gs r δ' M') N R XX) R XX := by
  unfold gConss; rw [ws_seq]
theorem ws_gTup (n : Nat) (gs : List D → SF) (d : D) : Ws (gTupD n gs d δ M) N R XX ↔ Sm (sqD M d) (fun ys => ys.length = n ∧ Ws (gs ys δ M) N R XX) := by with_unfolding_all
  unfold gTupD
  cases sqD M d with
  | none => exact Iff.rfl
  | some ys =>
    simp only [sm_some]
    by_cases h : ys.length = n
    · rw [if_pos h]; exact ⟨fun z => ⟨h, z⟩, fun z => z.2⟩
    · rw [if_neg h]; exact ⟨fun z => z.elim, fun z => h z.1⟩
theorem ws_gSub (fo fi : EF) (v : D) : Ws (gSubD fo fi v δ M) N R XX ↔ Wp (fo δ M) (fun o M1 => Wp (fi δ M1) (fun i M2 => Sm (stI o i v M2) (fun M' => N δ M')) (fun C fs M' => XX C fs δ M')) (fun C fs M' => XX C fs δ M') := by with_unfolding_all
  unfold gSubD
  simp only [ws_bind]
  constructor <;> refine fun h => h.mono fun o M1 z => z.mono fun i M2 q => ?_
  · cases e : stI o i v M2 with
    | none => rw [e] at q; exact q.elim
    | some M' => rw [e] at q; exact q
  · cases e : stI o i v M2 with
    | none => rw [e] at q; exact q.elim
    | some M' => rw [e] at q; exact q
theorem ws_raise (f : MkF) : Ws (sRaise f δ M) N R XX ↔ Wp (f δ M) (fun p M' => XX p.1 p.2 δ M') (fun C fs M' => XX C fs δ M') := by with_unfolding_all
  unfold sRaise; cases f δ M <;> exact Iff.rfl
theorem ws_try (K : Frag) (cv : Value) (i : Nat) (fb fs : SF) : Ws (sTry K cv i fb fs δ M) N R XX ↔ Ws (fb δ M) N R (fun C xs δ' M' => Sm (exmOne K (.ref (He.ga K C)) cv) (fun b => if b = true then Ws (unsetO i (fs (δ'.set i (some (.exc C xs))) M')) N R XX else XX C xs δ' M')) := by with_unfolding_all
  unfold sTry
  cases fb δ M with
  | exc C xs δ' M' =>
    unfold Ws; dsimp only
    cases exmOne K (.ref (He.ga K C)) cv with
    | none => exact Iff.rfl
    | some b => cases b <;> exact Iff.rfl
  | _ => exact Iff.rfl
/-! calls -/
theorem w_body (o : SO) : Wp (bodyO o) QD X ↔ Ws o (fun _ M' => QD .non M') QD (fun C fs _ M' => X C fs M') := by with_unfolding_all
  cases o <;> exact Iff.rfl
theorem w_trim (n : Nat) (o : Out D) : Wp (trimO n o) QD X ↔ Wp o (fun d M' => Sm (thaw n M' d) fun d' => Sm (thawSto n M' (M'.take n)) fun M'' => QD d' M'') (fun C fs M' => Sm (thawfW (resN n M' 4) fs) fun fs' => Sm (thawSto n M' (M'.take n)) fun M'' => X C fs' M'') := by with_unfolding_all
  cases o with
  | ok d M' =>
    unfold trimO bothO
    cases e1 : thaw n M' d with
    | none => simp only [Wp, e1, Sm]
    | some x => cases e2 : thawSto n M' (M'.take n) <;> simp only [Wp, e1, e2, Sm]
  | exc C fs M' =>
    unfold trimO bothO
    cases e1 : thawfW (resN n M' 4) fs with
    | none => simp only [Wp, e1, Sm]
    | some x => cases e2 : thawSto n M' (M'.take n) <;> simp only [Wp, e1, e2, Sm]
  | stuck => exact Iff.rfl
end
/-! ### what has no way into the store -/
mutual
def cl (n : Nat) : D → Bool
  | .tup xs => cls n xs
  | .lst xs => cls n xs
  | .rol xs => cls n xs
  | .dct _ xs => cls n xs
  | .ref i => decide (i < n)
  | .ins _ _ => false
  | .exc _ _ => false
  | _ => true
def cls (n : Nat) : List D → Bool
  | [] => true
  | d :: r => cl n d && cls n r
end
theorem cls_mem {n : Nat} : ∀ {xs : List D}, cls n xs = true ↔ ∀ d ∈ xs, cl n d = true
  | [] => by simp [cls]
  | d :: r => by simp [cls, cls_mem (xs := r)]
mutual
theorem cl_mono {n m : Nat} (h : n ≤ m) : ∀ {d : D}, cl n d = true → cl m d = true
  | .tup xs, e => by unfold cl at *; exact cls_mono h e
  | .lst xs, e => by unfold cl at *; exact cls_mono h e
  | .rol xs, e => by unfold cl at *; exact cls_mono h e
  | .dct _ xs, e => by unfold cl at *; exact cls_mono h e
  | .ref i, e => by unfold cl at *; have := of_decide_eq_true e; exact decide_eq_true (by omega)
  | .non, _ => rfl
  | .bl _, _ => rfl
  | .int _, _ => rfl
  | .str _, _ => rfl
  | .ty _, _ => rfl
  | .cls _, _ => rfl
theorem cls_mono {n m : Nat} (h : n ≤ m) : ∀ {ds : List D}, cls n ds = true → cls m ds = true
  | [], _ => rfl
  | d :: r, e => by
    unfold cls at *
    obtain ⟨a, b⟩ := Bool.and_eq_true_iff.mp e
    exact Bool.and_eq_true_iff.mpr ⟨cl_mono h a, cls_mono h b⟩
end
theorem resN_lt {n : Nat} {M : Sto} {i : Nat} (h : i < n) : ∀ k, resN n M k i = some (.ref i)
  | 0 => by unfold resN; exact if_pos h
  | k + 1 => by unfold resN; exact if_pos h
mutual
theorem thaw_cl {n : Nat} {M : Sto} {k : Nat} : ∀ {d : D}, cl n d = true → thawW (resN n M k) d = some d
  | .tup xs, e => by unfold cl at e; unfold thawW; rw [thaws_cl e]; rfl
  | .lst xs, e => by unfold cl at e; unfold thawW; rw [thaws_cl e]; rfl
  | .rol xs, e => by unfold cl at e; unfold thawW; rw [thaws_cl e]; rfl
  | .dct _ xs, e => by unfold cl at e; unfold thawW; rw [thaws_cl e]; rfl
  | .ref i, e => by unfold cl at e; unfold thawW; exact resN_lt (of_decide_eq_true e) k
  | .non, _ => by unfold thawW; rfl
  | .bl _, _ => by unfold thawW; rfl
  | .int _, _ => by unfold thawW; rfl
  | .str _, _ => by unfold thawW; rfl
  | .ty _, _ => by unfold thawW; rfl
  | .cls _, _ => by unfold thawW; rfl
theorem thaws_cl {n : Nat} {M : Sto} {k : Nat} : ∀ {ds : List D}, cls n ds = true → thawsW (resN n M k) ds = some ds
  | [], _ => by unfold thawsW; rfl
  | d :: r, e => by
    unfold cls at e
    obtain ⟨a, b⟩ := Bool.and_eq_true_iff.mp e
    unfold thawsW
    rw [thaw_cl a, thaws_cl b]
end
/-- .. of a thing of the store -/
def clM (n : Nat) : MO → Bool
  | .lst xs => cls n xs
  | .dK kvs => cls n (kvs.map (·.2))
  | .ins _ fs => fs.isEmpty
  | _ => true
theorem thawMO_cl {n : Nat} {M : Sto} {m : MO} (h : clM n m = true) : thawMO n M m = some m := by
  cases m with
  | lst xs =>
    show (thawsW (resN n M 4) xs).map MO.lst = _
    rw [thaws_cl h]; rfl
  | dK kvs =>
    show (thawsW (resN n M 4) (kvs.map (·.2))).map (fun ys => MO.dK ((kvs.map (·.1)).zip ys)) = _
    rw [thaws_cl h]
    have z : ∀ l : List (Key × D), (l.map (·.1)).zip (l.map (·.2)) = l := fun l => by
      induction l with
      | nil => rfl
      | cons a r ih => rw [List.map_cons, List.map_cons, List.zip_cons_cons, ih]
    show some (MO.dK _) = _
    rw [z]
  | ins C fs =>
    unfold clM at h
    cases fs with
    | nil => unfold thawMO thawfW; rfl
    | cons a r => cases h
  | opq => rfl
  | dead => rfl
theorem thawSto_cl {n : Nat} {M : Sto} : ∀ {ms : List MO}, (∀ m ∈ ms, clM n m = true) → thawSto n M ms = some ms
  | [], _ => rfl
  | m :: r, h => by
    unfold thawSto
    rw [thawMO_cl (h m (List.mem_cons_self ..)), thawSto_cl fun x hx => h x (List.mem_cons_of_mem _ hx)]
/-- a store that a call leaves as it is -/
def Ok (M : Sto) : Prop := ∀ m ∈ M, clM M.length m = true
theorem trim_same {M M2 : Sto} {d : D} {Q : D → Sto → Prop} (hM : Ok M) (hd : cl M.length d = true) (h : Q d M) :
    Sm (thaw M.length (M ++ M2) d) fun d' => Sm (thawSto M.length (M ++ M2) ((M ++ M2).take M.length)) fun M'' => Q d' M'' := by
  unfold thaw
  rw [thaw_cl hd, List.take_left' rfl, thawSto_cl hM]
  exact h
theorem trim_lst {M M2 : Sto} {xs : List D} {Q : D → Sto → Prop} {i : Nat} (hM : Ok M) (hi : M.length ≤ i) (hx : (M ++ M2)[i]? = some (.lst xs)) (hd : cls M.length xs = true) (h : Q (.lst xs) M) :
    Sm (thaw M.length (M ++ M2) (.ref i)) fun d' => Sm (thawSto M.length (M ++ M2) ((M ++ M2).take M.length)) fun M'' => Q d' M'' := by
  have e : thaw M.length (M ++ M2) (.ref i) = some (.lst xs) := by
    unfold thaw thawW resN
    rw [if_neg (by omega), hx]
    show (thawsW _ xs).map D.lst = _
    rw [thaws_cl hd]; rfl
  rw [e, List.take_left' rfl, thawSto_cl hM]
  exact h
end L2.MK

end

section
set_option Elab.async false
set_option linter.all false
set_option maxRecDepth 100000
set_option maxHeartbeats 2000000
set_option autoImplicit false
/-! Data, loops, comprehensions, what is drawn from. -/
namespace L2.MK
open PySem PySem.Spec PyProof.Rows PySem.W

/-! ### data: what may be shown and compared -/
mutual
def dOk : D → Bool
  | .non => true
  | .bl _ => true
  | .int i => decide (-999999999999 ≤ i) && decide (i ≤ 999999999999)
  | .str x => x.cps.toList.all fun c => decide (c < 16 ^ 8)
  | .tup xs => dOks xs
  | .lst xs => dOks xs
  | _ => false
def dOks : List D → Bool
  | [] => true
  | d :: r => dOk d && dOks r
end
mutual
def dDep : D → Nat
  | .tup xs => dDeps xs + 1
  | .lst xs => dDeps xs + 1
  | _ => 0
def dDeps : List D → Nat
  | [] => 0
  | d :: r => max (dDep d) (dDeps r)
end
mutual
def dBk : D → Nat
  | .str x => x.cps.size
  | .tup xs => dBks xs
  | .lst xs => dBks xs
  | _ => 0
def dBks : List D → Nat
  | [] => 0
  | d :: r => dBk d + 1 + dBks r
end
theorem dOks_mem : ∀ {xs : List D}, dOks xs = true ↔ ∀ d ∈ xs, dOk d = true
  | [] => by simp [dOks]
  | d :: r => by simp [dOks, dOks_mem (xs := r)]
theorem dDeps_le {k : Nat} : ∀ {xs : List D}, dDeps xs ≤ k ↔ ∀ d ∈ xs, dDep d ≤ k
  | [] => by simp [dDeps]
  | d :: r => by simp only [dDeps, List.mem_cons, forall_eq_or_imp, ← dDeps_le (xs := r)]; omega
theorem dBks_append : ∀ (xs ys : List D), dBks (xs ++ ys) = dBks xs + dBks ys
  | [], ys => by simp [dBks]
  | d :: r, ys => by simp only [List.cons_append, dBks, dBks_append r ys]; omega
theorem dBks_le {k : Nat} : ∀ {xs : List D}, (∀ d ∈ xs, dBk d ≤ k) → dBks xs ≤ xs.length * (k + 1)
  | [], _ => by simp [dBks]
  | d :: r, h => by
    have h1 := h d (List.mem_cons_self ..)
    have h2 := dBks_le (xs := r) fun x hx => h x (List.mem_cons_of_mem _ hx)
    simp only [dBks, List.length_cons, Nat.add_mul]
    omega
mutual
theorem cl_dOk {n : Nat} : ∀ {d : D}, dOk d = true → cl n d = true
  | .non, _ => rfl
  | .bl _, _ => rfl
  | .int _, _ => rfl
  | .str _, _ => rfl
  | .tup xs, h => by unfold dOk at h; unfold cl; exact cls_dOk h
  | .lst xs, h => by unfold dOk at h; unfold cl; exact cls_dOk h
  | .rol xs, h => by unfold dOk at h; cases h
  | .dct _ xs, h => by unfold dOk at h; cases h
  | .ref _, h => by unfold dOk at h; cases h
  | .ins _ _, h => by unfold dOk at h; cases h
  | .exc _ _, h => by unfold dOk at h; cases h
  | .ty _, h => by unfold dOk at h; cases h
  | .cls _, h => by unfold dOk at h; cases h
theorem cls_dOk {n : Nat} : ∀ {ds : List D}, dOks ds = true → cls n ds = true
  | [], _ => rfl
  | d :: r, h => by
    unfold dOks at h
    obtain ⟨a, b⟩ := Bool.and_eq_true_iff.mp h
    unfold cls
    exact Bool.and_eq_true_iff.mpr ⟨cl_dOk a, cls_dOk b⟩
end
/-- what is needed of the data of d -/
structure PyOk (p : PyData) (dep bk : Nat) : Prop where
  plain : p.plain = true
  nod : p.hasDict = false
  short : p.leavesShort 13 = true
  show_ : p.showable = true
  dep : p.depth = dep
  bk : p.bulk = bk
structure PysOk (ps : List PyData) (dep bk : Nat) : Prop where
  plain : PyData.plainAll ps = true
  nod : PyData.hasDictAll ps = false
  short : PyData.leavesShortAll 13 ps = true
  show_ : PyData.showableAll ps = true
  dep : PyData.depthAll ps = dep
  bk : PyData.bulkAll ps = bk
theorem log2_small {i : Int} (h1 : -999999999999 ≤ i) (h2 : i ≤ 999999999999) : i.natAbs.log2 < 1920 := by
  have : i.natAbs < 2 ^ 40 := by
    have : (2 : Nat) ^ 40 = 1099511627776 := by decide
    omega
  have h3 : i.natAbs.log2 ≤ 40 := by
    by_cases h0 : i.natAbs = 0
    · rw [h0]; decide
    · have := (Nat.log2_lt h0).mpr this
      omega
  omega
mutual
theorem py_ok : ∀ {d : D}, dOk d = true → ∃ p, d.py = some p ∧ PyOk p (dDep d) (dBk d)
  | .non, _ => ⟨_, rfl, rfl, rfl, rfl, rfl, rfl, rfl⟩
  | .bl _, _ => ⟨_, rfl, rfl, rfl, rfl, rfl, rfl, rfl⟩
  | .int i, h => by
    unfold dOk at h
    obtain ⟨a, b⟩ := Bool.and_eq_true_iff.mp h
    have a := of_decide_eq_true a
    have b := of_decide_eq_true b
    exact ⟨_, rfl, rfl, rfl, decide_eq_true (PyData.shown_int_le2 a b), decide_eq_true (log2_small a b), rfl, rfl⟩
  | .str x, h => by
    unfold dOk at h
    exact ⟨_, rfl, rfl, rfl, h, rfl, rfl, rfl⟩
  | .tup xs, h => by
    unfold dOk at h
    obtain ⟨ps, e, o⟩ := pys_ok h
    exact ⟨.tuple ps, by unfold D.py; rw [e]; rfl, o.plain, o.nod, o.short, o.show_, congrArg (· + 1) o.dep, o.bk⟩
  | .lst xs, h => by
    unfold dOk at h
    obtain ⟨ps, e, o⟩ := pys_ok h
    exact ⟨.list ps, by unfold D.py; rw [e]; rfl, o.plain, o.nod, o.short, o.show_, congrArg (· + 1) o.dep, o.bk⟩
  | .rol xs, h => by unfold dOk at h; cases h
  | .dct _ xs, h => by unfold dOk at h; cases h
  | .ref _, h => by unfold dOk at h; cases h
  | .ins _ _, h => by unfold dOk at h; cases h
  | .exc _ _, h => by unfold dOk at h; cases h
  | .ty _, h => by unfold dOk at h; cases h
  | .cls _, h => by unfold dOk at h; cases h
theorem pys_ok : ∀ {ds : List D}, dOks ds = true → ∃ ps, D.pys ds = some ps ∧ PysOk ps (dDeps ds) (dBks ds)
  | [], _ => ⟨[], by unfold D.pys; rfl, rfl, rfl, rfl, rfl, rfl, rfl⟩
  | d :: r, h => by
    unfold dOks at h
    obtain ⟨a, b⟩ := Bool.and_eq_true_iff.mp h
    obtain ⟨p, e1, o1⟩ := py_ok a
    obtain ⟨ps, e2, o2⟩ := pys_ok b
    refine ⟨p :: ps, by unfold D.pys; rw [e1, e2], ?_, ?_, ?_, ?_, ?_, ?_⟩
    · unfold PyData.plainAll; rw [o1.plain, o2.plain]; rfl
    · unfold PyData.hasDictAll; rw [o1.nod, o2.nod]; rfl
    · unfold PyData.leavesShortAll; rw [o1.short, o2.short]; rfl
    · unfold PyData.showableAll; rw [o1.show_, o2.show_]; rfl
    · unfold PyData.depthAll dDeps; rw [o1.dep, o2.dep]
    · unfold PyData.bulkAll dBks; rw [o1.bk, o2.bk]
end
theorem vw_ok {M : Sto} {d : D} (h : dOk d = true) : vw M d = d := by
  cases d <;> first | rfl | (unfold dOk at h; cases h)
/-- two data, as == reads them -/
def eqv (x y : D) : Bool := PyData.eqv (pyD x) (pyD y)
theorem eqD_ok {M : Sto} {x y : D} (hx : dOk x = true) (hy : dOk y = true) (dx : dDep x ≤ 60) : eqD x y M = some (eqv x y) := by
  obtain ⟨p, e1, o1⟩ := py_ok hx
  obtain ⟨q, e2, o2⟩ := py_ok hy
  unfold eqD eqv pyD
  rw [vw_ok hx, vw_ok hy, e1, e2]
  exact if_pos ⟨o1.plain, o2.plain, by have := o1.dep; omega⟩
theorem eqv_self {x : D} (hx : dOk x = true) : eqv x x = true := by
  obtain ⟨p, e1, o1⟩ := py_ok hx
  unfold eqv pyD
  rw [e1]
  exact PySem.SeqAt.eqv_refl_plain p o1.plain
theorem eqv_int (i j : Int) : eqv (.int i) (.int j) = decide (i = j) := by
  show (i == j) = _
  by_cases h : i = j <;> simp [h]
theorem eqv_str (a b : Str) : eqv (.str a) (.str b) = decide (a = b) := by
  show (a == b) = _
  by_cases h : a = b <;> simp [h]
theorem eqv_nil {xs : List D} (h : dOks xs = true) : eqv (.lst xs) (.lst []) = xs.isEmpty := by
  obtain ⟨ps, e, _⟩ := pys_ok h
  have e1 : (D.lst xs).py = some (.list ps) := by unfold D.py; rw [e]; rfl
  have e2 : (D.lst []).py = some (.list []) := by unfold D.py D.pys; rfl
  unfold eqv pyD
  rw [e1, e2]
  cases xs with
  | nil => unfold D.pys at e; cases e; rfl
  | cons a r =>
    unfold D.pys at e
    split at e
    · cases e; rfl
    · cases e
theorem repr_ok {M : Sto} {d : D} (h : dOk d = true) (hd : dDep d ≤ 60) (hb : dBk d ≤ 2 ^ 20) : ∃ s, gRepr [d] M = some (.str s) ∧ ∀ M', gRepr [d] M' = some (.str s) := by
  obtain ⟨p, e1, o1⟩ := py_ok h
  have g : ∀ M', gRepr [d] M' = some (.str p.shown) := fun M' => by
    show (match (vw M' d).py with
      | some p => if p.showable = true ∧ p.hasDict = false ∧ p.depth ≤ 60 ∧ p.shown.length ≤ sizeLine then some (D.str p.shown) else none
      | none => none) = _
    rw [vw_ok h, e1]
    exact if_pos ⟨o1.show_, o1.nod, by rw [o1.dep]; exact hd, PyData.shown_fits_bulk (by decide) (by decide) o1.short (by rw [o1.bk]; exact hb)⟩
  exact ⟨_, g M, g⟩
/-- x in a list of data -/
theorem inD_ok {M : Sto} {x : D} {ys : List D} (hx : dOk x = true) (hy : dOks ys = true) (dx : dDep x ≤ 60) : inD x (.lst ys) M = some (ys.any fun y => eqv y x) := by
  obtain ⟨p, e1, o1⟩ := py_ok hx
  obtain ⟨ps, e2, o2⟩ := pys_ok hy
  have e3 : (D.lst ys).py = some (.list ps) := by unfold D.py; rw [e2]; rfl
  have key : ∀ {ys : List D} {ps : List PyData}, D.pys ys = some ps → ps.any (fun q => PyData.eqv q p) = ys.any fun y => eqv y x := by
    intro ys
    induction ys with
    | nil => intro ps e; unfold D.pys at e; cases e; rfl
    | cons a r ih =>
      intro ps e
      unfold D.pys at e
      split at e
      · rename_i p1 p2 q1 q2
        cases e
        rw [List.any_cons, List.any_cons, ih q2]
        congr 1
        unfold eqv pyD
        rw [q1, e1]; rfl
      · cases e
  unfold inD
  split
  · rename_i z; cases z
  · rw [vw_ok hx, e1, show vw M (.lst ys) = .lst ys from rfl, e3]
    simp only
    rw [if_pos ⟨o1.plain, o2.plain, by have := o1.dep; omega⟩, key e2]
/-! ### isinstance -/
def tyN : D → String
  | .non => "NoneType"
  | .bl _ => "bool"
  | .int _ => "int"
  | .str _ => "str"
  | .tup _ => "tuple"
  | .lst _ => "list"
  | .rol _ => "list"
  | _ => ""
def isTy (d : D) (T : String) : Bool := tyN d == T || (tyN d == "bool" && T == "int")
theorem kit_ty (K : Frag) : ∀ S ∈ ["NoneType", "bool", "int", "str", "tuple", "list", "dict"], ∀ T ∈ ["bool", "int", "str", "tuple", "list", "dict"], kitOne K (.type S) (.type T) = some (S == T || (S == "bool" && T == "int")) := by
  intro S hS T hT
  simp only [List.mem_cons, List.not_mem_nil, or_false] at hS hT
  rcases hS with rfl | rfl | rfl | rfl | rfl | rfl | rfl <;> rcases hT with rfl | rfl | rfl | rfl | rfl | rfl <;> rfl
theorem gIsi_ok {K : Frag} {Ci Ce : List Str} {M : Sto} {d : D} {T : String} (h : dOk d = true) (hT : T ∈ ["bool", "int", "str", "tuple", "list", "dict"]) : gIsi K Ci Ce [d, .ty T] M = some (.bl (isTy d T)) := by
  have k : ∀ S ∈ ["NoneType", "bool", "int", "str", "tuple", "list", "dict"], (kitOne K (.type S) (.type T)).map D.bl = some (.bl (S == T || (S == "bool" && T == "int"))) := fun S hS => by rw [kit_ty K S hS T hT]; rfl
  cases d <;> first | exact k _ (by simp) | (unfold dOk at h; cases h)
/-! ### loops -/
section
variable {N : Env → Sto → Prop} {R : D → Sto → Prop} {XX : XS} {δ : Env} {M : Sto}
theorem forD_inv {it : ID} {g : D → SF} {b : SF} {xs : List D} (hit : ∀ M i, it M i = some (xs[i]?)) (I : Nat → Env → Sto → Prop)
    (h : ∀ i x δ M, xs[i]? = some x → I i δ M → Ws (g x δ M) (fun δ1 M1 => Ws (b δ1 M1) (I (i + 1)) R XX) (fun _ _ => False) XX) :
    ∀ r i δ M, i + r = xs.length → I i δ M → Ws (forD it g b r i δ M) (I xs.length) R XX
  | 0, i, δ, M, e, hI => by with_unfolding_all
    unfold forD
    rw [hit, List.getElem?_eq_none (by omega)]
    have : i = xs.length := by omega
    subst this
    exact hI
  | r + 1, i, δ, M, e, hI => by with_unfolding_all
    unfold forD
    have hi : i < xs.length := by omega
    rw [hit, List.getElem?_eq_getElem hi]
    have q := h i xs[i] δ M (List.getElem?_eq_getElem hi) hI
    simp only
    cases e1 : g xs[i] δ M with
    | ret d M' => rw [e1] at q; exact q.elim
    | exc C fs δ' M' => rw [e1] at q; exact q
    | stuck => rw [e1] at q; exact q.elim
    | nx δ1 M1 =>
      rw [e1] at q
      replace q : Ws (b δ1 M1) (I (i + 1)) R XX := q
      show Ws (match b δ1 M1 with
        | .nx δ2 M2 => forD it g b r (i + 1) δ2 M2
        | o => o) _ _ _
      cases e2 : b δ1 M1 with
      | nx δ2 M2 => rw [e2] at q; exact forD_inv hit I h r (i + 1) δ2 M2 (by omega) q
      | ret d M' => rw [e2] at q; exact q
      | exc C fs δ' M' => rw [e2] at q; exact q
      | stuck => rw [e2] at q; exact q.elim
/-- an iterable's things -/
def Wi (o : Out (Nat × ID)) (P : List D → Sto → Prop) (X : XP) : Prop := Wp o (fun p M => ∃ xs : List D, p.1 = xs.length ∧ (∀ M i, p.2 M i = some (xs[i]?)) ∧ P xs M) X
/-- THE RULE for a loop: I what holds ahead of turn i -/
theorem ws_for {f : IF} {g : D → SF} {b : SF} (I : List D → Nat → Env → Sto → Prop) (hi : Wi (f δ M) (fun xs M1 => I xs 0 δ M1 ∧ (∀ i x δ M, xs[i]? = some x → I xs i δ M → Ws (g x δ M) (fun δ1 M1 => Ws (b δ1 M1) (I xs (i + 1)) R XX) (fun _ _ => False) XX) ∧ ∀ δ M, I xs xs.length δ M → N δ M) (fun C fs M' => XX C fs δ M')) :
    Ws (sFor f g b δ M) N R XX := by with_unfolding_all
  unfold sFor
  cases e : f δ M with
  | stuck => rw [e] at hi; exact hi.elim
  | exc C fs M' => rw [e] at hi; exact hi
  | ok p M' =>
    rw [e] at hi
    replace hi := wp_ok.mp hi
    obtain ⟨xs, e1, e2, i0, h, fin⟩ := hi
    have q := forD_inv e2 (I xs) h p.1 0 δ M' (by omega) i0
    exact q.mono fin (fun _ _ z => z) fun _ _ _ _ z => z
def charsD (z : Str) : List D := z.cps.toList.map fun c => .str ⟨#[c]⟩
theorem charsD_at (z : Str) (i : Nat) : chD z i = (charsD z)[i]? := by
  unfold chD charsD
  rw [List.getElem?_map, Array.getElem?_toList]
/-- what a loop runs over, the store aside -/
def seqF : D → Option (List D)
  | .lst xs => some xs
  | .tup xs => some xs
  | .rol xs => some xs
  | .str z => some (charsD z)
  | _ => none
variable {P : List D → Sto → Prop} {X : XP}
theorem wi_seq {f : EF} (h : Wp (f δ M) (fun d M1 => Sm (seqF d) fun xs => P xs M1) X) : Wi (iSeq f δ M) P X := by with_unfolding_all
  unfold Wi iSeq
  rw [w_bind]
  refine h.mono fun d M1 q => ?_
  obtain ⟨xs, e, q⟩ := q.get
  cases d with
  | str z =>
    cases e
    exact ⟨charsD z, by show z.cps.size = _; unfold charsD; simp, fun M i => congrArg some (charsD_at z i), q⟩
  | tup ys => cases e; exact ⟨_, rfl, fun M i => rfl, q⟩
  | lst ys => cases e; exact ⟨_, rfl, fun M i => rfl, q⟩
  | rol ys => cases e; exact ⟨_, rfl, fun M i => rfl, q⟩
  | _ => cases e
/-- 0, 1, .. -/
def rngD (a : Int) (n : Nat) : List D := (List.range n).map fun i => .int (a + (i : Nat))
theorem rngD_at (a : Int) (n i : Nat) : (rngD a n)[i]? = if i < n then some (.int (a + (i : Nat))) else none := by
  unfold rngD
  rw [List.getElem?_map]
  by_cases h : i < n
  · rw [if_pos h, List.getElem?_range h]; rfl
  · rw [if_neg h, List.getElem?_eq_none (by simpa using h)]; rfl
theorem rngD_length (a : Int) (n : Nat) : (rngD a n).length = n := by unfold rngD; simp
theorem wi_rng1 {f : AF} (h : Wp (f δ M) (fun ds M1 => ∃ j : Int, ds = [.int j] ∧ -(2 ^ 62) ≤ j ∧ j < 2 ^ 62 ∧ P (rngD 0 j.toNat) M1) X) : Wi (iArgs wRng1 f δ M) P X := by with_unfolding_all
  unfold Wi iArgs
  rw [w_bind]
  refine h.mono fun ds M1 ⟨j, e, h1, h2, q⟩ => ?_
  subst e
  have e : wRng1 [.int j] M1 = some (j.toNat, fun _ i => some (if i < j.toNat then some (.int (0 + (i : Nat))) else none)) := if_pos ⟨h1, h2⟩
  unfold evI
  rw [e]
  exact ⟨rngD 0 j.toNat, (rngD_length _ _).symm, fun M i => congrArg some (rngD_at 0 j.toNat i).symm, q⟩
theorem wi_rng2 {f : AF} (h : Wp (f δ M) (fun ds M1 => ∃ a b : Int, ds = [.int a, .int b] ∧ -(2 ^ 62) ≤ a ∧ a < 2 ^ 62 ∧ -(2 ^ 62) ≤ b ∧ b < 2 ^ 62 ∧ P (rngD a (b - a).toNat) M1) X) : Wi (iArgs wRng2 f δ M) P X := by with_unfolding_all
  unfold Wi iArgs
  rw [w_bind]
  refine h.mono fun ds M1 ⟨a, b, e, h1, h2, h3, h4, q⟩ => ?_
  subst e
  have e : wRng2 [.int a, .int b] M1 = some ((b - a).toNat, fun _ i => some (if i < (b - a).toNat then some (.int (a + (i : Nat))) else none)) := if_pos ⟨h1, h2, h3, h4⟩
  unfold evI
  rw [e]
  exact ⟨rngD a (b - a).toNat, (rngD_length _ _).symm, fun M i => congrArg some (rngD_at a (b - a).toNat i).symm, q⟩
/-- frozen lists -/
def sqF : D → Option (List D)
  | .lst xs => some xs
  | .tup xs => some xs
  | .rol xs => some xs
  | _ => none
theorem sqD_F {M : Sto} {d : D} {xs : List D} (h : sqF d = some xs) : sqD M d = some xs := by
  cases d <;> simp only [sqF, reduceCtorEq, Option.some.injEq] at h <;> subst h <;> rfl
/-- (0, x), (1, y), .. -/
def enumD (k : Nat) : List D → List D
  | [] => []
  | x :: r => .tup [.int (k : Nat), x] :: enumD (k + 1) r
theorem enumD_at : ∀ (xs : List D) (k i : Nat), (enumD k xs)[i]? = xs[i]?.map fun x => .tup [.int ((k + i : Nat) : Int), x]
  | [], k, i => by simp [enumD]
  | x :: r, k, 0 => by simp [enumD]
  | x :: r, k, i + 1 => by
    simp only [enumD, List.getElem?_cons_succ, enumD_at r (k + 1) i]
    have e : k + 1 + i = k + (i + 1) := by omega
    rw [e]
theorem enumD_length : ∀ (xs : List D) (k : Nat), (enumD k xs).length = xs.length
  | [], k => rfl
  | x :: r, k => by simp only [enumD, List.length_cons, enumD_length r (k + 1)]
theorem wi_enum {f : AF} (h : Wp (f δ M) (fun ds M1 => ∃ d, ds = [d] ∧ Sm (sqF d) fun xs => P (enumD 0 xs) M1) X) : Wi (iArgs wEnum f δ M) P X := by with_unfolding_all
  unfold Wi iArgs
  rw [w_bind]
  refine h.mono fun ds M1 ⟨d, e, q⟩ => ?_
  subst e
  obtain ⟨xs, e, q⟩ := q.get
  have e1 : wEnum [d] M1 = some (xs.length, fun M i => (sqD M d).map fun zs => zs[i]?.map fun x => .tup [.int (i : Nat), x]) := by
    show (sqD M1 d).map _ = _
    rw [sqD_F e]; rfl
  unfold evI
  rw [e1]
  refine ⟨enumD 0 xs, (enumD_length _ _).symm, fun M i => ?_, q⟩
  show (sqD M d).map _ = _
  rw [sqD_F e, Option.map_some, enumD_at]
  simp
end
/-! ### list comprehensions -/
section
variable {fi : IF} {p : Pt} {bt : BF} {f : EF} {vs : List Nat} {δ : Env} {M : Sto} {Q : D → Sto → Prop} {X : XP}
theorem lcO_inv {it : ID} {xs : List D} (hit : ∀ M i, it M i = some (xs[i]?)) {n : Nat} {δw : Env} (I : Nat → List D → Sto → Prop)
    (h : ∀ i x ys Ma, xs[i]? = some x → I i ys Ma → Ma.length = n → Sm (setPt (Ma ++ [.lst ys]) p x δw) fun δ1 => Wp (bt δ1 (Ma ++ [.lst ys])) (fun k M2 => if k = true then Wp (f δ1 M2) (fun y M3 => ∃ Mc, M3 = Mc ++ [.lst ys] ∧ Mc.length = n ∧ ys.length < sizeLine ∧ I (i + 1) (ys ++ [y]) Mc) X0 else ∃ Mb, M2 = Mb ++ [.lst ys] ∧ Mb.length = n ∧ I (i + 1) ys Mb) X0) :
    ∀ r i ys Ma, i + r = xs.length → I i ys Ma → Ma.length = n → ∃ ys' Me, Me.length = n ∧ lcO it p bt f n δw r i (Ma ++ [.lst ys]) = .ok (.ref n) (Me ++ [.lst ys']) ∧ I xs.length ys' Me
  | 0, i, ys, Ma, e, hI, hl => by
    unfold lcO
    rw [hit, List.getElem?_eq_none (by omega)]
    have : i = xs.length := by omega
    subst this
    exact ⟨ys, Ma, hl, rfl, hI⟩
  | r + 1, i, ys, Ma, e, hI, hl => by with_unfolding_all
    unfold lcO
    have hi : i < xs.length := by omega
    rw [hit, List.getElem?_eq_getElem hi]
    obtain ⟨δ1, e1, q⟩ := (h i xs[i] ys Ma (List.getElem?_eq_getElem hi) hI hl).get
    simp only [e1]
    cases e2 : bt δ1 (Ma ++ [.lst ys]) with
    | stuck => rw [e2] at q; exact q.elim
    | exc C fs M' => rw [e2] at q; exact q.elim
    | ok k M2 =>
      rw [e2] at q
      cases k with
      | false =>
        rw [wp_ok, if_neg (by simp)] at q
        obtain ⟨Mb, rfl, lb, hb⟩ := q
        simp only
        exact lcO_inv hit I h r (i + 1) ys Mb (by omega) hb lb
      | true =>
        rw [wp_ok, if_pos rfl] at q
        simp only
        cases e3 : f δ1 M2 with
        | stuck => rw [e3] at q; exact q.elim
        | exc C fs M' => rw [e3] at q; exact q.elim
        | ok y M3 =>
          rw [e3] at q
          rw [wp_ok] at q
          obtain ⟨Mc, rfl, lc, hs, hc⟩ := q
          have e4 : gAppend (.ref n) [y] (Mc ++ [.lst ys]) = some (.non, Mc ++ [.lst (ys ++ [y])]) := by
            show (match (Mc ++ [MO.lst ys])[n]? with
              | some (.lst xs) => if xs.length < sizeLine then some (D.non, (Mc ++ [MO.lst ys]).set n (.lst (xs ++ [y]))) else none
              | _ => none) = _
            rw [← lc, List.getElem?_append_right (Nat.le_refl _)]
            simp only [Nat.sub_self, List.getElem?_cons_zero]
            rw [if_pos hs, List.set_append_right _ _ (Nat.le_refl _)]
            simp
          simp only [e4]
          exact lcO_inv hit I h r (i + 1) (ys ++ [y]) Mc (by omega) hc lc
/-- THE RULE for [f for p in fi if bt]: I what holds ahead of turn i, ys what is there -/
theorem w_lc (I : List D → Nat → List D → Sto → Prop) (hi : Wi (fi δ M) (fun xs M1 => M1.length = M.length ∧ I xs 0 [] M1 ∧
      (∀ i x ys Ma, xs[i]? = some x → I xs i ys Ma → Ma.length = M.length → Sm (setPt (Ma ++ [.lst ys]) p x (wipeD δ vs)) fun δ1 => Wp (bt δ1 (Ma ++ [.lst ys])) (fun k M2 => if k = true then Wp (f δ1 M2) (fun y M3 => ∃ Mc, M3 = Mc ++ [.lst ys] ∧ Mc.length = M.length ∧ ys.length < sizeLine ∧ I xs (i + 1) (ys ++ [y]) Mc) X0 else ∃ Mb, M2 = Mb ++ [.lst ys] ∧ Mb.length = M.length ∧ I xs (i + 1) ys Mb) X0) ∧
      ∀ ys Me, Me.length = M.length → I xs xs.length ys Me → Ok Me ∧ cls M.length ys = true ∧ Q (.lst ys) Me) X0) : Wp (eLc fi p bt f vs δ M) Q X := by with_unfolding_all
  unfold eLc eLcM
  cases e : fi δ M with
  | stuck => rw [e] at hi; exact hi.elim
  | exc C fs M' => rw [e] at hi; exact hi.elim
  | ok q M1 =>
    rw [e] at hi
    replace hi := wp_ok.mp hi
    obtain ⟨xs, e1, e2, l1, i0, h, fin⟩ := hi
    obtain ⟨ys', Me, le, eo, hI⟩ := lcO_inv (n := M1.length) (δw := wipeD δ vs) e2 (I xs) (fun i x ys Ma a b c => by rw [l1]; exact h i x ys Ma a b (by rw [c, l1])) q.1 0 [] M1 (by omega) i0 rfl
    simp only [eo]
    obtain ⟨o1, o2, o3⟩ := fin ys' Me (le.trans l1) hI
    rw [w_trim]
    show Sm _ _
    rw [← le.trans l1] at o2 ⊢
    exact trim_lst o1 (by omega) (by rw [← le, List.getElem?_append_right (Nat.le_refl _)]; simp) o2 o3
/-- the store stays: a filter and a map -/
theorem w_lcP (xs : List D) (B : D → Bool) (F : D → D) (hM : Ok M) (hl : xs.length ≤ sizeLine) (hi : Wi (fi δ M) (fun ys M1 => ys = xs ∧ M1 = M) X0)
    (h : ∀ x ∈ xs, ∀ M2 : Sto, Ok M2 → Sm (setPt M2 p x (wipeD δ vs)) fun δ1 => Wp (bt δ1 M2) (fun k M3 => k = B x ∧ M3 = M2) X0 ∧ (B x = true → Wp (f δ1 M2) (fun y M3 => y = F x ∧ M3 = M2) X0))
    (hc : ∀ x ∈ xs, B x = true → cl M.length (F x) = true) (hQ : Q (.lst ((xs.filter B).map F)) M) : Wp (eLc fi p bt f vs δ M) Q X := by
  refine w_lc (fun zs i ys Ma => zs = xs ∧ Ma = M ∧ ys = ((xs.take i).filter B).map F) (hi.mono fun q M1 ⟨ys, a, b, c, d⟩ => ⟨ys, a, b, ?_⟩)
  subst c d
  have clAll : ∀ n : Nat, cls M1.length (((ys.take n).filter B).map F) = true := fun n => cls_mem.mpr fun d hd => by
    obtain ⟨x, hx, rfl⟩ := List.mem_map.mp hd
    obtain ⟨h1, h2⟩ := List.mem_filter.mp hx
    exact hc x (List.mem_of_mem_take h1) h2
  refine ⟨rfl, ⟨rfl, rfl, by simp⟩, fun i x zs Ma hx ⟨_, e1, e2⟩ ln => ?_, fun zs Me ln ⟨_, e1, e2⟩ => ?_⟩
  · subst e1
    have hm : x ∈ ys := List.mem_of_getElem? hx
    have ok2 : Ok (Ma ++ [.lst zs]) := fun m hm => by
      rcases List.mem_append.mp hm with hm | hm
      · have := hM m hm
        revert this
        cases m with
        | lst as => exact fun z => cls_mono (by simp) z
        | dK as => exact fun z => cls_mono (by simp) z
        | ins _ _ => exact fun z => z
        | opq => exact fun z => z
        | dead => exact fun z => z
      · rw [List.mem_singleton] at hm
        subst hm
        subst e2
        exact cls_mono (by simp) (clAll i)
    have ilt : i < ys.length := by
      rcases Nat.lt_or_ge i ys.length with z | z
      · exact z
      · rw [List.getElem?_eq_none z] at hx; cases hx
    have tk : ys.take (i + 1) = ys.take i ++ [x] := by
      rw [List.take_succ, hx]; rfl
    refine (h x hm _ ok2).mono fun δ1 ⟨h1, h2⟩ => h1.mono fun k M3 ⟨ek, eM⟩ => ?_
    subst eM ek
    by_cases hb : B x = true
    · rw [if_pos hb]
      refine (h2 hb).mono fun y M4 ⟨ey, eM⟩ => ?_
      subst ey eM
      refine ⟨Ma, rfl, rfl, ?_, rfl, rfl, ?_⟩
      · subst e2
        have : (((ys.take i).filter B).map F).length ≤ i := by
          rw [List.length_map]
          exact Nat.le_trans (List.length_filter_le _ _) (List.length_take_le _ _)
        omega
      · rw [e2, tk, List.filter_append, List.map_append]
        simp [hb]
    · rw [if_neg hb]
      refine ⟨Ma, rfl, rfl, rfl, rfl, ?_⟩
      rw [e2, tk, List.filter_append, List.map_append]
      simp [hb]
  · subst e1
    rw [List.take_length] at e2
    subst e2
    refine ⟨hM, ?_, hQ⟩
    have := clAll ys.length
    rw [List.take_length] at this
    exact this
end
end L2.MK

end

section
set_option Elab.async false
set_option linter.all false
set_option maxRecDepth 100000
set_option maxHeartbeats 2000000
set_option autoImplicit false
/-! What the laws draw from. -/
namespace L2.MK
open PySem PySem.Spec PyProof.Rows PySem.W

/-! ### more rules -/
theorem sqD_lst (M : Sto) (xs : List D) : sqD M (.lst xs) = some xs := rfl
theorem sqD_tup (M : Sto) (xs : List D) : sqD M (.tup xs) = some xs := rfl
theorem sqD_rol (M : Sto) (xs : List D) : sqD M (.rol xs) = some xs := rfl
theorem vw_lst (M : Sto) (xs : List D) : vw M (.lst xs) = .lst xs := rfl
theorem gLen_lst (M : Sto) (xs : List D) : gLen [.lst xs] M = some (.int xs.length) := rfl
theorem gLen_tup (M : Sto) (xs : List D) : gLen [.tup xs] M = some (.int xs.length) := rfl
theorem gInt_int (M : Sto) (i : Int) : gInt [.int i] M = some (.int i) := rfl
theorem gInt_bl (M : Sto) (b : Bool) : gInt [.bl b] M = some (.int (if b then 1 else 0)) := rfl
theorem gAbs_int (M : Sto) (i : Int) : gAbs [.int i] M = some (.int (if i < 0 then -i else i)) := rfl
theorem oAdd_int (M : Sto) (i j : Int) : oAdd (.int i) (.int j) M = some (.int (i + j)) := rfl
theorem oSub_int (M : Sto) (i j : Int) : oSub (.int i) (.int j) M = some (.int (i - j)) := rfl
theorem oLt_int (M : Sto) (i j : Int) : oLt (.int i) (.int j) M = some (.bl (decide (i < j))) := rfl
theorem oLe_int (M : Sto) (i j : Int) : oLe (.int i) (.int j) M = some (.bl (decide (i ≤ j))) := rfl
theorem oGt_int (M : Sto) (i j : Int) : oGt (.int i) (.int j) M = some (.bl (decide (j < i))) := rfl
theorem oGe_int (M : Sto) (i j : Int) : oGe (.int i) (.int j) M = some (.bl (decide (j ≤ i))) := rfl
theorem oMod_int {M : Sto} {i j : Int} (h : 0 < j) : oMod (.int i) (.int j) M = some (.int (i % j)) := if_pos h
theorem oDiv_int {M : Sto} {i j : Int} (h : 0 < j) (h2 : j.natAbs.log2 < 9000) : oDiv (.int i) (.int j) M = some (.int (i / j)) := if_pos ⟨h, h2⟩
theorem oMul_int {M : Sto} {i j : Int} (h : i.natAbs.log2 + j.natAbs.log2 < 1000000) : oMul (.int i) (.int j) M = some (.int (i * j)) := if_pos h
theorem oIx_lst (M : Sto) (xs : List D) (i : Int) : oIx (.lst xs) (.int i) M = atI xs i := rfl
theorem oIx_tup (M : Sto) (xs : List D) (i : Int) : oIx (.tup xs) (.int i) M = atI xs i := rfl
theorem oEq_int (M : Sto) (i j : Int) : oEq (.int i) (.int j) M = some (.bl (decide (i = j))) := by
  unfold oEq
  have : eqD (.int i) (.int j) M = some (i == j) := by
    unfold eqD
    show (if _ then _ else _) = _
    exact if_pos ⟨rfl, rfl, Nat.zero_le _⟩
  rw [this]
  show some (D.bl (i == j)) = _
  by_cases h : i = j <;> simp [h]
theorem oNe_int (M : Sto) (i j : Int) : oNe (.int i) (.int j) M = some (.bl (!decide (i = j))) := by
  have e := oEq_int M i j
  unfold oEq at e
  unfold oNe
  cases q : eqD (.int i) (.int j) M with
  | none => rw [q] at e; cases e
  | some b => rw [q] at e; cases e; rfl
theorem atI_nat {α : Type} {xs : List α} {i : Nat} {x : α} (h : xs[i]? = some x) : atI xs (i : Int) = some x := by
  have hl : i < xs.length := by
    rcases Nat.lt_or_ge i xs.length with z | z
    · exact z
    · rw [List.getElem?_eq_none z] at h; cases h
  unfold atI ixN
  rw [if_pos (by omega), if_pos (by omega)]
  simpa using h
theorem atI_at {α : Type} {xs : List α} {i : Int} (h0 : 0 ≤ i) (h1 : i < xs.length) : ∃ x, atI xs i = some x ∧ x ∈ xs ∧ xs[i.toNat]? = some x := by
  have h : i.toNat < xs.length := by omega
  have e : ((i.toNat : Nat) : Int) = i := by omega
  have g : xs[i.toNat]? = some xs[i.toNat] := List.getElem?_eq_getElem h
  refine ⟨xs[i.toNat], ?_, List.getElem_mem _, g⟩
  have q := atI_nat g
  rw [e] at q
  exact q
theorem ixN_at {n : Nat} {i : Int} (h0 : 0 ≤ i) (h1 : i < n) : ixN n i = some i.toNat := by
  unfold ixN
  rw [if_pos h0, if_pos h1]
theorem log2_le {i : Int} {k : Nat} (h : i.natAbs < 2 ^ k) : i.natAbs.log2 ≤ k := by
  by_cases h0 : i.natAbs = 0
  · rw [h0]; simp
  · have := (Nat.log2_lt h0).mpr h
    omega
theorem mul_ok {i j : Int} (hi : i.natAbs < 2 ^ 400) (hj : j.natAbs < 2 ^ 400) : i.natAbs.log2 + j.natAbs.log2 < 1000000 := by
  have := log2_le hi
  have := log2_le hj
  omega
/-! ### the source -/
def src (p : Nat) (cs : List D) (t : Int) : Sto := List.replicate p (.lst []) ++ [.lst cs, .lst [.ref p, .int t]]
theorem src_length (p : Nat) (cs : List D) (t : Int) : (src p cs t).length = p + 2 := by unfold src; simp
section
variable {p : Nat} {cs : List D} {t : Int} {L : Sto}
theorem src_0 : (src p cs t ++ L)[p]? = some (.lst cs) := by
  unfold src
  rw [List.append_assoc, List.getElem?_append_right (by simp)]
  simp
theorem src_1 : (src p cs t ++ L)[p + 1]? = some (.lst [.ref p, .int t]) := by
  unfold src
  rw [List.append_assoc, List.getElem?_append_right (by simp)]
  simp
theorem src_L (j : Nat) : (src p cs t ++ L)[p + 2 + j]? = L[j]? := by
  rw [List.getElem?_append_right (by rw [src_length]; omega), src_length]
  congr 1
  omega
theorem src_set0 (cs' : List D) : (src p cs t ++ L).set p (.lst cs') = src p cs' t ++ L := by
  unfold src
  rw [List.append_assoc, List.append_assoc, List.set_append_right _ _ (by simp)]
  simp
theorem src_set1 (t' : Int) : (src p cs t ++ L).set (p + 1) (.lst [.ref p, .int t']) = src p cs t' ++ L := by
  unfold src
  rw [List.append_assoc, List.append_assoc, List.set_append_right _ _ (by simp)]
  simp
theorem src_setL (j : Nat) (m : MO) : (src p cs t ++ L).set (p + 2 + j) m = src p cs t ++ L.set j m := by
  rw [List.set_append_right _ _ (by rw [src_length]; omega), src_length]
  congr 2
  omega
theorem sqD_src1 : sqD (src p cs t ++ L) (.ref (p + 1)) = some [.ref p, .int t] := by unfold sqD vw; simp only [src_1]
theorem gLen_src0 : gLen [.ref p] (src p cs t ++ L) = some (.int cs.length) := by
  show (match vw (src p cs t ++ L) (.ref p) with
    | .lst xs => some (D.int xs.length)
    | .rol xs => some (.int xs.length)
    | .tup xs => some (.int xs.length)
    | .str z => if z.length ≤ sizeLine then some (.int z.length) else none
    | _ => none) = _
  unfold vw; simp only [src_0]
theorem oIx_src0 (i : Int) : oIx (.ref p) (.int i) (src p cs t ++ L) = atI cs i := by
  unfold oIx vw; simp only [src_0]
theorem stI_src1 (v : Int) : stI (.ref (p + 1)) (.int 1) (.int v) (src p cs t ++ L) = some (src p cs v ++ L) := by
  unfold stI
  simp only [src_1]
  show some ((src p cs t ++ L).set (p + 1) (.lst [.ref p, .int v])) = _
  rw [src_set1]
theorem stI_src0 {i : Int} (v : D) (h0 : 0 ≤ i) (h1 : i < cs.length) : stI (.ref p) (.int i) v (src p cs t ++ L) = some (src p (cs.set i.toNat v) t ++ L) := by
  unfold stI
  simp only [src_0]
  rw [ixN_at h0 h1]
  show some ((src p cs t ++ L).set p _) = _
  rw [src_set0]
end
/-- whole numbers, one at least -/
def Cells (cs : List D) : Prop := cs ≠ [] ∧ cs.length ≤ 1000 ∧ ∀ d ∈ cs, ∃ i : Int, d = .int i
/-- behind the source stands L; at most T were drawn -/
def At (p T : Nat) (L : Sto) (M : Sto) : Prop := ∃ cs t, M = src p cs t ++ L ∧ Cells cs ∧ 0 ≤ t ∧ t ≤ (T : Int)
/-- data alone -/
def Pl (L : Sto) : Prop := ∀ m ∈ L, clM 0 m = true
theorem clM_mono {n m : Nat} {x : MO} (h : n ≤ m) (e : clM n x = true) : clM m x = true := by
  cases x with
  | lst as => exact cls_mono h e
  | dK as => exact cls_mono h e
  | ins _ _ => exact e
  | opq => exact e
  | dead => exact e
theorem cells_cls {cs : List D} (h : Cells cs) (n : Nat) : cls n cs = true := cls_mem.mpr fun d hd => by
  obtain ⟨i, rfl⟩ := h.2.2 d hd
  rfl
theorem At.mono {p T T' : Nat} {L M : Sto} (h : At p T L M) (e : T ≤ T') : At p T' L M := by
  obtain ⟨cs, t, a, b, c, d⟩ := h
  exact ⟨cs, t, a, b, c, by omega⟩
theorem At.length {p T : Nat} {L M : Sto} (h : At p T L M) : M.length = p + 2 + L.length := by
  obtain ⟨cs, t, rfl, _⟩ := h
  rw [List.length_append, src_length]
theorem At.ok {p T : Nat} {L M : Sto} (h : At p T L M) (hL : Pl L) : Ok M := by
  have hl := h.length
  obtain ⟨cs, t, rfl, hc, _⟩ := h
  intro m hm
  rw [hl]
  rcases List.mem_append.mp hm with hm | hm
  · unfold src at hm
    rcases List.mem_append.mp hm with hm | hm
    · obtain ⟨_, rfl⟩ := List.mem_replicate.mp hm; rfl
    · simp only [List.mem_cons, List.not_mem_nil, or_false] at hm
      rcases hm with rfl | rfl
      · exact cells_cls hc _
      · show cls _ [.ref p, .int t] = true
        simp only [cls, cl, Bool.and_true, decide_eq_true_eq]; omega
  · exact clM_mono (Nat.zero_le _) (hL m hm)
theorem At.push {p T : Nat} {L M : Sto} (h : At p T L M) (m : MO) : At p T (L ++ [m]) (M ++ [m]) := by
  obtain ⟨cs, t, rfl, r⟩ := h
  exact ⟨cs, t, List.append_assoc _ _ _, r⟩
theorem At.snoc {p T : Nat} {L M : Sto} {m : MO} (h : At p T (L ++ [m]) M) : ∃ M0, M = M0 ++ [m] ∧ At p T L M0 := by
  obtain ⟨cs, t, rfl, r⟩ := h
  exact ⟨src p cs t ++ L, (List.append_assoc _ _ _).symm, cs, t, rfl, r⟩
theorem At.at {p T : Nat} {L M : Sto} (h : At p T L M) (j : Nat) : M[p + 2 + j]? = L[j]? := by
  obtain ⟨cs, t, rfl, r⟩ := h
  exact src_L j
theorem At.set {p T : Nat} {L M : Sto} (h : At p T L M) (j : Nat) (m : MO) : At p T (L.set j m) (M.set (p + 2 + j) m) := by
  obtain ⟨cs, t, rfl, r⟩ := h
  exact ⟨cs, t, src_setL j m, r⟩
theorem At.split {p T : Nat} {L1 L2 M : Sto} (h : At p T (L1 ++ L2) M) : ∃ M0, M = M0 ++ L2 ∧ At p T L1 M0 := by
  obtain ⟨cs, t, rfl, r⟩ := h
  exact ⟨src p cs t ++ L1, (List.append_assoc _ _ _).symm, cs, t, rfl, r⟩
theorem Pl.nil : Pl [] := fun m h => nomatch h
theorem Pl.snoc {L : Sto} {m : MO} (h : Pl L) (hm : clM 0 m = true) : Pl (L ++ [m]) := fun x hx => by
  rcases List.mem_append.mp hx with z | z
  · exact h x z
  · rw [List.mem_singleton] at z; subst z; exact hm
/-! ### what is called: its end -/
/-- a call that gives data: what it has made is forgotten -/
theorem call_src {g : List D → Ev D} {ds : List D} {p T : Nat} {L M : Sto} {Q : D → Sto → Prop} {X : XP} (hM : At p T L M) (hL : Pl L)
    (h : Wp (g ds M) (fun d M' => ∃ (T' : Nat) (L2 : Sto), At p T' (L ++ L2) M' ∧ cl 0 d = true ∧ ∀ M'', At p T' L M'' → Q d M'') X0) : Wp (callT g ds M) Q X := by
  unfold callT
  rw [w_trim]
  refine Wp.any h fun d M' ⟨T', L2, a, c, q⟩ => ?_
  obtain ⟨M0, rfl, a0⟩ := a.split
  have hl : M.length = M0.length := by rw [hM.length, a0.length]
  rw [hl]
  exact trim_same (a0.ok hL) (cl_mono (Nat.zero_le _) c) (q _ a0)
/-- .. that gives a list that it has made -/
theorem call_srcL {g : List D → Ev D} {ds : List D} {p T : Nat} {L M : Sto} {Q : D → Sto → Prop} {X : XP} (hM : At p T L M) (hL : Pl L)
    (h : Wp (g ds M) (fun d M' => ∃ (T' : Nat) (L2 : Sto) (j : Nat) (xs : List D), At p T' (L ++ L2) M' ∧ d = .ref (p + 2 + (L.length + j)) ∧ L2[j]? = some (.lst xs) ∧ cls 0 xs = true ∧ ∀ M'', At p T' L M'' → Q (.lst xs) M'') X0) : Wp (callT g ds M) Q X := by
  unfold callT
  rw [w_trim]
  refine Wp.any h fun d M' ⟨T', L2, j, xs, a, e, ex, c, q⟩ => ?_
  subst e
  have at1 := a.at (L.length + j)
  rw [List.getElem?_append_right (by omega), Nat.add_sub_cancel_left, ex] at at1
  obtain ⟨M0, rfl, a0⟩ := a.split
  have hl : M.length = M0.length := by rw [hM.length, a0.length]
  rw [hl]
  exact trim_lst (a0.ok hL) (by rw [a0.length]; omega) at1 (cls_mono (Nat.zero_le _) c) (q _ a0)
/-- .. of a def that leaves the store: any store -/
theorem call_pure {g : List D → Ev D} {ds : List D} {M : Sto} {Q : D → Sto → Prop} {X : XP} (hM : Ok M)
    (h : Wp (g ds M) (fun d M' => ∃ L2, M' = M ++ L2 ∧ cl M.length d = true ∧ Q d M) X0) : Wp (callT g ds M) Q X := by
  unfold callT
  rw [w_trim]
  refine Wp.any h fun d M' ⟨L2, e, c, q⟩ => ?_
  subst e
  exact trim_same hM c q
end L2.MK

end

section
set_option Elab.async false
set_option linter.all false
set_option maxRecDepth 100000
set_option maxHeartbeats 2000000
set_option autoImplicit false
set_option exponentiation.threshold 2000
/-! The defs that all laws share. -/
namespace L2.MK
open PySem PySem.Spec PyProof.Rows PySem.W

theorem setPt_nm (M : Sto) (i : Nat) (d : D) (δ : Env) : setPt M (.nm i) d δ = some (δ.set i (some d)) := by unfold setPt; rfl
theorem setPt_tp (M : Sto) (ps : List Pt) (d : D) (δ : Env) {P : Env → Prop} : Sm (setPt M (.tp ps) d δ) P ↔ Sm (sqD M d) (fun ys => Sm (setPts M ps ys δ) P) := by
  unfold setPt; cases sqD M d <;> exact Iff.rfl
theorem setPts_nil (M : Sto) (δ : Env) : setPts M [] [] δ = some δ := by unfold setPts; rfl
theorem setPts_cons (M : Sto) (p : Pt) (ps : List Pt) (d : D) (ds : List D) (δ : Env) {P : Env → Prop} : Sm (setPts M (p :: ps) (d :: ds) δ) P ↔ Sm (setPt M p d δ) (fun δ1 => Sm (setPts M ps ds δ1) P) := by
  rw [setPts]; cases setPt M p d δ <;> exact Iff.rfl
theorem wipeD_nil (δ : Env) : wipeD δ [] = δ := rfl
theorem wipeD_cons (δ : Env) (v : Nat) (vs : List Nat) : wipeD δ (v :: vs) = (wipeD δ vs).set v none := rfl
theorem seqF_lst (xs : List D) : seqF (.lst xs) = some xs := rfl
theorem seqF_tup (xs : List D) : seqF (.tup xs) = some xs := rfl
theorem seqF_str (z : Str) : seqF (.str z) = some (charsD z) := rfl
theorem sqF_lst (xs : List D) : sqF (.lst xs) = some xs := rfl
theorem sqF_tup (xs : List D) : sqF (.tup xs) = some xs := rfl
theorem truD_bl (M : Sto) (b : Bool) : truD M (.bl b) = some b := rfl
def isStr : D → Bool
  | .str _ => true
  | _ => false
def isTupB : D → Bool
  | .tup _ => true
  | _ => false
def isLst : D → Bool
  | .lst _ => true
  | _ => false
theorem gIsi_str {K : Frag} {Ci Ce : List Str} {M : Sto} {d : D} (h : dOk d = true) : gIsi K Ci Ce [d, .ty "str"] M = some (.bl (isStr d)) := by
  rw [gIsi_ok h (by simp)]
  cases d <;> first | rfl | (unfold dOk at h; cases h)
theorem gIsi_tup {K : Frag} {Ci Ce : List Str} {M : Sto} {d : D} (h : dOk d = true) : gIsi K Ci Ce [d, .ty "tuple"] M = some (.bl (isTupB d)) := by
  rw [gIsi_ok h (by simp)]
  cases d <;> first | rfl | (unfold dOk at h; cases h)
theorem gIsi_lst {K : Frag} {Ci Ce : List Str} {M : Sto} {d : D} (h : dOk d = true) : gIsi K Ci Ce [d, .ty "list"] M = some (.bl (isLst d)) := by
  rw [gIsi_ok h (by simp)]
  cases d <;> first | rfl | (unfold dOk at h; cases h)

local macro_rules
  | `(tactic| decreasing_trivial) => `(tactic| try simp only [w_bind, w_pure, w_pure', w_opt, w_var, w_C, w_bin, w_un, w_call, w_fun, w_nil, w_cons, w_tup, w_lst, w_lstM, w_dctM, w_isBl, w_bTru, w_bOf, w_and, w_or, w_not, wb_and, wb_or, wb_not, wb_yes, w_if, w_chain, w_cut, w_cutM, w_sNo, w_isI, w_sAt, w_meth, w_setd,
  ws_skip, ws_seq, ws_exp, ws_ret, ws_retN, ws_if, ws_asg, ws_gN, ws_gNils, ws_gConss, ws_gTup, ws_gSub, ws_raise, ws_try, ws_noRet, sm_some,
  startD, List.map_cons, List.map_nil, List.length_cons, List.length_nil, List.replicate, List.cons_append, List.nil_append, List.getElem?_cons_zero, List.getElem?_cons_succ, List.set_cons_zero, List.set_cons_succ, Option.join_some, Option.join_none, Nat.reduceAdd, Nat.reduceSub, Nat.add_zero, Nat.zero_add,
  sqD_lst, sqD_tup, sqD_rol, gLen_lst, gLen_tup, gInt_int, gInt_bl, gAbs_int, oAdd_int, oSub_int, oLt_int, oLe_int, oGt_int, oGe_int, oIx_lst, oIx_tup, oEq_int, oNe_int, true_and, and_true, true_implies, seqF_lst, seqF_tup, seqF_str, sqF_lst, sqF_tup, truD_bl, isStr, isTupB, isLst, ↓reduceIte, Bool.false_eq_true, Bool.not_true, Bool.not_false, setPt_nm, setPt_tp, setPts_nil, setPts_cons, wipeD_nil, wipeD_cons])
def fbDraw : SF :=
    (sSeq (sAsg (eVar 0) (gTupD 2 (gConss (gN 2) (gConss (gN 3) gNils))))
    (sSeq (sAsg (eBin oMod (eCall gInt (aCons (eVar 3) aNil)) (eCall gLen (aCons (eVar 2) aNil))) (gN 4))
    (sSeq (sAsg (eBin oIx (eVar 2) (eVar 4)) (gN 5))
    (sSeq (sAsg (eBin oAdd (eVar 3) (eC (.int 1))) (gSubD (eVar 0) (eC (.int 1))))
    (sSeq (sIf (bOf (eBin oGe (eVar 5) (eBin oPow (eC (.int 10)) (eC (.int 18))))) (sSeq (sAsg (eBin oDiv (eVar 5) (eVar 1)) (gSubD (eVar 2) (eVar 4)))
    (sRet (eBin oMod (eCall gInt (aCons (eVar 5) aNil)) (eVar 1)))) sSkip)
    (sSeq (sAsg (eBin oMod (eCall gInt (aCons (eBin oAdd (eBin oAdd (eBin oMul (eBin oMod (eCall gInt (aCons (eVar 5) aNil)) (eC (.int 2147483629))) (eC (.int 48271))) (eBin oMul (eBin oMul (eVar 3) (eVar 3)) (eC (.int 69621)))) (eC (.int 11))) aNil)) (eC (.int 2147483647))) (gN 6))
    (sSeq (sAsg (eBin oMod (eCall gInt (aCons (eBin oMul (eVar 6) (eVar 6)) aNil)) (eC (.int 2147483629))) (gN 6))
    (sSeq (sAsg (eBin oMod (eCall gInt (aCons (eBin oMul (eVar 6) (eVar 6)) aNil)) (eC (.int 2147483587))) (gN 6))
    (sSeq (sIf (bOf (eBin oGt (eVar 1) (eBin oPow (eC (.int 10)) (eC (.int 9))))) (sSeq (sAsg (eBin oMod (eCall gInt (aCons (eBin oAdd (eBin oAdd (eBin oMul (eVar 6) (eC (.int 39373))) (eBin oMul (eVar 3) (eC (.int 7919)))) (eC (.int 500))) aNil)) (eC (.int 2147483629))) (gN 7))
    (sAsg (eBin oMul (eVar 6) (eBin oAdd (eBin oMul (eBin oMul (eVar 7) (eVar 7)) (eVar 7)) (eC (.int 1)))) (gN 6))) sSkip)
    (sRet (eBin oMod (eCall gInt (aCons (eVar 6) aNil)) (eVar 1))))))))))))
def gDraw : List D → Ev D := fun ds M => bodyO (fbDraw (startD ["source", "limit", "cells", "turn", "place", "cell", "number", "other"] ds) M)
theorem pow18 (M : Sto) : oPow (.int 10) (.int 18) M = some (.int 1000000000000000000) := by
  unfold oPow
  show (if _ then _ else _) = _
  rw [if_pos (by decide +kernel)]; rfl
theorem pow9 (M : Sto) : oPow (.int 10) (.int 9) M = some (.int 1000000000) := by
  unfold oPow
  show (if _ then _ else _) = _
  rw [if_pos (by decide +kernel)]; rfl
theorem small_lt {i : Int} (h0 : 0 ≤ i) (h : i < 1000000000000) : i.natAbs < 2 ^ 400 := by
  have e : (2 : Nat) ^ 40 = 1099511627776 := by decide
  have : i.natAbs < 2 ^ 40 := by omega
  exact Nat.lt_of_lt_of_le this (Nat.pow_le_pow_right (by decide) (by decide))
theorem small_mul {i j : Int} {a b : Nat} (hi : i.natAbs < 2 ^ a) (hj : j.natAbs < 2 ^ b) (h : a + b ≤ 400) : (i * j).natAbs < 2 ^ 400 := by
  rw [Int.natAbs_mul]
  have := Nat.mul_lt_mul'' hi hj
  rw [← Nat.pow_add] at this
  exact Nat.lt_of_lt_of_le this (Nat.pow_le_pow_right (by decide) h)
theorem emod_small {i n : Int} (h : 0 < n) : 0 ≤ i % n ∧ i % n < n := ⟨Int.emod_nonneg _ (by omega), Int.emod_lt_of_pos _ h⟩
theorem lt40 {i : Int} (h0 : 0 ≤ i) (h : i < 1000000000000) : i.natAbs < 2 ^ 40 := by
  have e : (2 : Nat) ^ 40 = 1099511627776 := by decide
  omega
theorem cells_set {cs : List D} (h : Cells cs) (i : Nat) (v : Int) : Cells (cs.set i (.int v)) := by
  refine ⟨fun e => ?_, by rw [List.length_set]; exact h.2.1, fun d hd => ?_⟩
  · have := congrArg List.length e
    rw [List.length_set] at this
    exact h.1 (List.eq_nil_of_length_eq_zero this)
  · rcases List.mem_or_eq_of_mem_set hd with z | z
    · exact h.2.2 d z
    · exact ⟨v, z⟩
/-- what a draw gives -/
def Drawn (p T : Nat) (L : Sto) (n : Int) (Q : D → Sto → Prop) : Prop := ∀ k M', 0 ≤ k → k < n → At p (T + 1) L M' → Q (.int k) M'
theorem body_draw {p T : Nat} {L M : Sto} {n : Int} {Q : D → Sto → Prop} (hM : At p T L M) (hT : T < 1000000000) (h1 : 0 < n) (h2 : n.natAbs.log2 < 9000) (q : Drawn p T L n Q) : Wp (gDraw [.ref (p + 1), .int n] M) Q X0 := by
  obtain ⟨cs, t, rfl, hc, t0, t1⟩ := hM
  unfold gDraw
  rw [w_body]
  unfold fbDraw
  have hl : 0 < cs.length := List.length_pos_iff.mpr hc.1
  have hm := emod_small (i := t) (n := (cs.length : Int)) (by omega)
  obtain ⟨c, ec, hcm, _⟩ := atI_at (xs := cs) hm.1 hm.2
  obtain ⟨c, rfl⟩ := hc.2.2 c hcm
  have hN : At p (T + 1) L (src p cs (t + 1) ++ L) := ⟨cs, t + 1, rfl, hc, by omega, by omega⟩
  decreasing_trivial
  simp only [sqD_src1, sm_some, List.length_cons, List.length_nil, true_and]
  decreasing_trivial
  simp only [gLen_src0, sm_some, oMod_int (show (0 : Int) < cs.length by omega), oIx_src0, ec, stI_src1]
  decreasing_trivial
  simp only [pow18, sm_some]
  decreasing_trivial
  by_cases hb : (1000000000000000000 : Int) ≤ c
  · rw [if_pos (decide_eq_true hb)]
    simp only [oDiv_int h1 h2, sm_some, stI_src0 (t := t + 1) (L := L) (.int (c / n)) hm.1 hm.2]
    decreasing_trivial
    simp only [oMod_int h1, sm_some]
    have := emod_small (i := c) h1
    exact q _ _ this.1 this.2 ⟨_, _, rfl, cells_set hc _ _, by omega, by omega⟩
  · rw [if_neg (by simpa using hb)]
    have m1 := emod_small (i := c) (n := 2147483629) (by decide)
    rw [oMod_int (by decide), sm_some]
    have l1 := lt40 m1.1 (by omega)
    have l2 : (48271 : Int).natAbs < 2 ^ 40 := by decide
    rw [oMul_int (mul_ok (small_lt m1.1 (by omega)) (small_lt (by decide) (by decide))), sm_some]
    have lt := lt40 t0 (by omega)
    rw [oMul_int (mul_ok (small_lt t0 (by omega)) (small_lt t0 (by omega))), sm_some]
    rw [oMul_int (mul_ok (small_mul lt lt (by decide)) (small_lt (by decide) (by decide))), sm_some]
    decreasing_trivial
    rw [oMod_int (by decide), sm_some]
    generalize (c % 2147483629 * 48271 + t * t * 69621 + 11) = x1
    have m2 := emod_small (i := x1) (n := 2147483647) (by decide)
    rw [oMul_int (mul_ok (small_lt m2.1 (by omega)) (small_lt m2.1 (by omega))), sm_some]
    decreasing_trivial
    rw [oMod_int (by decide), sm_some]
    generalize (x1 % 2147483647 * (x1 % 2147483647)) = x2
    have m3 := emod_small (i := x2) (n := 2147483629) (by decide)
    rw [oMul_int (mul_ok (small_lt m3.1 (by omega)) (small_lt m3.1 (by omega))), sm_some]
    decreasing_trivial
    rw [oMod_int (by decide), sm_some]
    generalize (x2 % 2147483629 * (x2 % 2147483629)) = x3
    have m4 := emod_small (i := x3) (n := 2147483587) (by decide)
    simp only [pow9, sm_some]
    decreasing_trivial
    by_cases hn : (1000000000 : Int) < n
    · rw [if_pos (decide_eq_true hn)]
      rw [oMul_int (mul_ok (small_lt m4.1 (by omega)) (small_lt (by decide) (by decide))), sm_some]
      rw [oMul_int (mul_ok (small_lt t0 (by omega)) (small_lt (by decide) (by decide))), sm_some]
      decreasing_trivial
      rw [oMod_int (by decide), sm_some]
      generalize (x3 % 2147483587 * 39373 + t * 7919 + 500) = x4
      have m5 := emod_small (i := x4) (n := 2147483629) (by decide)
      have l5 := lt40 m5.1 (by omega)
      have l4 := lt40 m4.1 (by omega)
      have l6 := small_mul l5 l5 (by decide)
      have l7 : ((x4 % 2147483629) * (x4 % 2147483629)).natAbs < 2 ^ 80 := by
        rw [Int.natAbs_mul]
        have := Nat.mul_lt_mul'' l5 l5
        rwa [← Nat.pow_add] at this
      rw [oMul_int (mul_ok (small_lt m5.1 (by omega)) (small_lt m5.1 (by omega))), sm_some]
      rw [oMul_int (mul_ok l6 (small_lt m5.1 (by omega))), sm_some]
      decreasing_trivial
      have l8 : ((x4 % 2147483629) * (x4 % 2147483629) * (x4 % 2147483629) + 1).natAbs < 2 ^ 400 := by
        have h8 : ((x4 % 2147483629) * (x4 % 2147483629) * (x4 % 2147483629)).natAbs < 2 ^ 120 := by
          rw [Int.natAbs_mul]
          have := Nat.mul_lt_mul'' l7 l5
          rwa [← Nat.pow_add] at this
        have e : (2 : Nat) ^ 120 + 1 < 2 ^ 400 := by decide
        have h9 := Int.natAbs_add_le ((x4 % 2147483629) * (x4 % 2147483629) * (x4 % 2147483629)) 1
        have : (1 : Int).natAbs = 1 := rfl
        omega
      rw [oMul_int (mul_ok (small_lt m4.1 (by omega)) l8), sm_some]
      decreasing_trivial
      simp only [oMod_int h1, sm_some]
      have := emod_small (i := x3 % 2147483587 * ((x4 % 2147483629) * (x4 % 2147483629) * (x4 % 2147483629) + 1)) h1
      exact q _ _ this.1 this.2 hN
    · rw [if_neg (by simpa using hn)]
      simp only [oMod_int h1, sm_some]
      have := emod_small (i := x3 % 2147483587) h1
      exact q _ _ this.1 this.2 hN
/-- THE RULE for _law_draw -/
theorem w_draw {p T : Nat} {L M : Sto} {n : Int} {Q : D → Sto → Prop} {X : XP} (hM : At p T L M) (hL : Pl L) (hT : T < 1000000000) (h1 : 0 < n) (h2 : n < 1000000000000 := by omega) (q : Drawn p T L n Q) : Wp (callT gDraw [.ref (p + 1), .int n] M) Q X := by
  refine call_src hM hL (body_draw hM hT h1 ?_ fun k M' k0 k1 a => ⟨T + 1, [], by rw [List.append_nil]; exact a, rfl, fun M'' a2 => q k M'' k0 k1 a2⟩)
  have := log2_le (small_lt (i := n) (by omega) h2)
  omega
/-! ### pick -/
def gPick : List D → Ev D := fun ds M => bodyO ((sRet (eBin oIx (eVar 1) (eFun (callT gDraw) (aCons (eVar 0) (aCons (eCall gLen (aCons (eVar 1) aNil)) aNil))))) (startD ["source", "values"] ds) M)
/-- THE RULE for _law_pick: of a frozen list or tuple -/
theorem w_pick {p T : Nat} {L M : Sto} {v : D} {xs : List D} {Q : D → Sto → Prop} {X : XP} (hM : At p T L M) (hL : Pl L) (hT : T < 1000000000) (hv : v = .lst xs ∨ v = .tup xs) (h0 : xs ≠ []) (h1 : xs.length < 1000000000) (hc : cls 0 xs = true)
    (q : ∀ x ∈ xs, ∀ M', At p (T + 1) L M' → Q x M') : Wp (callT gPick [.ref (p + 1), v] M) Q X := by
  have hl : 0 < xs.length := List.length_pos_iff.mpr h0
  have key : ∀ (ix : ∀ (M' : Sto) (i : Int), oIx v (.int i) M' = atI xs i) (ln : ∀ M', gLen [v] M' = some (.int xs.length)), Wp (callT gPick [.ref (p + 1), v] M) Q X := fun ix ln => by
    refine call_src hM hL ?_
    unfold gPick
    rw [w_body]
    decreasing_trivial
    rw [ln, sm_some]
    refine w_draw hM hL hT (by omega) (by omega) fun k M' k0 k1 a => ?_
    obtain ⟨x, ex, hx, _⟩ := atI_at (xs := xs) k0 k1
    rw [ix, ex, sm_some]
    exact ⟨T + 1, [], by rw [List.append_nil]; exact a, cls_mem.mp hc x hx, fun M'' a2 => q x hx M'' a2⟩
  rcases hv with rfl | rfl
  · exact key (fun M' i => rfl) fun M' => rfl
  · exact key (fun M' i => rfl) fun M' => rfl
/-! ### shuffle -/
def fbShuffle : SF :=
    (sSeq (sAsg (eLstM aNil) (gN 2))
    (sSeq (sFor (iSeq (eVar 1)) (gN 3) (sExp (eMeth "list" gInsert (eVar 2) (aCons (eFun (callT gDraw) (aCons (eVar 0) (aCons (eBin oAdd (eCall gLen (aCons (eVar 2) aNil)) (eC (.int 1))) aNil))) (aCons (eVar 3) aNil)))))
    (sRet (eVar 2))))
def gShuffle : List D → Ev D := fun ds M => bodyO (fbShuffle (startD ["source", "values", "result", "value"] ds) M)
theorem gLen_ref {M : Sto} {j : Nat} {xs : List D} (h : M[j]? = some (.lst xs)) : gLen [.ref j] M = some (.int xs.length) := by
  show (match vw M (.ref j) with
    | .lst xs => some (D.int xs.length)
    | .rol xs => some (.int xs.length)
    | .tup xs => some (.int xs.length)
    | .str z => if z.length ≤ sizeLine then some (.int z.length) else none
    | _ => none) = _
  unfold vw; simp only [h]
theorem tyOk_ref {M : Sto} {j : Nat} {xs : List D} (h : M[j]? = some (.lst xs)) : tyOkD "list" M (.ref j) = true := by
  unfold tyOkD lvw vw; simp only [h]; rfl
theorem ins_perm {α : Type} (xs : List α) (k : Nat) (x : α) : (xs.take k ++ [x] ++ xs.drop k).Perm (xs ++ [x]) := by
  have h1 : (xs.take k ++ [x] ++ xs.drop k).Perm (xs.take k ++ (xs.drop k ++ [x])) := by
    rw [List.append_assoc]
    exact List.Perm.append_left _ List.perm_append_comm
  rw [← List.append_assoc, List.take_append_drop] at h1
  exact h1
/-- THE RULE for _law_shuffle -/
theorem w_shuffle {p T : Nat} {L M : Sto} {v : D} {xs : List D} {Q : D → Sto → Prop} {X : XP} (hM : At p T L M) (hL : Pl L) (hT : T + xs.length < 1000000000) (hv : seqF v = some xs) (h1 : xs.length < 1000000) (hc : cls 0 xs = true)
    (q : ∀ ys M', ys.Perm xs → At p (T + xs.length) L M' → Q (.lst ys) M') : Wp (callT gShuffle [.ref (p + 1), v] M) Q X := by
  refine call_srcL hM hL ?_
  unfold gShuffle
  rw [w_body]
  unfold fbShuffle
  decreasing_trivial
  have sz : sizeLine = 16777216 := sizeLine_eq
  refine ⟨by omega, ?_⟩
  have i0 : At p T (L ++ [.lst []]) (M ++ [.lst []]) := hM.push _
  rw [hM.length]
  refine ws_for (fun zs i δ M' => zs = xs ∧ ∃ (u : Option D) (ys : List D), δ = [some (.ref (p + 1)), some v, some (.ref (p + 2 + L.length)), u] ∧ ys.Perm (xs.take i) ∧ At p (T + i) (L ++ [.lst ys]) M') ?_
  refine wi_seq ?_
  decreasing_trivial
  rw [hv, sm_some]
  refine ⟨⟨rfl, none, [], rfl, by simp, i0⟩, fun i x δ M' hx ⟨_, u, ys, e, hp, ha⟩ => ?_, fun δ M' ⟨_, u, ys, e, hp, ha⟩ => ?_⟩
  · subst e
    have ilt : i < xs.length := by
      rcases Nat.lt_or_ge i xs.length with z | z
      · exact z
      · rw [List.getElem?_eq_none z] at hx; cases hx
    have yl : ys.length = i := by rw [hp.length_eq, List.length_take]; omega
    have at1 : M'[p + 2 + L.length]? = some (.lst ys) := by
      rw [ha.at, List.getElem?_append_right (Nat.le_refl _)]; simp
    have cy : cls 0 ys = true := cls_mem.mpr fun d hd => cls_mem.mp hc d (List.mem_of_mem_take (hp.mem_iff.mp hd))
    decreasing_trivial
    refine ⟨tyOk_ref at1, ?_⟩
    rw [gLen_ref at1]
    decreasing_trivial
    refine w_draw ha (hL.snoc cy) (by omega) (by omega) (by omega) fun k M2 k0 k1 a2 => ?_
    have at2 : M2[p + 2 + L.length]? = some (.lst ys) := by
      rw [a2.at, List.getElem?_append_right (Nat.le_refl _)]; simp
    have e : gInsert (.ref (p + 2 + L.length)) [.int k, x] M2 = some (.non, M2.set (p + 2 + L.length) (.lst (ys.take k.toNat ++ [x] ++ ys.drop k.toNat))) := by
      unfold gInsert
      simp only [at2]
      exact if_pos ⟨by omega, k0, by omega⟩
    decreasing_trivial
    rw [e, sm_some]
    refine ⟨some x, ys.take k.toNat ++ [x] ++ ys.drop k.toNat, rfl, ?_, ?_⟩
    · have tk : xs.take (i + 1) = xs.take i ++ [x] := by rw [List.take_succ, hx]; rfl
      rw [tk]
      exact (ins_perm ys k.toNat x).trans (hp.append_right _)
    · have a3 := a2.set L.length (.lst (ys.take k.toNat ++ [x] ++ ys.drop k.toNat))
      rw [List.set_append_right _ _ (Nat.le_refl _)] at a3
      simpa [Nat.add_assoc] using a3
  · subst e
    decreasing_trivial
    rw [List.take_length] at hp
    refine ⟨T + xs.length, [.lst ys], 0, ys, ha, rfl, rfl, cls_mem.mpr fun d hd => cls_mem.mp hc d (hp.mem_iff.mp hd), fun M'' a => q ys M'' hp a⟩
/-! ### word -/
def fbWord : SF := (sRet (eMeth "str" gJoin (eC (.str "")) (aCons (eLc (iArgs wRng1 (aCons (eVar 1) aNil)) (.nm 2) bYes (eBin oIx (eC (.str "abcdefghijklmnopqrstuvwxyz")) (eFun (callT gDraw) (aCons (eVar 0) (aCons (eC (.int 26)) aNil)))) [2]) aNil)))
def gWord : List D → Ev D := fun ds M => bodyO (fbWord (startD ["source", "size", "k"] ds) M)
def abcS : Str := "abcdefghijklmnopqrstuvwxyz"
def isLetter (c : Nat) : Bool := decide (97 ≤ c) && decide (c ≤ 122)
/-- a word of n letters -/
def IsWord (n : Nat) (x : Str) : Prop := x.cps.size = n ∧ ∀ c ∈ x.cps.toList, isLetter c = true
theorem abc_at {k : Int} (h0 : 0 ≤ k) (h1 : k < 26) (M : Sto) : ∃ c, oIx (.str abcS) (.int k) M = some (.str ⟨#[c]⟩) ∧ isLetter c = true := by
  have hl : abcS.cps.toList.length = 26 := by decide
  obtain ⟨c, e, hm, _⟩ := atI_at (xs := abcS.cps.toList) h0 (by rw [hl]; exact h1)
  refine ⟨c, ?_, ?_⟩
  · show (if abcS.length ≤ sizeLine then (atI abcS.cps.toList k).map fun c => D.str ⟨#[c]⟩ else none) = _
    rw [if_pos (by decide), e]; rfl
  · have : ∀ c ∈ abcS.cps.toList, isLetter c = true := by decide
    exact this c hm
/-- one letter each -/
def Letters (ys : List D) : Prop := ∀ d ∈ ys, ∃ c, d = .str ⟨#[c]⟩ ∧ isLetter c = true
theorem letters_strs : ∀ {ys : List D}, Letters ys → ∃ cs : List Nat, strsD ys = some (cs.map fun c => ⟨#[c]⟩) ∧ cs.length = ys.length ∧ ∀ c ∈ cs, isLetter c = true
  | [], _ => ⟨[], rfl, rfl, by simp⟩
  | d :: r, h => by
    obtain ⟨c, rfl, hc⟩ := h d (List.mem_cons_self ..)
    obtain ⟨cs, e, hl, ha⟩ := letters_strs (ys := r) fun x hx => h x (List.mem_cons_of_mem _ hx)
    refine ⟨c :: cs, ?_, by simp [hl], fun x hx => ?_⟩
    · unfold strsD; rw [e]; rfl
    · rcases List.mem_cons.mp hx with z | z
      · subst z; exact hc
      · exact ha x z
theorem join_letters (cs : List Nat) : Txt.join "" (cs.map fun c => ⟨#[c]⟩) = ⟨cs.toArray⟩ := by
  have e := SX.join_S [] (cs.map fun c => [c])
  have e2 : (cs.map fun c => [c]).map SX.S = cs.map fun c => (⟨#[c]⟩ : Str) := by rw [List.map_map]; rfl
  rw [e2] at e
  have e3 : SX.S [] = ("" : Str) := rfl
  rw [e3] at e
  rw [e]
  have : ∀ l : List Nat, TL.joinL [] (l.map fun c => [c]) = l := by
    intro l
    induction l with
    | nil => rfl
    | cons a r ih =>
      cases r with
      | nil => rfl
      | cons b r => 
        show [a] ++ ([] ++ TL.joinL [] ((b :: r).map fun c => [c])) = _
        rw [ih]; rfl
  rw [this]
theorem sum_ones : ∀ cs : List Nat, ((cs.map fun c => (⟨#[c]⟩ : Str)).map (·.length)).sum = cs.length
  | [] => rfl
  | c :: r => by
    rw [List.map_cons, List.map_cons, List.sum_cons, sum_ones r]
    show 1 + r.length = _
    rw [List.length_cons]; omega
/-- THE RULE for _law_word -/
theorem w_word {p T n : Nat} {L M : Sto} {Q : D → Sto → Prop} {X : XP} (hM : At p T L M) (hL : Pl L) (hT : T + n < 1000000000) (hn : n < 1000000) (q : ∀ x M', IsWord n x → At p (T + n) L M' → Q (.str x) M') : Wp (callT gWord [.ref (p + 1), .int n] M) Q X := by
  refine call_src hM hL ?_
  unfold gWord
  rw [w_body]
  unfold fbWord
  decreasing_trivial
  have sz : sizeLine = 16777216 := sizeLine_eq
  refine ⟨rfl, ?_⟩
  refine w_lc (fun _ i ys Ma => ys.length = i ∧ Letters ys ∧ At p (T + i) L Ma) (wi_rng1 ?_)
  decreasing_trivial
  refine ⟨(n : Int), rfl, by omega, by omega, ⟨fun d hd => (nomatch hd), hM⟩, fun i x ys Ma hx ⟨hl, hy, ha⟩ le => ?_, fun ys Me le ⟨hl, hy, ha⟩ => ?_⟩
  · have ilt : i < n := by
      rcases Nat.lt_or_ge i (rngD 0 (n : Int).toNat).length with z | z
      · rwa [rngD_length, Int.toNat_natCast] at z
      · rw [List.getElem?_eq_none z] at hx; cases hx
    have cy : clM 0 (.lst ys) = true := cls_mem.mpr fun d hd => by
      obtain ⟨c, rfl, _⟩ := hy d hd; rfl
    decreasing_trivial
    refine w_draw (ha.push _) (hL.snoc cy) (by omega) (by omega) (by omega) fun k M2 k0 k1 a2 => ?_
    obtain ⟨c, ec, hc⟩ := abc_at k0 k1 M2
    have ec' : oIx (.str "abcdefghijklmnopqrstuvwxyz") (.int k) M2 = _ := ec
    rw [ec', sm_some]
    obtain ⟨Mc, rfl, a3⟩ := a2.snoc
    refine ⟨Mc, rfl, by rw [a3.length, hM.length], by omega, by simp [hl], fun d hd => ?_, by simpa [Nat.add_assoc] using a3⟩
    rcases List.mem_append.mp hd with z | z
    · exact hy d z
    · rw [List.mem_singleton] at z; exact ⟨c, z, hc⟩
  · rw [rngD_length, Int.toNat_natCast] at hl ha
    refine ⟨ha.ok hL, cls_mem.mpr fun d hd => by
      obtain ⟨c, rfl, _⟩ := hy d hd; rfl, ?_⟩
    obtain ⟨cs, e, hcl, hcs⟩ := letters_strs hy
    have ej : gJoin (.str "") [.lst ys] Me = some (.str ⟨cs.toArray⟩, Me) := by
      show (match ((sqD Me (.lst ys)).bind strsD : Option (List Str)) with
        | some ys => if (ys.map (fun z : Str => z.length)).sum + ys.length * ("" : Str).length ≤ 16777216 then some (D.str (Txt.join "" ys), Me) else none
        | none => none) = _
      have : (sqD Me (.lst ys)).bind strsD = some (cs.map fun c => ⟨#[c]⟩) := e
      rw [this]
      simp only
      rw [if_pos ?_, join_letters]
      rw [sum_ones]
      show cs.length + _ * 0 ≤ _
      omega
    rw [ej, sm_some]
    exact ⟨T + n, [], by rw [List.append_nil]; exact ha, rfl, fun M'' a => q _ M'' ⟨by show cs.toArray.size = n; simp; omega, fun c hc => hcs c (by simpa using hc)⟩ a⟩
end L2.MK

end

section
set_option Elab.async false
set_option linter.all false
set_option maxRecDepth 100000
set_option maxHeartbeats 2000000
set_option autoImplicit false
set_option exponentiation.threshold 2000
/-! _law_source. -/
namespace L2.MK
local macro_rules
  | `(tactic| decreasing_trivial) => `(tactic| try simp only [w_bind, w_pure, w_pure', w_opt, w_var, w_C, w_bin, w_un, w_call, w_fun, w_nil, w_cons, w_tup, w_lst, w_lstM, w_dctM, w_isBl, w_bTru, w_bOf, w_and, w_or, w_not, wb_and, wb_or, wb_not, wb_yes, w_if, w_chain, w_cut, w_cutM, w_sNo, w_isI, w_sAt, w_meth, w_setd,
  ws_skip, ws_seq, ws_exp, ws_ret, ws_retN, ws_if, ws_asg, ws_gN, ws_gNils, ws_gConss, ws_gTup, ws_gSub, ws_raise, ws_try, ws_noRet, sm_some,
  startD, List.map_cons, List.map_nil, List.length_cons, List.length_nil, List.replicate, List.cons_append, List.nil_append, List.getElem?_cons_zero, List.getElem?_cons_succ, List.set_cons_zero, List.set_cons_succ, Option.join_some, Option.join_none, Nat.reduceAdd, Nat.reduceSub, Nat.add_zero, Nat.zero_add,
  sqD_lst, sqD_tup, sqD_rol, gLen_lst, gLen_tup, gInt_int, gInt_bl, gAbs_int, oAdd_int, oSub_int, oLt_int, oLe_int, oGt_int, oGe_int, oIx_lst, oIx_tup, oEq_int, oNe_int, true_and, and_true, true_implies, seqF_lst, seqF_tup, seqF_str, sqF_lst, sqF_tup, truD_bl, isStr, isTupB, isLst, ↓reduceIte, Bool.false_eq_true, Bool.not_true, Bool.not_false, setPt_nm, setPt_tp, setPts_nil, setPts_cons, wipeD_nil, wipeD_cons])
open PySem PySem.Spec PyProof.Rows PySem.W
def fbSource : SF :=
    (sSeq (sAsg (eCutM (eVar 0) sNo (sAt (eC (.int 63)))) (gN 1))
    (sSeq (sFor (iArgs wRng1 (aCons (eCall gLen (aCons (eVar 1) aNil)) aNil)) (gN 2) (sIf (bOf (eBin oGe (eCall gAbs (aCons (eBin oIx (eVar 1) (eVar 2)) aNil)) (eBin oPow (eC (.int 10)) (eC (.int 18))))) (sAsg (eBin oMod (eCall gInt (aCons (eBin oIx (eVar 1) (eVar 2)) aNil)) (eBin oPow (eBin oPow (eC (.int 10)) (eC (.int 60))) (eC (.int 20)))) (gSubD (eVar 1) (eVar 2))) sSkip))
    (sSeq (sIf (bOf (eBin oEq (eVar 1) (eLst aNil))) (sAsg (eLstM (aCons (eC (.int 0)) aNil)) (gN 1)) sSkip)
    (sRet (eLstM (aCons (eVar 1) (aCons (eC (.int 0)) aNil)))))))
def gSource : List D → Ev D := fun ds M => bodyO (fbSource (startD ["script", "cells", "k"] ds) M)
theorem pow60 (M : Sto) : ∃ x, oPow (.int 10) (.int 60) M = some (.int x) ∧ ∃ y, 0 < y ∧ oPow (.int x) (.int 20) M = some (.int y) := by
  refine ⟨10 ^ 60, ?_, (10 ^ 60) ^ 20, by decide +kernel, ?_⟩
  · unfold oPow
    show (if _ then _ else _) = _
    rw [if_pos (by decide +kernel)]; rfl
  · unfold oPow
    show (if _ then _ else _) = _
    rw [if_pos (by decide +kernel)]; rfl
theorem oIx_ref {M : Sto} {j : Nat} {xs : List D} (h : M[j]? = some (.lst xs)) (i : Int) : oIx (.ref j) (.int i) M = atI xs i := by
  unfold oIx vw; simp only [h]
theorem stI_ref {M : Sto} {j : Nat} {xs : List D} (h : M[j]? = some (.lst xs)) {i : Int} (v : D) (h0 : 0 ≤ i) (h1 : i < xs.length) : stI (.ref j) (.int i) v M = some (M.set j (.lst (xs.set i.toNat v))) := by
  unfold stI; simp only [h]
  rw [ixN_at h0 h1]; rfl
/-- whole numbers -/
def Ints (cs : List D) : Prop := ∀ d ∈ cs, ∃ i : Int, d = .int i
theorem pys_ints : ∀ {cs : List D}, Ints cs → ∃ ps, D.pys cs = some ps ∧ PyData.plainAll ps = true ∧ ps.isEmpty = cs.isEmpty
  | [], _ => ⟨[], by unfold D.pys; rfl, rfl, rfl⟩
  | d :: r, h => by
    obtain ⟨i, rfl⟩ := h d (List.mem_cons_self ..)
    obtain ⟨ps, e, a, b⟩ := pys_ints (cs := r) fun x hx => h x (List.mem_cons_of_mem _ hx)
    exact ⟨.int i :: ps, by unfold D.pys; rw [e]; rfl, by unfold PyData.plainAll; rw [a]; rfl, rfl⟩
theorem eq_nil_ref {M : Sto} {j : Nat} {xs : List D} (h : M[j]? = some (.lst xs)) (hi : Ints xs) : oEq (.ref j) (.lst []) M = some (.bl xs.isEmpty) := by
  obtain ⟨ps, e, a, b⟩ := pys_ints hi
  have e1 : (vw M (.ref j)).py = some (.list ps) := by
    unfold vw
    simp only [h]
    unfold D.py; rw [e]; rfl
  have e2 : (vw M (.lst [])).py = some (.list []) := by
    show (D.lst []).py = _
    unfold D.py D.pys; rfl
  unfold oEq eqD
  rw [e1, e2]
  simp only
  rw [if_pos ⟨a, rfl, Nat.le_trans (Nat.min_le_right _ _) (by decide)⟩, ← b]
  cases ps <;> rfl
theorem cut63 (xs : List D) : (cutD xs none (some 63)).length ≤ 63 := by
  unfold cutD
  rw [List.length_take]
  have : HT.sIx xs.length xs.length (some 63) ≤ 63 := by
    show (if (63 : Int) < 0 then ((63 : Int) + (xs.length : Int)).toNat else min (63 : Int).toNat xs.length) ≤ 63
    rw [if_neg (by decide)]
    exact Nat.min_le_left _ _
  omega
theorem cut_mem {xs : List D} {a b : Option Int} {d : D} (h : d ∈ cutD xs a b) : d ∈ xs := List.mem_of_mem_drop (List.mem_of_mem_take h)
/-- THE RULE for _law_source -/
theorem w_source {ns : List Int} {Q : D → Sto → Prop} {X : XP} (q : ∀ p M', At p 0 [] M' → Q (.ref (p + 1)) M') : Wp (callK gSource [.rol (ns.map .int)] []) Q X := by
  refine Wp.any (o := callK gSource [.rol (ns.map .int)] []) (Q := Q) ?_ fun _ _ h => h
  unfold callK gSource
  rw [w_body]
  unfold fbSource
  decreasing_trivial
  have e1 : ∀ M : Sto, rvw M (.rol (ns.map .int)) = some (ns.map .int) := fun M => rfl
  rw [e1, sm_some]
  have hI : Ints (cutD (ns.map D.int) none (some 63)) := fun d hd => by
    obtain ⟨i, _, rfl⟩ := List.mem_map.mp (cut_mem hd); exact ⟨i, rfl⟩
  have hL := cut63 (ns.map D.int)
  generalize cutD (ns.map D.int) none (some 63) = cs at hI hL
  refine ws_for (fun _ i δ M => ∃ (cs' : List D) (u : Option D), δ = [some (.rol (ns.map .int)), some (.ref 0), u] ∧ M = [.lst cs'] ∧ Ints cs' ∧ cs'.length = cs.length) ?_
  refine wi_rng1 ?_
  decreasing_trivial
  have e2 : gLen [.ref 0] [.lst cs] = some (.int cs.length) := gLen_ref rfl
  rw [e2]
  decreasing_trivial
  refine ⟨(cs.length : Int), rfl, by omega, by omega, ⟨cs, none, rfl, rfl, hI, rfl⟩, fun i x δ M hx ⟨cs', u, ed, eM, hi, hl⟩ => ?_, fun δ M ⟨cs', u, ed, eM, hi, hl⟩ => ?_⟩
  · subst ed eM
    rw [rngD_at] at hx
    have ilt : i < cs.length := by
      split at hx
      · rename_i h; simpa using h
      · cases hx
    rw [if_pos (by simpa using ilt)] at hx
    cases hx
    obtain ⟨c, ec, hcm, _⟩ := atI_at (xs := cs') (i := 0 + (i : Int)) (by omega) (by omega)
    obtain ⟨c, rfl⟩ := hi c hcm
    have e3 : oIx (.ref 0) (.int (0 + (i : Int))) [.lst cs'] = some (.int c) := (oIx_ref rfl _).trans ec
    decreasing_trivial
    rw [e3]
    decreasing_trivial
    rw [pow18]
    decreasing_trivial
    generalize (if c < 0 then -c else c) = b
    split
    · obtain ⟨x, ex, y, hy, ey⟩ := pow60 [.lst cs']
      rw [ex]
      decreasing_trivial
      rw [ey]
      decreasing_trivial
      rw [e3]
      decreasing_trivial
      rw [oMod_int hy]
      decreasing_trivial
      have e4 : stI (.ref 0) (.int (0 + (i : Int))) (.int (c % y)) [.lst cs'] = some _ := stI_ref rfl _ (by omega) (by omega)
      rw [e4, sm_some]
      refine ⟨_, some (.int (0 + (i : Int))), rfl, rfl, fun d hd => ?_, by rw [List.length_set]; exact hl⟩
      rcases List.mem_or_eq_of_mem_set hd with z | z
      · exact hi d z
      · exact ⟨_, z⟩
    · exact ⟨cs', some (.int (0 + (i : Int))), rfl, rfl, hi, hl⟩
  · subst ed eM
    decreasing_trivial
    have e5 : oEq (.ref 0) (.lst []) [.lst cs'] = some (.bl cs'.isEmpty) := eq_nil_ref rfl hi
    refine ⟨by decide, ?_⟩
    rw [e5]
    decreasing_trivial
    have z : sizeLine = 16777216 := sizeLine_eq
    cases cs' with
    | nil =>
      simp only [List.isEmpty_nil, ↓reduceIte]
      refine ⟨by omega, by omega, ?_⟩
      exact q 1 _ ⟨[.int 0], 0, rfl, ⟨by simp, by simp, fun d hd => ⟨0, by simpa using hd⟩⟩, by omega, by omega⟩
    | cons a r =>
      simp only [List.isEmpty_cons, ↓reduceIte, Bool.false_eq_true]
      refine ⟨by omega, ?_⟩
      exact q 0 _ ⟨a :: r, 0, rfl, ⟨by simp, by omega, hi⟩, by omega, by omega⟩
end L2.MK

end

section
set_option Elab.async false
set_option linter.all false
set_option maxRecDepth 100000
set_option maxHeartbeats 2000000
set_option autoImplicit false
set_option exponentiation.threshold 2000
/-! sorted({s for p in fi for q in fi1}), searches. -/
namespace L2.MK
open PySem PySem.Spec PyProof.Rows PySem.W
section
variable {fi fi1 : IF} {p p1 : Pt} {bt bt1 : BF} {f : EF} {vs vs1 : List Nat} {δ : Env} {M : Sto} {Q : D → Sto → Prop} {X : XP}
theorem sc1_all {it : ID} {δw : Env} {ss : List Str} (hit : ∀ M i, it M i = some ((ss.map D.str)[i]?)) {M : Sto}
    (h : ∀ s ∈ ss, Sm (setPt M p1 (.str s) δw) fun δ1 => Wp (bt1 δ1 M) (fun k M' => k = true ∧ M' = M) X0 ∧ Wp (f δ1 M) (fun y M' => y = .str s ∧ M' = M) X0) :
    ∀ r i acc, i + r = ss.length → acc.length + r < 1000 → sc1O it p1 bt1 f δw r i acc M = .ok (acc ++ ss.drop i) M
  | 0, i, acc, e, _ => by
    unfold sc1O
    rw [hit, List.getElem?_eq_none (by simp; omega), List.drop_eq_nil_of_le (by omega), List.append_nil]
  | r + 1, i, acc, e, hl => by with_unfolding_all
    unfold sc1O
    have hi : i < ss.length := by omega
    have e0 : (ss.map D.str)[i]? = some (.str ss[i]) := by rw [List.getElem?_map, List.getElem?_eq_getElem hi]; rfl
    rw [hit, e0]
    obtain ⟨δ1, e1, h1, h2⟩ := (h ss[i] (List.getElem_mem hi)).get
    simp only [e1]
    cases e2 : bt1 δ1 M with
    | stuck => rw [e2] at h1; exact h1.elim
    | exc C fs M' => rw [e2] at h1; exact h1.elim
    | ok k M2 =>
      rw [e2] at h1
      replace h1 := wp_ok.mp h1; obtain ⟨rfl, rfl⟩ := h1
      simp only
      cases e3 : f δ1 M2 with
      | stuck => rw [e3] at h2; exact h2.elim
      | exc C fs M' => rw [e3] at h2; exact h2.elim
      | ok y M3 =>
        rw [e3] at h2
        replace h2 := wp_ok.mp h2; obtain ⟨rfl, rfl⟩ := h2
        simp only
        rw [if_pos (by omega), sc1_all hit h r (i + 1) (acc ++ [ss[i]]) (by omega) (by simp; omega), List.append_assoc, List.drop_eq_getElem_cons hi]
        rfl
theorem sc_all {it : ID} {δw : Env} {xs : List D} {F : D → List Str} (hit : ∀ M i, it M i = some (xs[i]?)) {M : Sto}
    (h : ∀ x ∈ xs, Sm (setPt M p x δw) fun δ1 => Wp (bt δ1 M) (fun k M' => k = true ∧ M' = M) X0 ∧ Wi (fi1 δ1 M) (fun ys M' => M' = M ∧ ys = (F x).map .str) X0 ∧
      ∀ s ∈ F x, Sm (setPt M p1 (.str s) (wipeD δ1 vs1)) fun δ2 => Wp (bt1 δ2 M) (fun k M' => k = true ∧ M' = M) X0 ∧ Wp (f δ2 M) (fun y M' => y = .str s ∧ M' = M) X0) :
    ∀ r i acc, i + r = xs.length → acc.length + ((xs.drop i).flatMap F).length < 1000 → scO it p bt fi1 p1 bt1 f δw vs1 r i acc M = .ok (acc ++ (xs.drop i).flatMap F) M
  | 0, i, acc, e, _ => by
    unfold scO
    rw [hit, List.getElem?_eq_none (by omega), List.drop_eq_nil_of_le (by omega)]
    simp
  | r + 1, i, acc, e, hl => by with_unfolding_all
    unfold scO
    have hi : i < xs.length := by omega
    rw [hit, List.getElem?_eq_getElem hi]
    obtain ⟨δ1, e1, h1, h2, h3⟩ := (h xs[i] (List.getElem_mem hi)).get
    have ed : xs.drop i = xs[i] :: xs.drop (i + 1) := List.drop_eq_getElem_cons hi
    rw [ed, List.flatMap_cons, List.length_append] at hl
    simp only [e1]
    cases e2 : bt δ1 M with
    | stuck => rw [e2] at h1; exact h1.elim
    | exc C fs M' => rw [e2] at h1; exact h1.elim
    | ok k M2 =>
      rw [e2] at h1
      replace h1 := wp_ok.mp h1; obtain ⟨rfl, rfl⟩ := h1
      simp only
      cases e3 : fi1 δ1 M2 with
      | stuck => rw [e3] at h2; exact h2.elim
      | exc C fs M' => rw [e3] at h2; exact h2.elim
      | ok q M3 =>
        rw [e3] at h2
        replace h2 := wp_ok.mp h2; obtain ⟨ys, l, hit1, rfl, rfl⟩ := h2
        simp only
        rw [List.length_map] at l
        rw [sc1_all hit1 h3 q.1 0 acc (by omega) (by omega)]
        simp only [List.drop_zero]
        rw [sc_all hit h r (i + 1) (acc ++ F xs[i]) (by omega) (by rw [List.length_append]; omega), ed, List.flatMap_cons, List.append_assoc]
/-- THE RULE for sorted({s for p in fi for q in fi1}), texts, the store stays -/
theorem w_sortSc (xs : List D) (F : D → List Str) (hM : Ok M) (hl : (xs.flatMap F).length < 1000) (hi : Wi (fi δ M) (fun ys M1 => ys = xs ∧ M1 = M) X0)
    (h : ∀ x ∈ xs, ∀ M2 : Sto, Sm (setPt M2 p x (wipeD δ vs)) fun δ1 => Wp (bt δ1 M2) (fun k M' => k = true ∧ M' = M2) X0 ∧ Wi (fi1 δ1 M2) (fun ys M' => M' = M2 ∧ ys = (F x).map .str) X0 ∧
      ∀ s ∈ F x, Sm (setPt M2 p1 (.str s) (wipeD δ1 vs1)) fun δ2 => Wp (bt1 δ2 M2) (fun k M' => k = true ∧ M' = M2) X0 ∧ Wp (f δ2 M2) (fun y M' => y = .str s ∧ M' = M2) X0)
    (hQ : Q (.lst ((sortU (xs.flatMap F)).map .str)) M) : Wp (eSortSc fi p bt fi1 p1 bt1 f vs vs1 δ M) Q X := by with_unfolding_all
  unfold eSortSc
  cases e : fi δ M with
  | stuck => rw [e] at hi; exact hi.elim
  | exc C fs M' => rw [e] at hi; exact hi.elim
  | ok q M1 =>
    rw [e] at hi
    replace hi := wp_ok.mp hi; obtain ⟨ys, l, hit, rfl, rfl⟩ := hi
    have := sc_all (bt := bt) (bt1 := bt1) (p := p) (p1 := p1) (fi1 := fi1) (f := f) (vs1 := vs1) (δw := wipeD δ vs) hit (M := M1 ++ [.opq]) (fun x hx => h x hx _) q.1 0 [] (by omega) (by simpa using hl)
    simp only [this, List.drop_zero, List.nil_append]
    rw [if_pos hl, w_trim]
    refine trim_same hM ?_ hQ
    exact cls_mem.mpr fun d hd => by
      obtain ⟨s, _, rfl⟩ := List.mem_map.mp hd; rfl
end
theorem mem_sortU {a : Str} {xs : List Str} : a ∈ sortU xs ↔ a ∈ xs := by
  unfold sortU
  rw [(List.mergeSort_perm _ _).mem_iff, mem_dedupL]
theorem sortU_len (xs : List Str) : (sortU xs).length ≤ xs.length := by
  unfold sortU
  rw [(List.mergeSort_perm _ _).length_eq]
  exact length_dedupL xs
theorem nodup_sortU (xs : List Str) : (sortU xs).Nodup := by
  unfold sortU
  exact (List.mergeSort_perm _ _).nodup_iff.mpr (nodup_dedupL xs)
/-- what is sorted once more -/
theorem sortU_congr {xs ys : List Str} (h : ∀ a, a ∈ xs ↔ a ∈ ys) : sortU xs = sortU ys := by
  have := sortU_of (xs := ys) (ys := dedupL xs) (nodup_dedupL xs) fun a => by rw [mem_dedupL, h]
  exact this
theorem strsD_map : ∀ xs : List Str, strsD (xs.map .str) = some xs
  | [] => rfl
  | x :: r => by rw [List.map_cons, strsD, strsD_map r]; rfl
/-- the first of 0, .., n - 1 -/
def firstK (p : Nat → Bool) (n : Nat) : Option Nat := (List.range n).find? p
theorem firstK_some {p : Nat → Bool} {n i : Nat} (hi : i < n) (h : ∀ j, j < i → p j = false) (hp : p i = true) : firstK p n = some i := by
  unfold firstK
  rw [List.find?_range_eq_some]
  exact ⟨hp, by simpa using hi, fun j hj => by rw [h j hj]; rfl⟩
theorem firstK_none {p : Nat → Bool} {n : Nat} (h : ∀ j, j < n → p j = false) : firstK p n = none := by
  unfold firstK
  rw [List.find?_eq_none]
  intro j hj
  rw [h j (List.mem_range.mp hj)]
  simp
theorem enum_get {xs : List D} {i : Nat} {x : D} (h : (enumD 0 xs)[i]? = some x) : ∃ y, xs[i]? = some y ∧ x = .tup [.int (i : Nat), y] ∧ i < xs.length := by
  rw [enumD_at] at h
  obtain ⟨y, e, h⟩ := Option.map_eq_some_iff.mp h
  refine ⟨y, e, by rw [← h, Nat.zero_add], ?_⟩
  rcases Nat.lt_or_ge i xs.length with z | z
  · exact z
  · rw [List.getElem?_eq_none z] at e; cases e
theorem rng_get {n i : Nat} {x : D} (h : (rngD 0 n)[i]? = some x) : x = .int (i : Nat) ∧ i < n := by
  rw [rngD_at] at h
  split at h
  · cases h
    exact ⟨by rw [Int.zero_add], by assumption⟩
  · cases h
end L2.MK

end

section
set_option Elab.async false
set_option linter.all false
set_option maxRecDepth 100000
set_option maxHeartbeats 2000000
set_option autoImplicit false
set_option exponentiation.threshold 2000
/-! More about what is drawn. -/
namespace L2.MK
local macro_rules
  | `(tactic| decreasing_trivial) => `(tactic| try simp only [w_bind, w_pure, w_pure', w_opt, w_var, w_C, w_bin, w_un, w_call, w_fun, w_nil, w_cons, w_tup, w_lst, w_lstM, w_dctM, w_isBl, w_bTru, w_bOf, w_and, w_or, w_not, wb_and, wb_or, wb_not, wb_yes, w_if, w_chain, w_cut, w_cutM, w_sNo, w_isI, w_sAt, w_meth, w_setd,
  ws_skip, ws_seq, ws_exp, ws_ret, ws_retN, ws_if, ws_asg, ws_gN, ws_gNils, ws_gConss, ws_gTup, ws_gSub, ws_raise, ws_try, ws_noRet, sm_some,
  startD, List.map_cons, List.map_nil, List.length_cons, List.length_nil, List.replicate, List.cons_append, List.nil_append, List.getElem?_cons_zero, List.getElem?_cons_succ, List.set_cons_zero, List.set_cons_succ, Option.join_some, Option.join_none, Nat.reduceAdd, Nat.reduceSub, Nat.add_zero, Nat.zero_add,
  sqD_lst, sqD_tup, sqD_rol, gLen_lst, gLen_tup, gInt_int, gInt_bl, gAbs_int, oAdd_int, oSub_int, oLt_int, oLe_int, oGt_int, oGe_int, oIx_lst, oIx_tup, oEq_int, oNe_int, true_and, and_true, true_implies, seqF_lst, seqF_tup, seqF_str, sqF_lst, sqF_tup, truD_bl, isStr, isTupB, isLst, ↓reduceIte, Bool.false_eq_true, Bool.not_true, Bool.not_false, setPt_nm, setPt_tp, setPts_nil, setPts_cons, wipeD_nil, wipeD_cons])
open PySem PySem.Spec PyProof.Rows PySem.W
section
variable {p T : Nat} {L M : Sto} {Q : D → Sto → Prop} {X : XP} {δ : Env}
/-- _law_pick of a list of the store -/
theorem w_pickR {i : Nat} {xs : List D} (hM : At p T L M) (hL : Pl L) (hT : T < 1000000000) (hi : L[i]? = some (.lst xs)) (h0 : xs ≠ []) (h1 : xs.length < 1000000000)
    (q : ∀ x ∈ xs, ∀ M', At p (T + 1) L M' → Q x M') : Wp (callT gPick [.ref (p + 1), .ref (p + 2 + i)] M) Q X := by
  have hl : 0 < xs.length := List.length_pos_iff.mpr h0
  have hc : cls 0 xs = true := hL _ (List.mem_of_getElem? hi)
  refine call_src hM hL ?_
  unfold gPick
  rw [w_body]
  decreasing_trivial
  rw [gLen_ref ((hM.at i).trans hi), sm_some]
  refine w_draw hM hL hT (by omega) (by omega) fun k M' k0 k1 a => ?_
  obtain ⟨x, ex, hx, _⟩ := atI_at (xs := xs) k0 k1
  have e : oIx (.ref (p + 2 + i)) (.int k) M' = atI xs k := by
    unfold oIx vw
    simp only [(a.at i).trans hi]
  rw [e, ex, sm_some]
  exact ⟨T + 1, [], by rw [List.append_nil]; exact a, cls_mem.mp hc x hx, fun M'' a2 => q x hx M'' a2⟩
/-- [_law_pick(source, v) for _ in range(n)] -/
theorem w_lcPick {a b j n : Nat} {fN : EF} {v : D} {xs : List D} (hM : At p T L M) (hL : Pl L) (hT : T + n < 1000000000) (hn : n < 1000000) (h0 : xs ≠ [] ∨ n = 0) (h1 : xs.length < 1000000) (hc : cls 0 xs = true)
    (hN : Wp (fN δ M) (fun d M1 => d = .int (n : Nat) ∧ M1 = M) X0) (hA : ∀ x, (((wipeD δ [j]).set j (some x))[a]?).join = some (.ref (p + 1))) (hB : ∀ x, (((wipeD δ [j]).set j (some x))[b]?).join = some v) (hv : v = .lst xs ∨ v = .tup xs)
    (q : ∀ ys M', ys.length = n → (∀ y ∈ ys, y ∈ xs) → At p (T + n) L M' → Q (.lst ys) M') :
    Wp (eLc (iArgs wRng1 (aCons fN aNil)) (.nm j) bYes (eFun (callT gPick) (aCons (eVar a) (aCons (eVar b) aNil))) [j] δ M) Q X := by
  have sz : sizeLine = 16777216 := sizeLine_eq
  refine w_lc (fun _ i ys Ma => ys.length = i ∧ (∀ y ∈ ys, y ∈ xs) ∧ At p (T + i) L Ma) (wi_rng1 ?_)
  rw [w_cons]
  refine Wp.any hN fun d M1 ⟨e1, e2⟩ => ?_
  subst e1 e2
  rw [w_nil]
  refine ⟨(n : Int), rfl, by omega, by omega, rfl, ⟨rfl, fun y h => (nomatch h), hM⟩, fun i x ys Ma hx ⟨hl, hy, ha⟩ le => ?_, fun ys Me le ⟨hl, hy, ha⟩ => ?_⟩
  · rw [Int.toNat_natCast] at hx
    obtain ⟨rfl, hi⟩ := rng_get hx
    have cy : clM 0 (.lst ys) = true := cls_mem.mpr fun d hd => cls_mem.mp hc d (hy d hd)
    rw [setPt_nm, sm_some]
    simp only [wb_yes, ↓reduceIte, w_fun, w_cons, w_var, hA, hB, sm_some, w_nil]
    refine w_pick (ha.push _) (hL.snoc cy) (by omega) hv (by rcases h0 with z | z; exact z; omega) (by omega) hc fun y hyx M2 a2 => ?_
    obtain ⟨Mc, rfl, a3⟩ := a2.snoc
    refine ⟨Mc, rfl, by rw [a3.length, hM.length], by omega, by simp [hl], fun d hd => ?_, by simpa [Nat.add_assoc] using a3⟩
    rcases List.mem_append.mp hd with z | z
    · exact hy d z
    · rw [List.mem_singleton] at z; subst z; exact hyx
  · rw [rngD_length, Int.toNat_natCast] at hl ha
    exact ⟨ha.ok hL, cls_mem.mpr fun d hd => cl_mono (Nat.zero_le _) (cls_mem.mp hc d (hy d hd)), q ys Me hl hy ha⟩
end
end L2.MK

end

section
set_option Elab.async false
set_option linter.all false
set_option maxRecDepth 100000
set_option maxHeartbeats 2000000
set_option autoImplicit false
set_option exponentiation.threshold 2000
/-! What plain laws share. -/
namespace L2.MK
open PySem PySem.Spec PyProof.Rows PySem.W He
section
variable {K : Frag} {M : Sto} {Q : D → Sto → Prop} {X : XP} {p T : Nat} {L : Sto} {δ : Env} {N : Env → Sto → Prop} {R : D → Sto → Prop} {XX : XS}
def inAbc (c : Nat) : Bool := !(Builtin.Str.occurrences abcS ⟨#[c]⟩ 0 abcS.length 1).isEmpty
def wordB : D → Bool
  | .str z => decide (1 ≤ z.cps.size) && (decide (z.cps.size ≤ 8) && z.cps.toList.all inAbc)
  | _ => false
theorem inAbc_ok (c : Nat) : oIn (.str ⟨#[c]⟩) (.str abcS) M = some (.bl (inAbc c)) := rfl
theorem notAbc_ok (c : Nat) : oNotIn (.str ⟨#[c]⟩) (.str abcS) M = some (.bl (!inAbc c)) := rfl
theorem gLen_str {z : Str} (h : z.cps.size ≤ 2 ^ 20) : gLen [.str z] M = some (.int z.cps.size) := if_pos (Nat.le_trans h (by rw [sizeLine_eq]; decide))
theorem pys_bls (bs : List Bool) : D.pys (bs.map .bl) = some (bs.map .bool) := by
  induction bs with
  | nil => unfold D.pys; rfl
  | cons b r ih => rw [List.map_cons, D.pys, ih]; rfl
theorem blsP_bls (bs : List Bool) : blsP (bs.map .bool) = some bs := by
  induction bs with
  | nil => rfl
  | cons b r ih => rw [List.map_cons, blsP, ih]; rfl
theorem gAll_bls (bs : List Bool) : gAll [.lst (bs.map .bl)] M = some (.bl (bs.all id)) := by
  show ((pysOf M (.lst (bs.map .bl))).bind blsP).map (fun bs => D.bl (bs.all id)) = _
  have : pysOf M (.lst (bs.map .bl)) = some (bs.map .bool) := pys_bls bs
  rw [this, Option.bind_some, blsP_bls]; rfl
/-- a def that leaves the store and gives data r -/
theorem call_is {g : List D → Ev D} {ds : List D} {r : D} (hM : Ok M) (hr : cl 0 r = true) (h : Wp (g ds M) (fun d M' => d = r ∧ ∃ L2, M' = M ++ L2) X0) (q : Q r M) : Wp (callT g ds M) Q X := by
  refine call_pure hM (h.mono fun d M' ⟨e, L2, e2⟩ => ⟨L2, e2, ?_, ?_⟩)
  · subst e; exact cl_mono (Nat.zero_le _) hr
  · subst e; exact q
theorem mem_chars {z : Str} {x : D} (h : x ∈ charsD z) : ∃ c, x = .str ⟨#[c]⟩ ∧ c ∈ z.cps.toList := by
  obtain ⟨c, hc, rfl⟩ := List.mem_map.mp h
  exact ⟨c, rfl, hc⟩
theorem filter_yes {α : Type} (xs : List α) : xs.filter (fun _ => true) = xs := List.filter_eq_self.mpr fun _ _ => rfl
/-- the sign of a text of one -/
def chr : D → Nat
  | .str z => z.cps.toList.headD 0
  | _ => 0
theorem dBks_mem {x : D} : ∀ {xs : List D}, x ∈ xs → dBk x ≤ dBks xs
  | d :: r, h => by
    unfold dBks
    rcases List.mem_cons.mp h with z | z
    · subst z; omega
    · have := dBks_mem z
      omega
theorem dBks_len : ∀ xs : List D, xs.length ≤ dBks xs
  | [] => Nat.le_refl _
  | d :: r => by
    have := dBks_len r
    simp only [dBks, List.length_cons]
    omega
theorem dDeps_mem {x : D} {xs : List D} (h : x ∈ xs) : dDep x ≤ dDeps xs := dDeps_le.mp (Nat.le_refl _) x h
theorem atI0 {α : Type} (x : α) (r : List α) : atI (x :: r) 0 = some x := atI_nat (i := 0) rfl
theorem atI1 {α : Type} (x y : α) (r : List α) : atI (x :: y :: r) 1 = some y := atI_nat (i := 1) rfl
theorem oEq_nil {xs : List D} (h : dOks xs = true) (hd : dDeps xs ≤ 59) : oEq (.lst xs) (.lst []) M = some (.bl xs.isEmpty) := by
  unfold oEq
  rw [eqD_ok (show dOk (.lst xs) = true from h) rfl (show dDeps xs + 1 ≤ 60 by omega), eqv_nil h]; rfl
theorem oNe_nil {xs : List D} (h : dOks xs = true) (hd : dDeps xs ≤ 59) : oNe (.lst xs) (.lst []) M = some (.bl (!xs.isEmpty)) := by
  unfold oNe
  rw [eqD_ok (show dOk (.lst xs) = true from h) rfl (show dDeps xs + 1 ≤ 60 by omega), eqv_nil h]; rfl
theorem isEmpty_filter {α : Type} (p : α → Bool) : ∀ xs : List α, (xs.filter fun x => !p x).isEmpty = xs.all p
  | [] => rfl
  | x :: r => by
    rw [List.filter_cons, List.all_cons, ← isEmpty_filter p r]
    cases p x <;> rfl
theorem sub_ok {xs ys : List D} (h : dOks xs = true) (s : ∀ d ∈ ys, d ∈ xs) : dOks ys = true := dOks_mem.mpr fun d hd => dOks_mem.mp h d (s d hd)
theorem sub_dep {xs ys : List D} (s : ∀ d ∈ ys, d ∈ xs) : dDeps ys ≤ dDeps xs := dDeps_le.mpr fun d hd => dDeps_mem (s d hd)
theorem sz : sizeLine = 16777216 := sizeLine_eq
theorem wordB_str {z : Str} : wordB (.str z) = (decide (1 ≤ z.cps.size) && (decide (z.cps.size ≤ 8) && z.cps.toList.all inAbc)) := rfl
theorem pre_chars (z : Str) (hz : z.cps.size ≤ 8) : (charsD z).length ≤ sizeLine := by
  unfold charsD
  rw [List.length_map, Array.length_toList, sz]; omega
def strOf : D → Str
  | .str z => z
  | _ => ""
def atD (xs : List D) (k : Nat) : D := xs.getD k .non
/-- a list or a tuple -/
def Sq (v : D) (xs : List D) : Prop := v = .lst xs ∨ v = .tup xs
theorem Sq.len {v : D} {xs : List D} (h : Sq v xs) : gLen [v] M = some (.int xs.length) := by rcases h with rfl | rfl <;> rfl
theorem Sq.f {v : D} {xs : List D} (h : Sq v xs) : sqF v = some xs := by rcases h with rfl | rfl <;> rfl
theorem Sq.seq {v : D} {xs : List D} (h : Sq v xs) : seqF v = some xs := by rcases h with rfl | rfl <;> rfl
theorem Sq.ix {v : D} {xs : List D} (h : Sq v xs) (i : Int) : oIx v (.int i) M = atI xs i := by rcases h with rfl | rfl <;> rfl
theorem Sq.is {v : D} {xs : List D} (h : Sq v xs) : (isLst v || isTupB v) = true := by rcases h with rfl | rfl <;> rfl
theorem Sq.ok {v : D} {xs : List D} (h : Sq v xs) (hd : dOk v = true) : dOks xs = true := by rcases h with rfl | rfl <;> exact hd
theorem Sq.bk {v : D} {xs : List D} (h : Sq v xs) : dBk v = dBks xs := by rcases h with rfl | rfl <;> rfl
theorem gIsi_lt {Ci Ce : List Str} {d : D} (h : dOk d = true) : gIsi K Ci Ce [d, .tup [.ty "list", .ty "tuple"]] M = some (.bl (isLst d || isTupB d)) := by
  cases d <;> first | rfl | (unfold dOk at h; cases h)
theorem sq_or {d : D} (h : (isLst d || isTupB d) = true) : ∃ xs, Sq d xs := by
  cases d with
  | lst xs => exact ⟨xs, .inl rfl⟩
  | tup xs => exact ⟨xs, .inr rfl⟩
  | _ => cases h
theorem atD_get {xs : List D} {i : Nat} {x : D} (h : xs[i]? = some x) : atD xs i = x := by
  unfold atD
  rw [List.getD_eq_getElem?_getD, h]; rfl
theorem mem_take {xs : List D} {i : Nat} {y : D} (h : y ∈ xs.take i) : ∃ j, j < i ∧ xs[j]? = some y := by
  obtain ⟨j, hj, e⟩ := List.mem_take_iff_getElem.mp h
  exact ⟨j, by omega, by rw [← e]; exact List.getElem?_eq_getElem _⟩
theorem oNotIn_strs {a : Str} {ys : List Str} (ha : dOk (.str a) = true) (hy : dOks (ys.map .str) = true) : oNotIn (.str a) (.lst (ys.map .str)) M = some (.bl (!ys.contains a)) := by
  unfold oNotIn
  rw [inD_ok ha hy (Nat.zero_le _), List.any_map]
  show some (D.bl (!_)) = _
  congr 3
  induction ys with
  | nil => rfl
  | cons y r ih =>
    have hr : dOks (r.map .str) = true := by
      rw [List.map_cons, dOks, Bool.and_eq_true] at hy; exact hy.2
    rw [List.any_cons, List.contains_cons, ih hr]
    congr 1
    show eqv (.str y) (.str a) = _
    rw [eqv_str]
    by_cases e : y = a
    · subst e; simp
    · have : ¬ a = y := fun z => e z.symm
      simp [e, this]
theorem ok_snoc {M : Sto} {m : MO} (h : Ok M) (hm : clM 0 m = true) : Ok (M ++ [m]) := fun x hx => by
  rcases List.mem_append.mp hx with z | z
  · exact clM_mono (by simp) (h x z)
  · rw [List.mem_singleton] at z; subst z; exact clM_mono (Nat.zero_le _) hm
theorem bk_small {d : D} {xs : List D} (h : d ∈ xs) (hk : dBks xs ≤ 2 ^ 20) : dBk d ≤ 2 ^ 20 := Nat.le_trans (dBks_mem h) hk
theorem sIx_le6 {n i : Nat} (h : i ≤ n) : HT.sIx n n (some (i : Int)) = i := by
  show (if (i : Int) < 0 then ((i : Int) + (n : Int)).toNat else min (i : Int).toNat n) = i
  rw [if_neg (by omega)]
  omega
theorem cut_to {xs : List D} {i : Nat} (h : i ≤ xs.length) : cutD xs none (some (i : Int)) = xs.take i := by
  unfold cutD
  rw [sIx_le6 h]
  show (xs.drop 0).take (i - 0) = _
  simp
theorem Sq.cut {v : D} {xs : List D} (h : Sq v xs) (a b : Option Int) : ∃ w, oCut v a b M = some w ∧ Sq w (cutD xs a b) := by
  rcases h with rfl | rfl
  · exact ⟨_, rfl, .inl rfl⟩
  · exact ⟨_, rfl, .inr rfl⟩
theorem getD_at {xs : List D} {i : Nat} {x : D} (h : xs[i]? = some x) : atI xs (i : Int) = some x := atI_nat h
theorem oEq_str {M : Sto} {a b : Str} (ha : dOk (.str a) = true) (hb : dOk (.str b) = true) : oEq (.str a) (.str b) M = some (.bl (decide (a = b))) := by
  unfold oEq
  rw [eqD_ok ha hb (Nat.zero_le _), eqv_str]; rfl
theorem gList_tup (M : Sto) (xs : List D) : gList [.tup xs] M = some (.lst xs) := rfl
theorem oAdd_lst {M : Sto} {xs ys : List D} (h : xs.length + ys.length ≤ sizeLine) : oAdd (.lst xs) (.lst ys) M = some (.lst (xs ++ ys)) := if_pos h
theorem ws_unset (i : Nat) (o : SO) : Ws (unsetO i o) N R XX ↔ Ws o (fun δ M => N (δ.set i none) M) R (fun _ _ _ _ => False) := by with_unfolding_all
  cases o <;> exact Iff.rfl
theorem w_makeK (C : Str) (g : List D → Ev D) (ds : List D) : Wp (makeK C g ds M) Q X ↔ Wp (g (.ref M.length :: ds) (M ++ [.ins C []])) (fun d M' => d = .non ∧ Q (.ref M.length) M') X := by
  unfold makeK Wp
  cases g (.ref M.length :: ds) (M ++ [.ins C []]) with
  | ok d M' => cases d <;> first | exact ⟨fun h => ⟨rfl, h⟩, fun h => h.2⟩ | exact ⟨fun h => h.elim, fun h => by cases h.1⟩
  | exc C fs M' => exact Iff.rfl
  | stuck => exact Iff.rfl
theorem wp_congr {α : Type} {o : Out α} {Q Q' : α → Sto → Prop} {X : XP} (h : ∀ a M, Q a M ↔ Q' a M) : Wp o Q X ↔ Wp o Q' X := ⟨fun z => z.mono fun a M => (h a M).mp, fun z => z.mono fun a M => (h a M).mpr⟩
theorem ws_fld (Ci : List Str) (f : Str) (fo fv : EF) : Ws (sFldD Ci f fo fv δ M) N R XX ↔ Wp (fv δ M) (fun v M1 => Wp (fo δ M1) (fun o M2 => Sm (setF Ci f o v M2) (fun M' => N δ M')) (fun C fs M' => XX C fs δ M')) (fun C fs M' => XX C fs δ M') := by
  have e : ∀ (o v : D) (M2 : Sto), Ws (match setF Ci f o v M2 with
    | some M' => SO.nx δ M'
    | none => .stuck) N R XX ↔ Sm (setF Ci f o v M2) (fun M' => N δ M') := fun o v M2 => by with_unfolding_all
    cases setF Ci f o v M2 <;> exact Iff.rfl
  exact (ws_bind fv _).trans (wp_congr fun v M1 => (ws_bind fo _).trans (wp_congr fun o M2 => e o v M2))
theorem thawf_cl {n : Nat} {M : Sto} {k : Nat} : ∀ {fs : List (Str × D)}, (∀ p ∈ fs, cl n p.2 = true) → thawfW (resN n M k) fs = some fs
  | [], _ => by unfold thawfW; rfl
  | (f, d) :: r, h => by
    unfold thawfW
    rw [thaw_cl (h (f, d) (List.mem_cons_self ..)), thawf_cl fun p hp => h p (List.mem_cons_of_mem _ hp)]
/-- the end of a made instance -/
theorem trim_ins {M : Sto} {C : Str} {fs : List (Str × D)} {P : D → Sto → Prop} (hM : Ok M) (hf : ∀ p ∈ fs, cl M.length p.2 = true) (h : P (.ins C fs) M) :
    Sm (thaw M.length (M ++ [MO.ins C fs]) (.ref M.length)) fun d' => Sm (thawSto M.length (M ++ [MO.ins C fs]) ((M ++ [MO.ins C fs]).take M.length)) fun M'' => P d' M'' := by
  have e : thaw M.length (M ++ [MO.ins C fs]) (.ref M.length) = some (.ins C fs) := by
    unfold thaw thawW resN
    rw [if_neg (by omega), List.getElem?_append_right (Nat.le_refl _)]
    simp only [Nat.sub_self, List.getElem?_cons_zero]
    rw [thawf_cl hf]; rfl
  rw [e, List.take_left' rfl, thawSto_cl hM]
  exact h
theorem alike_strs : ∀ a b : List Str, alikeAll (a.map .str) (b.map .str) = true
  | [], _ => by simp [alikeAll]
  | _ :: _, [] => by simp [alikeAll]
  | x :: r, y :: s => by
    rw [List.map_cons, List.map_cons, alikeAll, alike_strs r s]; rfl
theorem pys_strs (ns : List Str) : D.pys (ns.map .str) = some (ns.map .str) := by
  induction ns with
  | nil => unfold D.pys; rfl
  | cons b r ih => rw [List.map_cons, D.pys, ih]; rfl
theorem depth_strs : ∀ ns : List Str, PyData.depthAll (ns.map .str) = 0
  | [] => rfl
  | x :: r => by rw [List.map_cons, PyData.depthAll, depth_strs r]; rfl
theorem w_one (d : D) : Wp (one [d] M) Q X ↔ Q d M := by with_unfolding_all exact Iff.rfl
theorem putD_mem {f : Str} {v : D} {p : Str × D} : ∀ {fs : List (Str × D)}, p ∈ putD f v fs → p.2 = v ∨ p ∈ fs
  | [], h => by
    unfold putD at h
    rw [List.mem_singleton] at h; subst h; exact .inl rfl
  | (g, x) :: r, h => by
    unfold putD at h
    split at h
    · rcases List.mem_cons.mp h with z | z
      · subst z; exact .inl rfl
      · exact .inr (List.mem_cons_of_mem _ z)
    · rcases List.mem_cons.mp h with z | z
      · subst z; exact .inr (List.mem_cons_self ..)
      · rcases putD_mem z with y | y
        · exact .inl y
        · exact .inr (List.mem_cons_of_mem _ y)
theorem isNon_iff {d : D} : isNon d = true ↔ d = .non := by cases d <;> simp [isNon]
theorem kitOne_self (K : Frag) (u : Value) : kitOne K u u = some true := by
  unfold kitOne
  rw [if_pos (by simp)]
theorem oCut_lst (xs : List D) (a b : Option Int) : oCut (.lst xs) a b M = some (.lst (cutD xs a b)) := rfl
/-- a short text that may be shown -/
def Txt8 (d : D) : Prop := ∃ x : Str, d = .str x ∧ dOk (.str x) = true ∧ x.cps.size ≤ 12
def Shape (d : D) : Prop := ∃ (x : Str) (n : Nat), d = .tup [.str x, .int n] ∧ dOk (.str x) = true ∧ x.cps.size ≤ 12 ∧ 1 ≤ n ∧ n ≤ 3
theorem word_ok {n : Nat} {x : Str} (h : IsWord n x) : dOk (.str x) = true := by
  show (x.cps.toList.all fun c => decide (c < 16 ^ 8)) = true
  refine List.all_eq_true.mpr fun c hc => decide_eq_true ?_
  have := h.2 c hc
  unfold isLetter at this
  simp only [Bool.and_eq_true, decide_eq_true_eq] at this
  have e : 16 ^ 8 = 4294967296 := by decide
  omega
theorem cut_len {ys : List D} {j : Int} (h : 1 ≤ j) (hy : ys ≠ []) : cutD ys none (some j) ≠ [] := by
  intro e
  have := congrArg List.length e
  unfold cutD at this
  have s0 : HT.sIx ys.length 0 none = 0 := rfl
  have s1 : HT.sIx ys.length ys.length (some j) = min j.toNat ys.length := by
    show (if j < 0 then (j + (ys.length : Int)).toNat else min j.toNat ys.length) = _
    rw [if_neg (by omega)]
  rw [s0, s1] at this
  simp only [List.drop_zero, Nat.sub_zero, List.length_take, List.length_nil] at this
  have : 0 < ys.length := List.length_pos_iff.mpr hy
  omega
theorem cut_le (ys : List D) (a b : Option Int) : (cutD ys a b).length ≤ ys.length := by
  unfold cutD
  rw [List.length_take, List.length_drop]
  omega
theorem txt_cl {xs : List D} (h : ∀ x ∈ xs, Txt8 x) : cls 0 xs = true := cls_mem.mpr fun d hd => by
  obtain ⟨x, rfl, _⟩ := h d hd; rfl
theorem shape_cl {xs : List D} (h : ∀ x ∈ xs, Shape x) : cls 0 xs = true := cls_mem.mpr fun d hd => by
  obtain ⟨x, n, rfl, _⟩ := h d hd; rfl
theorem txts_map {ys : List D} (h : ∀ y ∈ ys, Txt8 y) : ∃ ns : List Str, ys = ns.map .str ∧ ∀ s ∈ ns, Txt8 (.str s) := by
  refine ⟨ys.map strOf, ?_, fun s hs => ?_⟩
  · rw [List.map_map]
    refine (List.map_id ys).symm.trans (List.map_congr_left fun x hx => ?_)
    obtain ⟨z, rfl, _⟩ := h x hx
    rfl
  · obtain ⟨x, hx, rfl⟩ := List.mem_map.mp hs
    have := h x hx
    obtain ⟨z, rfl, _⟩ := this
    exact h _ hx
theorem append_ref {M : Sto} {j : Nat} {xs : List D} (h : M[j]? = some (.lst xs)) (hl : xs.length < sizeLine) (d : D) : gAppend (.ref j) [d] M = some (.non, M.set j (.lst (xs ++ [d]))) := by
  unfold gAppend
  simp only [h]
  rw [if_pos hl]
theorem at_last {m : MO} (h : At p T (L ++ [m]) M) : M[p + 2 + L.length]? = some m := by
  rw [h.at, List.getElem?_append_right (Nat.le_refl _)]; simp
theorem set_last {m m' : MO} (h : At p T (L ++ [m]) M) : At p T (L ++ [m']) (M.set (p + 2 + L.length) m') := by
  have := h.set L.length m'
  rw [List.set_append_right _ _ (Nat.le_refl _)] at this
  simpa using this
theorem strs_cl (ns : List Str) (n : Nat) : cls n (ns.map .str) = true := cls_mem.mpr fun d hd => by
  obtain ⟨s, _, rfl⟩ := List.mem_map.mp hd; rfl
/-- data, small -/
structure Sm9 (k n : Nat) (d : D) : Prop where
  ok : dOk d = true
  dep : dDep d ≤ k
  bk : dBk d ≤ n
theorem sm_cl {k n : Nat} {xs : List D} (h : ∀ x ∈ xs, Sm9 k n x) : cls 0 xs = true := cls_mem.mpr fun d hd => cl_dOk (h d hd).ok
theorem sms_ok {k n : Nat} {xs : List D} (h : ∀ x ∈ xs, Sm9 k n x) : dOks xs = true := dOks_mem.mpr fun d hd => (h d hd).ok
theorem sms_dep {k n : Nat} {xs : List D} (h : ∀ x ∈ xs, Sm9 k n x) : dDeps xs ≤ k := dDeps_le.mpr fun d hd => (h d hd).dep
theorem sms_bk {k n : Nat} {xs : List D} (h : ∀ x ∈ xs, Sm9 k n x) : dBks xs ≤ xs.length * (n + 1) := dBks_le fun d hd => (h d hd).bk
theorem Sm9.mono {k n k' n' : Nat} {d : D} (h : Sm9 k n d) (a : k ≤ k') (b : n ≤ n') : Sm9 k' n' d := ⟨h.ok, by have := h.dep; omega, by have := h.bk; omega⟩
theorem txt_sm {d : D} (h : Txt8 d) : Sm9 0 12 d := by
  obtain ⟨x, rfl, o, s⟩ := h
  exact ⟨o, Nat.le_refl _, s⟩
theorem tup_sm {k n m : Nat} {xs : List D} (h : ∀ x ∈ xs, Sm9 k n x) (hl : xs.length ≤ m) : Sm9 (k + 1) (m * (n + 1)) (.tup xs) :=
  ⟨sms_ok h, by have := sms_dep h; show dDeps xs + 1 ≤ _; omega, Nat.le_trans (sms_bk h) (Nat.mul_le_mul_right _ hl)⟩
theorem lst_sm {k n m : Nat} {xs : List D} (h : ∀ x ∈ xs, Sm9 k n x) (hl : xs.length ≤ m) : Sm9 (k + 1) (m * (n + 1)) (.lst xs) :=
  ⟨sms_ok h, by have := sms_dep h; show dDeps xs + 1 ≤ _; omega, Nat.le_trans (sms_bk h) (Nat.mul_le_mul_right _ hl)⟩
theorem pair_sm {k n : Nat} {x y : D} (h : Sm9 k n x) (h2 : Sm9 k n y) : Sm9 (k + 1) (2 * (n + 1)) (.tup [x, y]) := tup_sm (fun z hz => by
  simp only [List.mem_cons, List.not_mem_nil, or_false] at hz
  rcases hz with rfl | rfl
  · exact h
  · exact h2) (Nat.le_refl _)
theorem strs_sm {ns : List Str} {m : Nat} (h : ∀ s ∈ ns, Txt8 (.str s)) (hl : ns.length ≤ m) : Sm9 1 (m * 13) (.tup (ns.map .str)) := tup_sm (k := 0) (n := 12) (fun x hx => by
  obtain ⟨s, hs, rfl⟩ := List.mem_map.mp hx
  exact txt_sm (h s hs)) (by rw [List.length_map]; exact hl)
theorem sm_dec {d : D} {k n : Nat} (h : (dOk d && (decide (dDep d ≤ k) && decide (dBk d ≤ n))) = true) : Sm9 k n d := by
  simp only [Bool.and_eq_true, decide_eq_true_eq] at h
  exact ⟨h.1, h.2.1, h.2.2⟩
theorem all_dec {k n : Nat} {xs : List D} (h : (xs.all fun d => dOk d && (decide (dDep d ≤ k) && decide (dBk d ≤ n))) = true) : ∀ x ∈ xs, Sm9 k n x := fun x hx => sm_dec (List.all_eq_true.mp h x hx)
theorem smnil {k n : Nat} : ∀ x ∈ ([] : List D), Sm9 k n x := fun x h => nomatch h
theorem smcons {k n : Nat} {x : D} {r : List D} (h : Sm9 k n x) (t : ∀ y ∈ r, Sm9 k n y) : ∀ y ∈ x :: r, Sm9 k n y := fun y hy => by
  rcases List.mem_cons.mp hy with z | z
  · subst z; exact h
  · exact t y z
theorem smapp {k n : Nat} {xs ys : List D} (h : ∀ y ∈ xs, Sm9 k n y) (t : ∀ y ∈ ys, Sm9 k n y) : ∀ y ∈ xs ++ ys, Sm9 k n y := fun y hy => by
  rcases List.mem_append.mp hy with z | z
  · exact h y z
  · exact t y z
theorem smsub {k n : Nat} {xs ys : List D} (h : ∀ y ∈ xs, Sm9 k n y) (t : ∀ y ∈ ys, y ∈ xs) : ∀ y ∈ ys, Sm9 k n y := fun y hy => h y (t y hy)
theorem smono {k n k' n' : Nat} {xs : List D} (h : ∀ y ∈ xs, Sm9 k n y) (a : k ≤ k') (b : n ≤ n') : ∀ y ∈ xs, Sm9 k' n' y := fun y hy => (h y hy).mono a b
theorem oMul_tup {M : Sto} {xs : List D} {k : Int} (h : xs = [] ∨ 1 ≤ k) (h1 : -1000 ≤ k) (h2 : k ≤ 1000) (h3 : xs.length ≤ 1000) : oMul (.tup xs) (.int k) M = some (.tup (repL k.toNat xs)) := if_pos ⟨h, h1, h2, h3⟩
theorem oMul_lst {M : Sto} {xs : List D} {k : Int} (h1 : -1000 ≤ k) (h2 : k ≤ 1000) (h3 : xs.length * k.toNat ≤ sizeLine) : oMul (.lst xs) (.int k) M = some (.lst (repL k.toNat xs)) := if_pos ⟨by omega, by omega, h3⟩
theorem rep_mem {k : Nat} {xs : List D} {x : D} (h : x ∈ repL k xs) : x ∈ xs := by
  unfold repL at h
  obtain ⟨l, hl, hx⟩ := List.mem_flatten.mp h
  rw [(List.mem_replicate.mp hl).2] at hx
  exact hx
theorem rep_len (k : Nat) (xs : List D) : (repL k xs).length = k * xs.length := by
  unfold repL
  rw [List.length_flatten]
  simp
theorem w_pickS {k n : Nat} {xs : List D} (hM : At p T L M) (hL : Pl L) (hT : T < 1000000000) (hx : ∀ y ∈ xs, Sm9 k n y) (h0 : xs ≠ []) (h1 : xs.length < 1000000000) (q : ∀ x M', Sm9 k n x → At p (T + 1) L M' → Q x M') : Wp (callT gPick [.ref (p + 1), .lst xs] M) Q X :=
  w_pick hM hL hT (.inl rfl) h0 h1 (sm_cl hx) fun x hm M' a => q x M' (hx x hm) a
theorem ws_cut {f g : SF} {δ : Env} {M : Sto} {N : Env → Sto → Prop} {R : D → Sto → Prop} {XX : XS} (Mid : Env → Sto → Prop) (h1 : Ws (f δ M) Mid R XX) (h2 : ∀ δ' M', Mid δ' M' → Ws (g δ' M') N R XX) : Ws (sSeq f g δ M) N R XX :=
  (ws_seq f g).mpr (h1.mono h2 (fun _ _ z => z) fun _ _ _ _ z => z)
theorem cut_from {xs : List D} {i : Nat} (h : i ≤ xs.length) : cutD xs (some (i : Int)) none = xs.drop i := by
  unfold cutD
  have s0 : HT.sIx xs.length 0 (some (i : Int)) = i := by
    show (if (i : Int) < 0 then ((i : Int) + (xs.length : Int)).toNat else min (i : Int).toNat xs.length) = i
    rw [if_neg (by omega)]
    omega
  rw [s0]
  show (xs.drop i).take (xs.length - i) = _
  rw [List.take_of_length_le (by simp)]
theorem oAdd_tup {M : Sto} {xs ys : List D} (h : xs.length + ys.length ≤ sizeLine) : oAdd (.tup xs) (.tup ys) M = some (.tup (xs ++ ys)) := if_pos h
theorem ws_end {o : Out D} {d : D} (h : Wp o (fun d' _ => d' = d) X0) : ∃ M, o = .ok d M := by with_unfolding_all
  cases o with
  | ok a M => exact ⟨M, by rw [show a = d from h]⟩
  | exc C fs M => exact h.elim
  | stuck => exact h.elim
theorem oNe_same {d : D} (h : dOk d = true) (hd : dDep d ≤ 60) : oNe d d M = some (.bl false) := by
  unfold oNe
  rw [eqD_ok h h hd, eqv_self h]; rfl
theorem oNe_str_same (s : Str) : oNe (.str s) (.str s) M = some (.bl false) := by
  have e : eqD (.str s) (.str s) M = some true := by
    unfold eqD
    show (if _ then some (PyData.eqv (.str s) (.str s)) else none) = _
    rw [if_pos ⟨rfl, rfl, by show min 0 0 ≤ 60; decide⟩]
    show some (s == s) = _
    simp
  unfold oNe
  rw [e]; rfl
end
end L2.MK

end

section
set_option Elab.async false
set_option linter.all false
set_option maxRecDepth 100000
set_option maxHeartbeats 2000000
set_option autoImplicit false
set_option exponentiation.threshold 2000
/-! Own operators, turned sequences, kept sums, loops over what is in the store, sorted lists. -/
namespace L2.MK
open PySem PySem.Spec PyProof.Rows PySem.W He
section
variable {K : Frag} {M : Sto} {QD : D → Sto → Prop} {X : XP} {δ : Env} {N : Env → Sto → Prop} {R : D → Sto → Prop} {XX : XS}
theorem w_noX (m : Ev D) : Wp (noX m M) QD X ↔ Wp (m M) QD X0 := by
  unfold noX Wp
  cases m M <;> exact Iff.rfl
theorem w_binE (g : D → D → Ev D) (fa fb : EF) : Wp (eBinE g fa fb δ M) QD X ↔ Wp (fa δ M) (fun x M1 => Wp (fb δ M1) (fun y M2 => Wp (g x y M2) QD X0) X) X := by
  unfold eBinE; simp only [w_bind, w_noX]
theorem w_unE (g : D → Ev D) (fa : EF) : Wp (eUnE g fa δ M) QD X ↔ Wp (fa δ M) (fun x M1 => Wp (g x M1) QD X0) X := by
  unfold eUnE; simp only [w_bind, w_noX]
theorem w_callE (g : GE) (fa : AF) : Wp (eCallE g fa δ M) QD X ↔ Wp (fa δ M) (fun ds M1 => Wp (g ds M1) QD X0) X := by
  unfold eCallE; simp only [w_bind, w_noX]
theorem w_evRevM (x : D) : Wp (evRevM x M) QD X ↔ Sm (rvw M x) (fun xs => QD (.ref M.length) (M ++ [.lst xs.reverse])) := by
  unfold evRevM Wp; cases rvw M x <;> exact Iff.rfl
theorem w_revM (f : EF) : Wp (eRevM f δ M) QD X ↔ Wp (f δ M) (fun x M1 => Sm (rvw M1 x) (fun xs => QD (.ref M1.length) (M1 ++ [.lst xs.reverse]))) X := by
  unfold eRevM; simp only [w_bind, w_evRevM]
theorem w_evAddM {x y : D} {xs ys : List D} (hx : lvw M x = some xs) (hy : lvw M y = some ys) (hl : xs.length + ys.length ≤ sizeLine) (q : QD (.ref M.length) (M ++ [.lst (xs ++ ys)])) : Wp (evAddM x y M) QD X := by
  unfold evAddM
  rw [hx, hy]
  simp only
  rw [if_pos hl, wp_ok]
  exact q
theorem w_addM (fa fb : EF) : Wp (eAddM fa fb δ M) QD X ↔ Wp (fa δ M) (fun x M1 => Wp (fb δ M1) (fun y M2 => Wp (evAddM x y M2) QD X) X) X := by
  unfold eAddM; simp only [w_bind]
theorem lk1 {C : Str} {g : List D → Ev D} : ([(C, g)] : GT).lookup C = some g := by simp [List.lookup]
theorem ev_eq_ins {Ci : List Str} {C : Str} {g : List D → Ev D} {fs : List (Str × D)} {y : D} (hk : knD Ci M y = true) (h : Wp (callT g [.ins C fs, y] M) QD X) : Wp (evEq Ci [(C, g)] (.ins C fs) y M) QD X := by
  unfold evEq
  show Wp (match ([(C, g)] : GT).lookup C with
    | some g => if knD Ci M y = true then callT g [.ins C fs, y] M else .stuck
    | none => .stuck) QD X
  rw [lk1]
  simp only
  rw [if_pos hk]
  exact h
theorem ev_eq_dat {Ci : List Str} {ms : GT} {x y : D} (h : insOf M x = none) : Wp (evEq Ci ms x y M) QD X ↔ Sm (oEq x y M) fun d => QD d M := by
  unfold evEq
  rw [h]
  exact w_opt (oEq x y)
theorem wp_notO {o : Out D} (h : Wp o (fun d M' => ∃ b, d = .bl b ∧ QD (.bl !b) M') X0) : Wp (notO o) QD X := by
  unfold Wp at h ⊢
  cases o with
  | ok d M' =>
    obtain ⟨b, e, q⟩ := h
    subst e
    exact q
  | exc C fs M' => exact h.elim
  | stuck => exact h.elim
theorem wp_blO {o : Out D} (h : Wp o (fun d M' => ∃ b, d = .bl b ∧ QD (.bl b) M') X0) : Wp (blO o) QD X := by
  unfold Wp at h ⊢
  cases o with
  | ok d M' =>
    obtain ⟨b, e, q⟩ := h
    subst e
    exact q
  | exc C fs M' => exact h.elim
  | stuck => exact h.elim
theorem wp_lenO {o : Out D} (h : Wp o (fun d M' => ∃ n : Int, d = .int n ∧ 0 ≤ n ∧ n < 2 ^ 63 ∧ QD (.int n) M') X0) : Wp (lenO o) QD X := by
  unfold Wp at h ⊢
  cases o with
  | ok d M' =>
    obtain ⟨n, e, h0, h1, q⟩ := h
    subst e
    unfold lenO
    simp only
    rw [if_pos ⟨h0, h1⟩]
    exact q
  | exc C fs M' => exact h.elim
  | stuck => exact h.elim
theorem ev_ne_ins {Ci : List Str} {C : Str} {g : List D → Ev D} {fs : List (Str × D)} {y : D} (hk : knD Ci M y = true) (h : Wp (callT g [.ins C fs, y] M) (fun d M' => ∃ b, d = .bl b ∧ QD (.bl !b) M') X0) : Wp (evNe Ci [(C, g)] (.ins C fs) y M) QD X := by
  unfold evNe
  show Wp (match ([(C, g)] : GT).lookup C with
    | some g => if knD Ci M y = true then notO (callT g [.ins C fs, y] M) else .stuck
    | none => .stuck) QD X
  rw [lk1]
  simp only
  rw [if_pos hk]
  exact wp_notO h
theorem ev_ne_dat {Ci : List Str} {ms : GT} {x y : D} (h : insOf M x = none) : Wp (evNe Ci ms x y M) QD X ↔ Sm (oNe x y M) fun d => QD d M := by
  unfold evNe
  rw [h]
  exact w_opt (oNe x y)
theorem ev_in_ins {C : Str} {g : List D → Ev D} {fs : List (Str × D)} {x : D} (h : Wp (callT g [.ins C fs, x] M) (fun d M' => ∃ b, d = .bl b ∧ QD (.bl b) M') X0) : Wp (evIn [(C, g)] x (.ins C fs) M) QD X := by
  unfold evIn
  show Wp (match ([(C, g)] : GT).lookup C with
    | some g => blO (callT g [.ins C fs, x] M)
    | none => .stuck) QD X
  rw [lk1]
  exact wp_blO h
theorem ev_notin_ins {C : Str} {g : List D → Ev D} {fs : List (Str × D)} {x : D} (h : Wp (callT g [.ins C fs, x] M) (fun d M' => ∃ b, d = .bl b ∧ QD (.bl !b) M') X0) : Wp (evNotIn [(C, g)] x (.ins C fs) M) QD X := by
  unfold evNotIn
  show Wp (match ([(C, g)] : GT).lookup C with
    | some g => notO (callT g [.ins C fs, x] M)
    | none => .stuck) QD X
  rw [lk1]
  exact wp_notO h
theorem ev_len_ins {C : Str} {g : List D → Ev D} {fs : List (Str × D)} (h : Wp (callT g [.ins C fs] M) (fun d M' => ∃ n : Int, d = .int n ∧ 0 ≤ n ∧ n < 2 ^ 63 ∧ QD (.int n) M') X0) : Wp (gLenE [(C, g)] [.ins C fs] M) QD X := by
  unfold gLenE
  show Wp (match ([(C, g)] : GT).lookup C with
    | some g => lenO (callT g [.ins C fs] M)
    | none => .stuck) QD X
  rw [lk1]
  exact wp_lenO h
theorem ev_len_dat {ms : GT} {x : D} (h : insOf M x = none) : Wp (gLenE ms [x] M) QD X ↔ Sm (gLen [x] M) fun d => QD d M := by
  unfold gLenE
  show Wp (match insOf M x with
    | none => opt (gLen [x]) M
    | some C => _) QD X ↔ _
  rw [h]
  exact w_opt (gLen [x])
theorem ev_pr_ins {C : Str} {g : List D → Ev D} {fs : List (Str × D)} (h : Wp (callT g [.ins C fs] M) QD X) : Wp (evPr [(C, g)] (.ins C fs) M) QD X := by
  unfold evPr
  show Wp (match ([(C, g)] : GT).lookup C with
    | some g => callT g [.ins C fs] M
    | none => .stuck) QD X
  rw [lk1]
  exact h
theorem insOf_ok {d : D} (h : dOk d = true) : insOf M d = none := by
  cases d <;> first | rfl | (unfold dOk at h; cases h)
theorem knD_ok {Ci : List Str} {d : D} (h : dOk d = true) : knD Ci M d = true := by
  cases d <;> first | rfl | (unfold dOk at h; cases h)
theorem knD_ins {Ci : List Str} {C : Str} {fs : List (Str × D)} (h : C ∈ Ci) : knD Ci M (.ins C fs) = true := by
  show ((btD M (.ins C fs)).isSome || decide (C ∈ Ci)) = true
  rw [decide_eq_true h, Bool.or_true]
/-! loops over what stands in the store -/
theorem forD_invI {it : ID} {g : D → SF} {b : SF} {xs : List D} (I : Nat → Env → Sto → Prop) (hit : ∀ i δ M, I i δ M → it M i = some (xs[i]?))
    (h : ∀ i x δ M, xs[i]? = some x → I i δ M → Ws (g x δ M) (fun δ1 M1 => Ws (b δ1 M1) (I (i + 1)) R XX) (fun _ _ => False) XX) :
    ∀ r i δ M, i + r = xs.length → I i δ M → Ws (forD it g b r i δ M) (I xs.length) R XX
  | 0, i, δ, M, e, hI => by with_unfolding_all
    unfold forD
    rw [hit i δ M hI, List.getElem?_eq_none (by omega)]
    have : i = xs.length := by omega
    subst this
    exact hI
  | r + 1, i, δ, M, e, hI => by with_unfolding_all
    unfold forD
    have hi : i < xs.length := by omega
    rw [hit i δ M hI, List.getElem?_eq_getElem hi]
    have q := h i xs[i] δ M (List.getElem?_eq_getElem hi) hI
    simp only
    cases e1 : g xs[i] δ M with
    | ret d M' => rw [e1] at q; exact q.elim
    | exc C fs δ' M' => rw [e1] at q; exact q
    | stuck => rw [e1] at q; exact q.elim
    | nx δ1 M1 =>
      rw [e1] at q
      replace q : Ws (b δ1 M1) (I (i + 1)) R XX := q
      show Ws (match b δ1 M1 with
        | .nx δ2 M2 => forD it g b r (i + 1) δ2 M2
        | o => o) _ _ _
      cases e2 : b δ1 M1 with
      | nx δ2 M2 => rw [e2] at q; exact forD_invI I hit h r (i + 1) δ2 M2 (by omega) q
      | ret d M' => rw [e2] at q; exact q
      | exc C fs δ' M' => rw [e2] at q; exact q
      | stuck => rw [e2] at q; exact q.elim
theorem ws_forI {f : IF} {g : D → SF} {b : SF} (I : List D → Nat → Env → Sto → Prop) (hi : Wp (f δ M) (fun p M1 => ∃ xs : List D, p.1 = xs.length ∧ (∀ i δ M, I xs i δ M → p.2 M i = some (xs[i]?)) ∧ I xs 0 δ M1 ∧
      (∀ i x δ M, xs[i]? = some x → I xs i δ M → Ws (g x δ M) (fun δ1 M1 => Ws (b δ1 M1) (I xs (i + 1)) R XX) (fun _ _ => False) XX) ∧ ∀ δ M, I xs xs.length δ M → N δ M) (fun C fs M' => XX C fs δ M')) :
    Ws (sFor f g b δ M) N R XX := by with_unfolding_all
  unfold sFor
  cases e : f δ M with
  | stuck => rw [e] at hi; exact hi.elim
  | exc C fs M' => rw [e] at hi; exact hi
  | ok p M' =>
    rw [e] at hi
    replace hi := wp_ok.mp hi
    obtain ⟨xs, e1, e2, i0, h, fin⟩ := hi
    have q := forD_invI (I xs) e2 h p.1 0 δ M' (by omega) i0
    exact q.mono fin (fun _ _ z => z) fun _ _ _ _ z => z
/-- a list or a tuple, or a list of the store -/
def SqM (M : Sto) (v : D) (xs : List D) : Prop := Sq v xs ∨ ∃ j, v = .ref j ∧ M[j]? = some (.lst xs)
theorem SqM.len {v : D} {xs : List D} (h : SqM M v xs) : gLen [v] M = some (.int xs.length) := by
  rcases h with h | ⟨j, rfl, h⟩
  · exact h.len
  · exact gLen_ref h
theorem SqM.sq {v : D} {xs : List D} (h : SqM M v xs) : sqD M v = some xs := by
  rcases h with h | ⟨j, rfl, h⟩
  · exact sqD_F h.f
  · unfold sqD vw; simp only [h]
theorem SqM.cut {v : D} {xs : List D} (h : SqM M v xs) (a b : Option Int) : ∃ w, oCut v a b M = some w ∧ Sq w (cutD xs a b) := by
  rcases h with h | ⟨j, rfl, h⟩
  · exact h.cut a b
  · refine ⟨.lst (cutD xs a b), ?_, .inl rfl⟩
    unfold oCut vw; simp only [h]
theorem SqM.is {Ci Ce : List Str} {v : D} {xs : List D} (h : SqM M v xs) : gIsi K Ci Ce [v, .tup [.ty "list", .ty "tuple"]] M = some (.bl true) := by
  rcases h with (rfl | rfl) | ⟨j, rfl, h⟩
  · rfl
  · rfl
  · have e : btD M (.ref j) = some "list" := by unfold btD; simp only [h]
    have e2 : isiD K Ci Ce M (.ref j) (fun t => kitAny K t [.type "list", .type "tuple"]) = some true := by
      unfold isiD
      rw [e]
      rfl
    show Option.map D.bl (isiD K Ci Ce M (.ref j) fun t => kitAny K t [.type "list", .type "tuple"]) = _
    rw [e2]; rfl
theorem SqM.app {v : D} {xs : List D} (h : SqM M v xs) (L2 : Sto) : SqM (M ++ L2) v xs := by
  rcases h with h | ⟨j, rfl, h⟩
  · exact .inl h
  · refine .inr ⟨j, rfl, ?_⟩
    rw [List.getElem?_append_left (List.getElem?_eq_some_iff.mp h).1]
    exact h
/-! booleans -/
theorem gAny_bls (bs : List Bool) : gAny [.lst (bs.map .bl)] M = some (.bl (bs.any id)) := by
  show ((pysOf M (.lst (bs.map .bl))).bind blsP).map (fun bs => D.bl (bs.any id)) = _
  have : pysOf M (.lst (bs.map .bl)) = some (bs.map .bool) := pys_bls bs
  rw [this, Option.bind_some, blsP_bls]; rfl
end
/-! ### sorted lists -/
theorem perm_sorted {α : Type} {le : α → α → Bool} : ∀ {l1 l2 : List α}, l1.Perm l2 → l1.Pairwise (fun a b => le a b = true) → l2.Pairwise (fun a b => le a b = true) → (∀ a ∈ l1, ∀ b ∈ l1, le a b = true → le b a = true → a = b) → l1 = l2
  | [], l2, p, _, _, _ => (List.nil_perm.mp p).symm ▸ rfl
  | a :: r, [], p, _, _, _ => by simp at p
  | a :: r, b :: s, p, s1, s2, h => by
    have e : a = b := by
      by_cases q : a = b
      · exact q
      · have hb : b ∈ r := by
          rcases List.mem_cons.mp (p.mem_iff.mpr (List.mem_cons_self ..)) with z | z
          · exact absurd z.symm q
          · exact z
        have ha : a ∈ s := by
          rcases List.mem_cons.mp (p.mem_iff.mp (List.mem_cons_self ..)) with z | z
          · exact absurd z q
          · exact z
        exact h a (List.mem_cons_self ..) b (List.mem_cons_of_mem _ hb) ((List.pairwise_cons.mp s1).1 b hb) ((List.pairwise_cons.mp s2).1 a ha)
    subst e
    rw [perm_sorted (List.Perm.cons_inv p) (List.pairwise_cons.mp s1).2 (List.pairwise_cons.mp s2).2 fun x hx y hy => h x (List.mem_cons_of_mem _ hx) y (List.mem_cons_of_mem _ hy)]
theorem leD_sorted (xs : List D) : (xs.mergeSort leD).Pairwise (fun a b => leD a b = true) := List.pairwise_mergeSort (fun a b c h1 h2 => (sortLe_total (listOrd itemOrd) false fun b => keyToks (pyD b)).trans a b c h1 h2) (fun a b => Bool.or_eq_true_iff.mpr ((sortLe_total (listOrd itemOrd) false fun b => keyToks (pyD b)).total a b)) xs
theorem leD_anti {a b : D} (h1 : leD a b = true) (h2 : leD b a = true) : keyToks (pyD a) = keyToks (pyD b) := by
  have e1 : (!(listOrd itemOrd).blt (keyToks (pyD b)) (keyToks (pyD a))) = true := h1
  have e2 : (!(listOrd itemOrd).blt (keyToks (pyD a)) (keyToks (pyD b))) = true := h2
  rw [Bool.not_eq_true'] at e1 e2
  exact (listOrd itemOrd).total _ _ e2 e1
end L2.MK

end

section
set_option Elab.async false
set_option linter.all false
set_option maxRecDepth 100000
set_option maxHeartbeats 2000000
set_option autoImplicit false
set_option exponentiation.threshold 2000
/-! Comprehensions over lists of the store. -/
namespace L2.MK
open PySem PySem.Spec PyProof.Rows PySem.W
section
variable {fi : IF} {p : Pt} {bt : BF} {f : EF} {vs : List Nat} {δ : Env} {M : Sto} {Q : D → Sto → Prop} {X : XP}
theorem lcO_invI {it : ID} {xs : List D} {n : Nat} {δw : Env} (I : Nat → List D → Sto → Prop) (hit : ∀ i ys Ma, I i ys Ma → Ma.length = n → it (Ma ++ [.lst ys]) i = some (xs[i]?))
    (h : ∀ i x ys Ma, xs[i]? = some x → I i ys Ma → Ma.length = n → Sm (setPt (Ma ++ [.lst ys]) p x δw) fun δ1 => Wp (bt δ1 (Ma ++ [.lst ys])) (fun k M2 => if k = true then Wp (f δ1 M2) (fun y M3 => ∃ Mc, M3 = Mc ++ [.lst ys] ∧ Mc.length = n ∧ ys.length < sizeLine ∧ I (i + 1) (ys ++ [y]) Mc) X0 else ∃ Mb, M2 = Mb ++ [.lst ys] ∧ Mb.length = n ∧ I (i + 1) ys Mb) X0) :
    ∀ r i ys Ma, i + r = xs.length → I i ys Ma → Ma.length = n → ∃ ys' Me, Me.length = n ∧ lcO it p bt f n δw r i (Ma ++ [.lst ys]) = .ok (.ref n) (Me ++ [.lst ys']) ∧ I xs.length ys' Me
  | 0, i, ys, Ma, e, hI, hl => by
    unfold lcO
    rw [hit i ys Ma hI hl, List.getElem?_eq_none (by omega)]
    have : i = xs.length := by omega
    subst this
    exact ⟨ys, Ma, hl, rfl, hI⟩
  | r + 1, i, ys, Ma, e, hI, hl => by with_unfolding_all
    unfold lcO
    have hi : i < xs.length := by omega
    rw [hit i ys Ma hI hl, List.getElem?_eq_getElem hi]
    obtain ⟨δ1, e1, q⟩ := (h i xs[i] ys Ma (List.getElem?_eq_getElem hi) hI hl).get
    simp only [e1]
    cases e2 : bt δ1 (Ma ++ [.lst ys]) with
    | stuck => rw [e2] at q; exact q.elim
    | exc C fs M' => rw [e2] at q; exact q.elim
    | ok k M2 =>
      rw [e2] at q
      cases k with
      | false =>
        rw [wp_ok, if_neg (by simp)] at q
        obtain ⟨Mb, rfl, lb, hb⟩ := q
        simp only
        exact lcO_invI I hit h r (i + 1) ys Mb (by omega) hb lb
      | true =>
        rw [wp_ok, if_pos rfl] at q
        simp only
        cases e3 : f δ1 M2 with
        | stuck => rw [e3] at q; exact q.elim
        | exc C fs M' => rw [e3] at q; exact q.elim
        | ok y M3 =>
          rw [e3] at q
          rw [wp_ok] at q
          obtain ⟨Mc, rfl, lc, hs, hc⟩ := q
          have e4 : gAppend (.ref n) [y] (Mc ++ [.lst ys]) = some (.non, Mc ++ [.lst (ys ++ [y])]) := by
            show (match (Mc ++ [MO.lst ys])[n]? with
              | some (.lst xs) => if xs.length < sizeLine then some (D.non, (Mc ++ [MO.lst ys]).set n (.lst (xs ++ [y]))) else none
              | _ => none) = _
            rw [← lc, List.getElem?_append_right (Nat.le_refl _)]
            simp only [Nat.sub_self, List.getElem?_cons_zero]
            rw [if_pos hs, List.set_append_right _ _ (Nat.le_refl _)]
            simp
          simp only [e4]
          exact lcO_invI I hit h r (i + 1) (ys ++ [y]) Mc (by omega) hc lc
/-- THE RULE for [f for p in fi if bt]: I what holds ahead of turn i, ys what is there -/
theorem w_lcI (I : List D → Nat → List D → Sto → Prop) (hi : Wp (fi δ M) (fun q M1 => ∃ xs : List D, q.1 = xs.length ∧ (∀ i ys Ma, I xs i ys Ma → Ma.length = M.length → q.2 (Ma ++ [.lst ys]) i = some (xs[i]?)) ∧ M1.length = M.length ∧ I xs 0 [] M1 ∧
      (∀ i x ys Ma, xs[i]? = some x → I xs i ys Ma → Ma.length = M.length → Sm (setPt (Ma ++ [.lst ys]) p x (wipeD δ vs)) fun δ1 => Wp (bt δ1 (Ma ++ [.lst ys])) (fun k M2 => if k = true then Wp (f δ1 M2) (fun y M3 => ∃ Mc, M3 = Mc ++ [.lst ys] ∧ Mc.length = M.length ∧ ys.length < sizeLine ∧ I xs (i + 1) (ys ++ [y]) Mc) X0 else ∃ Mb, M2 = Mb ++ [.lst ys] ∧ Mb.length = M.length ∧ I xs (i + 1) ys Mb) X0) ∧
      ∀ ys Me, Me.length = M.length → I xs xs.length ys Me → Ok Me ∧ cls M.length ys = true ∧ Q (.lst ys) Me) X0) : Wp (eLc fi p bt f vs δ M) Q X := by with_unfolding_all
  unfold eLc eLcM
  cases e : fi δ M with
  | stuck => rw [e] at hi; exact hi.elim
  | exc C fs M' => rw [e] at hi; exact hi.elim
  | ok q M1 =>
    rw [e] at hi
    replace hi := wp_ok.mp hi
    obtain ⟨xs, e1, e2, l1, i0, h, fin⟩ := hi
    obtain ⟨ys', Me, le, eo, hI⟩ := lcO_invI (n := M1.length) (δw := wipeD δ vs) (I xs) (fun i ys Ma a b => e2 i ys Ma a (by rw [b, l1])) (fun i x ys Ma a b c => by rw [l1]; exact h i x ys Ma a b (by rw [c, l1])) q.1 0 [] M1 (by omega) i0 rfl
    simp only [eo]
    obtain ⟨o1, o2, o3⟩ := fin ys' Me (le.trans l1) hI
    rw [w_trim]
    show Sm _ _
    rw [← le.trans l1] at o2 ⊢
    exact trim_lst o1 (by omega) (by rw [← le, List.getElem?_append_right (Nat.le_refl _)]; simp) o2 o3
/-- the store stays: a filter and a map -/
theorem w_lcPR {f0 : EF} {j : Nat} (xs : List D) (B : D → Bool) (F : D → D) (hM : Ok M) (hj : M[j]? = some (.lst xs)) (hl : xs.length ≤ sizeLine) (hi : Wp (f0 δ M) (fun d M1 => d = .ref j ∧ M1 = M) X0)
    (h : ∀ x ∈ xs, ∀ M2 : Sto, Ok M2 → Sm (setPt M2 p x (wipeD δ vs)) fun δ1 => Wp (bt δ1 M2) (fun k M3 => k = B x ∧ M3 = M2) X0 ∧ (B x = true → Wp (f δ1 M2) (fun y M3 => y = F x ∧ M3 = M2) X0))
    (hc : ∀ x ∈ xs, B x = true → cl M.length (F x) = true) (hQ : Q (.lst ((xs.filter B).map F)) M) : Wp (eLc (iSeq f0) p bt f vs δ M) Q X := by
  have sqj : ∀ N : Sto, sqD (M ++ N) (.ref j) = some xs := fun N => by
    unfold sqD vw
    have : (M ++ N)[j]? = some (.lst xs) := by
      rw [List.getElem?_append_left (List.getElem?_eq_some_iff.mp hj).1]; exact hj
    simp only [this]
  have clAll : ∀ n : Nat, cls M.length (((xs.take n).filter B).map F) = true := fun n => cls_mem.mpr fun d hd => by
    obtain ⟨x, hx, rfl⟩ := List.mem_map.mp hd
    obtain ⟨h1, h2⟩ := List.mem_filter.mp hx
    exact hc x (List.mem_of_mem_take h1) h2
  refine w_lcI (fun zs i ys Ma => zs = xs ∧ Ma = M ∧ ys = ((xs.take i).filter B).map F) ?_
  unfold iSeq
  rw [w_bind]
  refine hi.mono fun d M1 ⟨e1, e2⟩ => ?_
  subst e1 e2
  have ew : wSeq (.ref j) M1 = some (xs.length, fun M i => (sqD M (.ref j)).map fun zs => zs[i]?) := by
    show (sqD M1 (.ref j)).map _ = _
    have := sqj []
    rw [List.append_nil] at this
    rw [this]; rfl
  unfold evI
  rw [ew]
  refine wp_ok.mpr ⟨xs, rfl, fun i ys Ma ⟨_, eM, _⟩ _ => ?_, ?_⟩
  · subst eM
    show (sqD (Ma ++ [.lst ys]) (.ref j)).map _ = _
    rw [sqj]; rfl
  refine ⟨rfl, ⟨rfl, rfl, by simp⟩, fun i x zs Ma hx ⟨_, e1, e2⟩ ln => ?_, fun zs Me ln ⟨_, e1, e2⟩ => ?_⟩
  · subst e1
    have hm : x ∈ xs := List.mem_of_getElem? hx
    have ok2 : Ok (Ma ++ [.lst zs]) := fun m hm => by
      rcases List.mem_append.mp hm with hm | hm
      · have := hM m hm
        revert this
        cases m with
        | lst as => exact fun z => cls_mono (by simp) z
        | dK as => exact fun z => cls_mono (by simp) z
        | ins _ _ => exact fun z => z
        | opq => exact fun z => z
        | dead => exact fun z => z
      · rw [List.mem_singleton] at hm
        subst hm
        subst e2
        exact cls_mono (by simp) (clAll i)
    have ilt : i < xs.length := by
      rcases Nat.lt_or_ge i xs.length with z | z
      · exact z
      · rw [List.getElem?_eq_none z] at hx; cases hx
    have tk : xs.take (i + 1) = xs.take i ++ [x] := by
      rw [List.take_succ, hx]; rfl
    refine (h x hm _ ok2).mono fun δ1 ⟨h1, h2⟩ => h1.mono fun k M3 ⟨ek, eM⟩ => ?_
    subst eM ek
    by_cases hb : B x = true
    · rw [if_pos hb]
      refine (h2 hb).mono fun y M4 ⟨ey, eM⟩ => ?_
      subst ey eM
      refine ⟨Ma, rfl, rfl, ?_, rfl, rfl, ?_⟩
      · subst e2
        have : (((xs.take i).filter B).map F).length ≤ i := by
          rw [List.length_map]
          exact Nat.le_trans (List.length_filter_le _ _) (List.length_take_le _ _)
        omega
      · rw [e2, tk, List.filter_append, List.map_append]
        simp [hb]
    · rw [if_neg hb]
      refine ⟨Ma, rfl, rfl, rfl, rfl, ?_⟩
      rw [e2, tk, List.filter_append, List.map_append]
      simp [hb]
  · subst e1
    rw [List.take_length] at e2
    subst e2
    refine ⟨hM, ?_, hQ⟩
    have := clAll xs.length
    rw [List.take_length] at this
    exact this
end
end L2.MK

end

section
set_option Elab.async false
set_option linter.all false
set_option maxRecDepth 100000
set_option maxHeartbeats 4000000
set_option autoImplicit false
set_option exponentiation.threshold 2000
namespace L2.MK.W_k14
open PySem PySem.Spec PyProof.Rows PySem.W He
abbrev N_Tables__eq : List Str := ["self", "other"]
def fb_Tables__eq (K : Frag) : SF :=
    (sRet (eAnd (eCall (gIsi K ["Tables"] ["InvalidTables", "MarkError"]) (aCons (eVar 1) (aCons (eC (.cls "Tables")) aNil))) (eBin oEq (eUn (oFld ["Tables"] [] "held") (eVar 0)) (eUn (oFld ["Tables"] [] "held") (eVar 1)))))
def g_Tables__eq (K : Frag) : List D → Ev D := fun ds M => bodyO (fb_Tables__eq K (startD N_Tables__eq ds) M)
abbrev N_InvalidTables__init : List Str := ["self", "reason"]
abbrev N_is_integer : List Str := ["value"]
def fb_is_integer (K : Frag) : SF :=
    (sRet (eAnd (eCall (gIsi K ["Tables"] ["InvalidTables", "MarkError"]) (aCons (eVar 0) (aCons (eC (.ty "int")) aNil))) (eNot (eCall (gIsi K ["Tables"] ["InvalidTables", "MarkError"]) (aCons (eVar 0) (aCons (eC (.ty "bool")) aNil))))))
def g_is_integer (K : Frag) : List D → Ev D := fun ds M => bodyO (fb_is_integer K (startD N_is_integer ds) M)
abbrev N_is_name : List Str := ["value", "letter"]
def fb_is_name (K : Frag) : SF :=
    (sRet (eAnd (eCall (gIsi K ["Tables"] ["InvalidTables", "MarkError"]) (aCons (eVar 0) (aCons (eC (.ty "str")) aNil))) (eAnd (eChain oLe oLe (eC (.int 1)) (eCall gLen (aCons (eVar 0) aNil)) (eC (.int 8))) (eCall gAll (aCons (eLc (iSeq (eVar 0)) (.nm 1) bYes (eBin oIn (eVar 1) (eC (.str "abcdefghijklmnopqrstuvwxyz"))) [1]) aNil)))))
def g_is_name (K : Frag) : List D → Ev D := fun ds M => bodyO (fb_is_name K (startD N_is_name ds) M)
abbrev N_is_row : List Str := ["value", "values", "one"]
def fb_is_row (K : Frag) : SF :=
    (sSeq (sIf (bOr (bNot (bTru (eCall (gIsi K ["Tables"] ["InvalidTables", "MarkError"]) (aCons (eVar 0) (aCons (eC (.ty "tuple")) aNil))))) (bOr (bOf (eBin oNe (eCall gLen (aCons (eVar 0) aNil)) (eC (.int 3)))) (bOr (bNot (bTru (eFun (callT (g_is_name K)) (aCons (eBin oIx (eVar 0) (eC (.int 0))) aNil)))) (bNot (bTru (eFun (callT (g_is_name K)) (aCons (eBin oIx (eVar 0) (eC (.int 1))) aNil))))))) (sRet (eC (.bl false))) sSkip)
    (sSeq (sAsg (eBin oIx (eVar 0) (eC (.int 2))) (gN 1))
    (sSeq (sIf (bOr (bNot (bTru (eCall (gIsi K ["Tables"] ["InvalidTables", "MarkError"]) (aCons (eVar 1) (aCons (eC (.ty "tuple")) aNil))))) (bNot (bOf (eChain oLe oLe (eC (.int 1)) (eCall gLen (aCons (eVar 1) aNil)) (eC (.int 3)))))) (sRet (eC (.bl false))) sSkip)
    (sRet (eCall gAll (aCons (eLc (iSeq (eVar 1)) (.nm 2) bYes (eAnd (eFun (callT (g_is_integer K)) (aCons (eVar 2) aNil)) (eChain oLe oLe (eUn oNeg (eC (.int 1000000000))) (eVar 2) (eC (.int 1000000000)))) [2]) aNil))))))
def g_is_row (K : Frag) : List D → Ev D := fun ds M => bodyO (fb_is_row K (startD N_is_row ds) M)
abbrev N_tables_error : List Str := ["rows", "most", "k", "row", "name", "table", "values", "other"]
def fb_tables_error (K : Frag) : SF :=
    (sSeq (sIf (bOr (bNot (bTru (eCall (gIsi K ["Tables"] ["InvalidTables", "MarkError"]) (aCons (eVar 0) (aCons (eTup (aCons (eC (.ty "list")) (aCons (eC (.ty "tuple")) aNil))) aNil))))) (bOf (eBin oGt (eCall gLen (aCons (eVar 0) aNil)) (eVar 1)))) (sRet (eTup (aCons (eC (.str "rows")) aNil))) sSkip)
    (sSeq (sFor (iArgs wEnum (aCons (eVar 0) aNil)) (gTupD 2 (gConss (gN 2) (gConss (gN 3) gNils))) (sSeq (sIf (bNot (bTru (eFun (callT (g_is_row K)) (aCons (eVar 3) aNil)))) (sRet (eTup (aCons (eC (.str "row")) (aCons (eVar 2) aNil)))) sSkip)
    (sSeq (sAsg (eVar 3) (gTupD 3 (gConss (gN 4) (gConss (gN 5) (gConss (gN 6) gNils)))))
    (sSeq (sIf (bTru (eCall gAny (aCons (eLc (iSeq (eCut (eVar 0) sNo (sAt (eVar 2)))) (.nm 7) bYes (eBin oEq (eVar 4) (eBin oIx (eVar 7) (eC (.int 0)))) [7]) aNil))) (sRet (eTup (aCons (eC (.str "name")) (aCons (eVar 2) aNil)))) sSkip)
    (sSeq (sIf (bTru (eCall gAny (aCons (eLc (iSeq (eCut (eVar 0) sNo (sAt (eVar 2)))) (.nm 7) bYes (eAnd (eBin oEq (eVar 5) (eBin oIx (eVar 7) (eC (.int 1)))) (eBin oNe (eCall gLen (aCons (eVar 6) aNil)) (eCall gLen (aCons (eBin oIx (eVar 7) (eC (.int 2))) aNil)))) [7]) aNil))) (sRet (eTup (aCons (eC (.str "places")) (aCons (eVar 2) aNil)))) sSkip)
    (sIf (bTru (eCall gAny (aCons (eLc (iSeq (eCut (eVar 0) sNo (sAt (eVar 2)))) (.nm 7) bYes (eBin oEq (eCut (eVar 3) (sAt (eC (.int 1))) sNo) (eCut (eVar 7) (sAt (eC (.int 1))) sNo)) [7]) aNil))) (sRet (eTup (aCons (eC (.str "repeated")) (aCons (eVar 2) aNil)))) sSkip))))))
    (sRet (eC .non))))
def g_tables_error (K : Frag) : List D → Ev D := fun ds M => bodyO (fb_tables_error K (startD N_tables_error ds) M)
abbrev N_Tables__init : List Str := ["self", "rows", "reason"]
def fb_Tables__init (K : Frag) : SF :=
    (sSeq (sAsg (eFun (callT (g_tables_error K)) (aCons (eVar 1) (aCons (eC (.int 6)) aNil))) (gN 2))
    (sSeq (sIf (bOf (eBin oIsNot (eVar 2) (eC .non))) (sRaise (mkX "InvalidTables" "reason" (aCons (eVar 2) aNil))) sSkip)
    (sFldD ["Tables"] "held" (eVar 0) (eCall gTuple (aCons (eCall gSort (aCons (eVar 1) aNil)) aNil)))))
def g_Tables__init (K : Frag) : List D → Ev D := fun ds M => bodyO (fb_Tables__init K (startD N_Tables__init ds) M)
abbrev N_Tables__contains : List Str := ["self", "value"]
def fb_Tables__contains (K : Frag) : SF :=
    (sRet (eAnd (eFun (callT (g_is_row K)) (aCons (eVar 1) aNil)) (eBin oIn (eVar 1) (eUn (oFld ["Tables"] [] "held") (eVar 0)))))
def g_Tables__contains (K : Frag) : List D → Ev D := fun ds M => bodyO (fb_Tables__contains K (startD N_Tables__contains ds) M)
abbrev N_Tables__len : List Str := ["self"]
def fb_Tables__len (K : Frag) : SF :=
    (sRet (eCall gLen (aCons (eUn (oFld ["Tables"] [] "held") (eVar 0)) aNil)))
def g_Tables__len (K : Frag) : List D → Ev D := fun ds M => bodyO (fb_Tables__len K (startD N_Tables__len ds) M)
abbrev N_Tables_names : List Str := ["self", "row"]
def fb_Tables_names (K : Frag) : SF :=
    (sRet (eCall gTuple (aCons (eLc (iSeq (eUn (oFld ["Tables"] [] "held") (eVar 0))) (.nm 1) bYes (eBin oIx (eVar 1) (eC (.int 0))) [1]) aNil)))
def g_Tables_names (K : Frag) : List D → Ev D := fun ds M => bodyO (fb_Tables_names K (startD N_Tables_names ds) M)
abbrev N_Tables_rows : List Str := ["self"]
def fb_Tables_rows (K : Frag) : SF :=
    (sRet (eUn (oFld ["Tables"] [] "held") (eVar 0)))
def g_Tables_rows (K : Frag) : List D → Ev D := fun ds M => bodyO (fb_Tables_rows K (startD N_Tables_rows ds) M)
abbrev N_law_strange : List Str := ["rows", "strange", "name", "table", "values"]
def fb_law_strange (K : Frag) : SF :=
    (sSeq (sAsg (eLst (aCons (eC .non) (aCons (eC (.int 7)) (aCons (eC (.str "r")) (aCons (eTup (aCons (eC (.str "zz")) (aCons (eC (.str "e")) (aCons (eTup (aCons (eC (.int 1)) (aCons (eC (.int 2)) aNil))) aNil)))) (aCons (eLst (aCons (eC (.str "r")) aNil)) (aCons (eTup aNil) (aCons (eTup (aCons (eC (.str "r")) (aCons (eC (.str "e")) (aCons (eC (.int 7)) aNil)))) (aCons (eTup (aCons (eC (.str "r")) (aCons (eC (.str "e")) (aCons (eC (.dct [.inl 1] [.int 2])) aNil)))) aNil))))))))) (gN 1))
    (sSeq (sFor (iSeq (eVar 0)) (gTupD 3 (gConss (gN 2) (gConss (gN 3) (gConss (gN 4) gNils)))) (sSeq (sAsg (eBin oAdd (eVar 1) (eLst (aCons (eLst (aCons (eVar 2) (aCons (eVar 3) (aCons (eVar 4) aNil)))) (aCons (eTup (aCons (eVar 2) (aCons (eVar 3) (aCons (eBin oAdd (eTup (aCons (eBin oEq (eBin oIx (eVar 4) (eC (.int 0))) (eC (.int 1))) aNil)) (eCut (eVar 4) (sAt (eC (.int 1))) sNo)) aNil)))) (aCons (eTup (aCons (eVar 2) (aCons (eVar 3) (aCons (eC .non) aNil)))) aNil))))) (gN 1))
    (sSeq (sAsg (eBin oAdd (eVar 1) (eLst (aCons (eTup (aCons (eVar 2) (aCons (eVar 3) (aCons (eBin oAdd (eCut (eVar 4) sNo (sAt (eUn oNeg (eC (.int 1))))) (eTup (aCons (eBin oEq (eBin oIx (eVar 4) (eUn oNeg (eC (.int 1)))) (eC (.int 1))) aNil))) aNil)))) (aCons (eTup (aCons (eVar 2) (aCons (eVar 3) (aCons (eCall gList (aCons (eVar 4) aNil)) aNil)))) aNil)))) (gN 1))
    (sAsg (eBin oAdd (eVar 1) (eLst (aCons (eTup (aCons (eLst (aCons (eVar 2) aNil)) (aCons (eVar 3) (aCons (eVar 4) aNil)))) aNil))) (gN 1)))))
    (sRet (eVar 1))))
def g_law_strange (K : Frag) : List D → Ev D := fun ds M => bodyO (fb_law_strange K (startD N_law_strange ds) M)
abbrev N_law_parts_hold : List Str := ["rows", "raw", "tables", "thing", "name", "table", "values", "turned", "crossed", "row", "less", "value"]
def fb_law_parts_hold (K : Frag) : SF :=
    (sSeq (sAsg (eRevM (eCall gList (aCons (eVar 0) aNil))) (gN 1))
    (sSeq (sAsg (eFun (makeT "Tables" (g_Tables__init K)) (aCons (eVar 1) aNil)) (gN 2))
    (sSeq (sExp (eMeth "list" gAppend (eVar 1) (aCons (eC .non) aNil)))
    (sSeq (sIf (bOr (bOf (eBinE (evNe ["Tables"] [("Tables", g_Tables__eq K)]) (eUnE (evPr [("Tables", g_Tables_rows K)]) (eVar 2)) (eCall gTuple (aCons (eCall gSort (aCons (eVar 0) aNil)) aNil)))) (bOf (eBinE (evNe ["Tables"] [("Tables", g_Tables__eq K)]) (eUnE (evPr [("Tables", g_Tables_names K)]) (eVar 2)) (eCall gTuple (aCons (eCall gSort (aCons (eLc (iSeq (eVar 0)) (.nm 9) bYes (eBin oIx (eVar 9) (eC (.int 0))) [9]) aNil)) aNil))))) (sRet (eC (.bl false))) sSkip)
    (sSeq (sIf (bOr (bOf (eBinE (evNe ["Tables"] [("Tables", g_Tables__eq K)]) (eCallE (gLenE [("Tables", g_Tables__len K)]) (aCons (eVar 2) aNil)) (eCallE (gLenE [("Tables", g_Tables__len K)]) (aCons (eVar 0) aNil)))) (bOr (bOf (eBinE (evNe ["Tables"] [("Tables", g_Tables__eq K)]) (eLc (iSeq (eVar 0)) (.nm 9) (bOf (eBinE (evNotIn [("Tables", g_Tables__contains K)]) (eVar 9) (eVar 2))) (eVar 9) [9]) (eLst aNil))) (bOf (eBinE (evNe ["Tables"] [("Tables", g_Tables__eq K)]) (eFun (makeT "Tables" (g_Tables__init K)) (aCons (eCall gTuple (aCons (eVar 0) aNil)) aNil)) (eVar 2))))) (sRet (eC (.bl false))) sSkip)
    (sSeq (sIf (bOf (eBinE (evNe ["Tables"] [("Tables", g_Tables__eq K)]) (eLc (iSeq (eFun (callT (g_law_strange K)) (aCons (eVar 0) aNil))) (.nm 11) (bOf (eBinE (evIn [("Tables", g_Tables__contains K)]) (eVar 11) (eVar 2))) (eVar 11) [11]) (eLst aNil))) (sRet (eC (.bl false))) sSkip)
    (sSeq (sFor (iSeq (eLst (aCons (eUnE (evPr [("Tables", g_Tables_rows K)]) (eVar 2)) (aCons (eCall gList (aCons (eUnE (evPr [("Tables", g_Tables_rows K)]) (eVar 2)) aNil)) (aCons (eUnE (evPr [("Tables", g_Tables_names K)]) (eVar 2)) (aCons (eTup aNil) (aCons (eC .non) (aCons (eC (.int 7)) aNil)))))))) (gN 3) (sIf (bOr (bOf (eBinE (evEq ["Tables"] [("Tables", g_Tables__eq K)]) (eVar 2) (eVar 3))) (bNot (bOf (eBinE (evNe ["Tables"] [("Tables", g_Tables__eq K)]) (eVar 2) (eVar 3))))) (sRet (eC (.bl false))) sSkip))
    (sSeq (sIf (bOf (eBinE (evEq ["Tables"] [("Tables", g_Tables__eq K)]) (eVar 0) (eLst aNil))) (sRet (eC (.bl true))) sSkip)
    (sSeq (sAsg (eBin oIx (eVar 0) (eC (.int 0))) (gTupD 3 (gConss (gN 4) (gConss (gN 5) (gConss (gN 6) gNils)))))
    (sSeq (sAsg (eLst (aCons (eTup (aCons (eVar 4) (aCons (eC (.str "anothert")) (aCons (eVar 6) aNil)))) (aCons (eTup (aCons (eVar 4) (aCons (eVar 5) (aCons (eBin oMul (eTup (aCons (eC (.int 77)) aNil)) (eCallE (gLenE [("Tables", g_Tables__len K)]) (aCons (eVar 6) aNil))) aNil)))) aNil))) (gN 7))
    (sSeq (sAsg (eBin oAdd (eVar 7) (eLst (aCons (eTup (aCons (eVar 4) (aCons (eVar 5) (aCons (eCut (eBin oAdd (eVar 6) (eTup (aCons (eC (.int 1)) (aCons (eC (.int 1)) aNil)))) sNo (sAt (eC (.int 3)))) aNil)))) (aCons (eTup (aCons (eC (.str "zz")) (aCons (eVar 5) (aCons (eVar 6) aNil)))) aNil)))) (gN 7))
    (sSeq (sAsg (eBin oAdd (eTup (aCons (eVar 4) aNil)) (eCut (eBin oIx (eVar 0) (eUn oNeg (eC (.int 1)))) (sAt (eC (.int 1))) sNo)) (gN 8))
    (sSeq (sIf (bAnd (bOf (eBinE (evNe ["Tables"] [("Tables", g_Tables__eq K)]) (eVar 8) (eBin oIx (eVar 0) (eC (.int 0))))) (bOf (eBinE (evIn [("Tables", g_Tables__contains K)]) (eVar 8) (eVar 2)))) (sRet (eC (.bl false))) sSkip)
    (sSeq (sFor (iSeq (eVar 7)) (gN 9) (sIf (bAnd (bOf (eBinE (evNe ["Tables"] [("Tables", g_Tables__eq K)]) (eVar 9) (eBin oIx (eVar 0) (eC (.int 0))))) (bOr (bOf (eBinE (evIn [("Tables", g_Tables__contains K)]) (eVar 9) (eVar 2))) (bOf (eBinE (evEq ["Tables"] [("Tables", g_Tables__eq K)]) (eFun (makeT "Tables" (g_Tables__init K)) (aCons (eLst (aCons (eVar 9) aNil)) aNil)) (eFun (makeT "Tables" (g_Tables__init K)) (aCons (eCut (eVar 0) sNo (sAt (eC (.int 1)))) aNil)))))) (sRet (eC (.bl false))) sSkip))
    (sSeq (sAsg (eFun (makeT "Tables" (g_Tables__init K)) (aCons (eCut (eCall gList (aCons (eVar 0) aNil)) (sAt (eC (.int 1))) sNo) aNil)) (gN 10))
    (sRet (eAnd (eBinE (evNe ["Tables"] [("Tables", g_Tables__eq K)]) (eVar 2) (eVar 10)) (eAnd (eBinE (evNe ["Tables"] [("Tables", g_Tables__eq K)]) (eVar 10) (eVar 2)) (eAnd (eBinE (evNe ["Tables"] [("Tables", g_Tables__eq K)]) (eFun (makeT "Tables" (g_Tables__init K)) (aCons (eLst aNil) aNil)) (eVar 2)) (eBinE (evNe ["Tables"] [("Tables", g_Tables__eq K)]) (eVar 2) (eVar 0)))))))))))))))))))))
def g_law_parts_hold (K : Frag) : List D → Ev D := fun ds M => bodyO (fb_law_parts_hold K (startD N_law_parts_hold ds) M)
abbrev N_law_is_value : List Str := ["value"]
def fb_law_is_value (K : Frag) : SF :=
    (sRet (eAnd (eCall (gIsi K ["Tables"] ["InvalidTables", "MarkError"]) (aCons (eVar 0) (aCons (eC (.ty "int")) aNil))) (eAnd (eNot (eCall (gIsi K ["Tables"] ["InvalidTables", "MarkError"]) (aCons (eVar 0) (aCons (eC (.ty "bool")) aNil)))) (eBin oLe (eCall gAbs (aCons (eVar 0) aNil)) (eBin oPow (eC (.int 10)) (eC (.int 9)))))))
def g_law_is_value (K : Frag) : List D → Ev D := fun ds M => bodyO (fb_law_is_value K (startD N_law_is_value ds) M)
abbrev N_law_is_word : List Str := ["value", "letter"]
def fb_law_is_word (K : Frag) : SF :=
    (sSeq (sIf (bOr (bNot (bTru (eCall (gIsi K ["Tables"] ["InvalidTables", "MarkError"]) (aCons (eVar 0) (aCons (eC (.ty "str")) aNil))))) (bOr (bOf (eBin oLt (eCall gLen (aCons (eVar 0) aNil)) (eC (.int 1)))) (bOf (eBin oGt (eCall gLen (aCons (eVar 0) aNil)) (eC (.int 8)))))) (sRet (eC (.bl false))) sSkip)
    (sRet (eBin oEq (eLc (iSeq (eVar 0)) (.nm 1) (bOf (eBin oNotIn (eVar 1) (eC (.str "abcdefghijklmnopqrstuvwxyz")))) (eVar 1) [1]) (eLst aNil))))
def g_law_is_word (K : Frag) : List D → Ev D := fun ds M => bodyO (fb_law_is_word K (startD N_law_is_word ds) M)
abbrev N_law_is_row : List Str := ["value", "one"]
def fb_law_is_row (K : Frag) : SF :=
    (sSeq (sIf (bOr (bNot (bTru (eCall (gIsi K ["Tables"] ["InvalidTables", "MarkError"]) (aCons (eVar 0) (aCons (eC (.ty "tuple")) aNil))))) (bOr (bOf (eBin oNe (eCall gLen (aCons (eVar 0) aNil)) (eC (.int 3)))) (bOr (bNot (bTru (eFun (callT (g_law_is_word K)) (aCons (eBin oIx (eVar 0) (eC (.int 0))) aNil)))) (bNot (bTru (eFun (callT (g_law_is_word K)) (aCons (eBin oIx (eVar 0) (eC (.int 1))) aNil))))))) (sRet (eC (.bl false))) sSkip)
    (sSeq (sIf (bOr (bNot (bTru (eCall (gIsi K ["Tables"] ["InvalidTables", "MarkError"]) (aCons (eBin oIx (eVar 0) (eC (.int 2))) (aCons (eC (.ty "tuple")) aNil))))) (bOr (bOf (eBin oLt (eCall gLen (aCons (eBin oIx (eVar 0) (eC (.int 2))) aNil)) (eC (.int 1)))) (bOf (eBin oGt (eCall gLen (aCons (eBin oIx (eVar 0) (eC (.int 2))) aNil)) (eC (.int 3)))))) (sRet (eC (.bl false))) sSkip)
    (sRet (eBin oEq (eLc (iSeq (eBin oIx (eVar 0) (eC (.int 2)))) (.nm 1) (bNot (bTru (eFun (callT (g_law_is_value K)) (aCons (eVar 1) aNil)))) (eVar 1) [1]) (eLst aNil)))))
def g_law_is_row (K : Frag) : List D → Ev D := fun ds M => bodyO (fb_law_is_row K (startD N_law_is_row ds) M)
abbrev N_law_expected : List Str := ["rows", "k", "row"]
def fb_law_expected (K : Frag) : SF :=
    (sSeq (sIf (bOr (bAnd (bNot (bTru (eCall (gIsi K ["Tables"] ["InvalidTables", "MarkError"]) (aCons (eVar 0) (aCons (eC (.ty "list")) aNil))))) (bNot (bTru (eCall (gIsi K ["Tables"] ["InvalidTables", "MarkError"]) (aCons (eVar 0) (aCons (eC (.ty "tuple")) aNil)))))) (bOf (eBin oGt (eCall gLen (aCons (eVar 0) aNil)) (eC (.int 6))))) (sRet (eTup (aCons (eC (.str "rows")) aNil))) sSkip)
    (sSeq (sFor (iArgs wRng1 (aCons (eCall gLen (aCons (eVar 0) aNil)) aNil)) (gN 1) (sSeq (sIf (bNot (bTru (eFun (callT (g_law_is_row K)) (aCons (eBin oIx (eVar 0) (eVar 1)) aNil)))) (sRet (eTup (aCons (eC (.str "row")) (aCons (eVar 1) aNil)))) sSkip)
    (sSeq (sIf (bOf (eBin oIn (eBin oIx (eBin oIx (eVar 0) (eVar 1)) (eC (.int 0))) (eLc (iSeq (eCut (eVar 0) sNo (sAt (eVar 1)))) (.nm 2) bYes (eBin oIx (eVar 2) (eC (.int 0))) [2]))) (sRet (eTup (aCons (eC (.str "name")) (aCons (eVar 1) aNil)))) sSkip)
    (sSeq (sIf (bOf (eBin oNe (eLc (iSeq (eCut (eVar 0) sNo (sAt (eVar 1)))) (.nm 2) (bAnd (bOf (eBin oEq (eBin oIx (eVar 2) (eC (.int 1))) (eBin oIx (eBin oIx (eVar 0) (eVar 1)) (eC (.int 1))))) (bOf (eBin oNe (eCall gLen (aCons (eBin oIx (eVar 2) (eC (.int 2))) aNil)) (eCall gLen (aCons (eBin oIx (eBin oIx (eVar 0) (eVar 1)) (eC (.int 2))) aNil))))) (eVar 2) [2]) (eLst aNil))) (sRet (eTup (aCons (eC (.str "places")) (aCons (eVar 1) aNil)))) sSkip)
    (sIf (bOf (eBin oIn (eCut (eBin oIx (eVar 0) (eVar 1)) (sAt (eC (.int 1))) sNo) (eLc (iSeq (eCut (eVar 0) sNo (sAt (eVar 1)))) (.nm 2) bYes (eCut (eVar 2) (sAt (eC (.int 1))) sNo) [2]))) (sRet (eTup (aCons (eC (.str "repeated")) (aCons (eVar 1) aNil)))) sSkip)))))
    (sRet (eC .non))))
def g_law_expected (K : Frag) : List D → Ev D := fun ds M => bodyO (fb_law_expected K (startD N_law_expected ds) M)
abbrev N_law_raised : List Str := ["rows", "caught", "e"]
def fb_law_raised (K : Frag) : SF :=
    (sSeq (sAsg (eC .non) (gN 1))
    (sSeq (sTry K (.ref (ga K "MarkError")) 2 (sExp (eFun (makeT "Tables" (g_Tables__init K)) (aCons (eVar 0) aNil))) (sAsg (eVar 2) (gN 1)))
    (sSeq (sIf (bAnd (bTru (eCall (gIsi K ["Tables"] ["InvalidTables", "MarkError"]) (aCons (eVar 1) (aCons (eC (.cls "InvalidTables")) aNil)))) (bTru (eCall (gIsi K ["Tables"] ["InvalidTables", "MarkError"]) (aCons (eVar 1) (aCons (eC (.ty "ValueError")) aNil))))) (sRet (eUn (oFld [] ["InvalidTables"] "reason") (eVar 1))) sSkip)
    (sRet (eVar 1)))))
def g_law_raised (K : Frag) : List D → Ev D := fun ds M => bodyO (fb_law_raised K (startD N_law_raised ds) M)
abbrev N_law_draw : List Str := ["source", "limit", "cells", "turn", "place", "cell", "number", "other"]
def fb_law_draw (K : Frag) : SF :=
    (sSeq (sAsg (eVar 0) (gTupD 2 (gConss (gN 2) (gConss (gN 3) gNils))))
    (sSeq (sAsg (eBin oMod (eCall gInt (aCons (eVar 3) aNil)) (eCall gLen (aCons (eVar 2) aNil))) (gN 4))
    (sSeq (sAsg (eBin oIx (eVar 2) (eVar 4)) (gN 5))
    (sSeq (sAsg (eBin oAdd (eVar 3) (eC (.int 1))) (gSubD (eVar 0) (eC (.int 1))))
    (sSeq (sIf (bOf (eBin oGe (eVar 5) (eBin oPow (eC (.int 10)) (eC (.int 18))))) (sSeq (sAsg (eBin oDiv (eVar 5) (eVar 1)) (gSubD (eVar 2) (eVar 4)))
    (sRet (eBin oMod (eCall gInt (aCons (eVar 5) aNil)) (eVar 1)))) sSkip)
    (sSeq (sAsg (eBin oMod (eCall gInt (aCons (eBin oAdd (eBin oAdd (eBin oMul (eBin oMod (eCall gInt (aCons (eVar 5) aNil)) (eC (.int 2147483629))) (eC (.int 48271))) (eBin oMul (eBin oMul (eVar 3) (eVar 3)) (eC (.int 69621)))) (eC (.int 11))) aNil)) (eC (.int 2147483647))) (gN 6))
    (sSeq (sAsg (eBin oMod (eCall gInt (aCons (eBin oMul (eVar 6) (eVar 6)) aNil)) (eC (.int 2147483629))) (gN 6))
    (sSeq (sAsg (eBin oMod (eCall gInt (aCons (eBin oMul (eVar 6) (eVar 6)) aNil)) (eC (.int 2147483587))) (gN 6))
    (sSeq (sIf (bOf (eBin oGt (eVar 1) (eBin oPow (eC (.int 10)) (eC (.int 9))))) (sSeq (sAsg (eBin oMod (eCall gInt (aCons (eBin oAdd (eBin oAdd (eBin oMul (eVar 6) (eC (.int 39373))) (eBin oMul (eVar 3) (eC (.int 7919)))) (eC (.int 500))) aNil)) (eC (.int 2147483629))) (gN 7))
    (sAsg (eBin oMul (eVar 6) (eBin oAdd (eBin oMul (eBin oMul (eVar 7) (eVar 7)) (eVar 7)) (eC (.int 1)))) (gN 6))) sSkip)
    (sRet (eBin oMod (eCall gInt (aCons (eVar 6) aNil)) (eVar 1))))))))))))
def g_law_draw (K : Frag) : List D → Ev D := fun ds M => bodyO (fb_law_draw K (startD N_law_draw ds) M)
abbrev N_law_pick : List Str := ["source", "values"]
def fb_law_pick (K : Frag) : SF :=
    (sRet (eBin oIx (eVar 1) (eFun (callT (g_law_draw K)) (aCons (eVar 0) (aCons (eCall gLen (aCons (eVar 1) aNil)) aNil)))))
def g_law_pick (K : Frag) : List D → Ev D := fun ds M => bodyO (fb_law_pick K (startD N_law_pick ds) M)
abbrev N_law_changed : List Str := ["source", "shapes", "rows", "plain", "k", "name", "table", "values", "odd", "words", "bad", "far", "spot"]
def fb_law_changed (K : Frag) : SF :=
    (sSeq (sAsg (eBin oAdd (eVar 2) (eLst (aCons (eTup (aCons (eC (.str "new")) (aCons (eC (.str "e")) (aCons (eTup (aCons (eC (.int 1)) (aCons (eC (.int 2)) aNil))) aNil)))) aNil))) (gN 3))
    (sSeq (sFor (iArgs wRng1 (aCons (eFun (callT (g_law_draw K)) (aCons (eVar 0) (aCons (eC (.int 4)) aNil))) aNil)) (gN 4) (sSeq (sAsg (eFun (callT (g_law_pick K)) (aCons (eVar 0) (aCons (eVar 3) aNil))) (gTupD 3 (gConss (gN 5) (gConss (gN 6) (gConss (gN 7) gNils)))))
    (sSeq (sAsg (eLstM (aCons (eC .non) (aCons (eLst (aCons (eVar 5) (aCons (eVar 6) (aCons (eVar 7) aNil)))) (aCons (eTup (aCons (eVar 5) (aCons (eVar 6) aNil))) (aCons (eTup (aCons (eVar 5) (aCons (eVar 6) (aCons (eVar 7) (aCons (eC (.int 0)) aNil))))) (aCons (eTup (aCons (eVar 5) (aCons (eVar 6) (aCons (eCall gList (aCons (eVar 7) aNil)) aNil)))) aNil)))))) (gN 8))
    (sSeq (sAsg (eAddM (eVar 8) (eLst (aCons (eTup (aCons (eC (.str "A")) (aCons (eVar 6) (aCons (eVar 7) aNil)))) (aCons (eTup (aCons (eC .non) (aCons (eVar 6) (aCons (eVar 7) aNil)))) (aCons (eTup (aCons (eVar 5) (aCons (eC (.str "")) (aCons (eVar 7) aNil)))) (aCons (eTup (aCons (eC (.str "other")) (aCons (eVar 6) (aCons (eTup aNil) aNil)))) aNil)))))) (gN 8))
    (sSeq (sAsg (eAddM (eVar 8) (eLst (aCons (eTup (aCons (eC (.str "other")) (aCons (eVar 6) (aCons (eBin oAdd (eTup (aCons (eC (.bl true)) aNil)) (eCut (eVar 7) (sAt (eC (.int 1))) sNo)) aNil)))) (aCons (eTup (aCons (eC (.str "other")) (aCons (eVar 6) (aCons (eBin oAdd (eTup (aCons (eBin oAdd (eBin oPow (eC (.int 10)) (eC (.int 9))) (eC (.int 1))) aNil)) (eCut (eVar 7) (sAt (eC (.int 1))) sNo)) aNil)))) (aCons (eC (.int 7)) (aCons (eC (.str "row")) aNil)))))) (gN 8))
    (sSeq (sAsg (eAddM (eVar 8) (eLst (aCons (eTup (aCons (eC (.str "other")) (aCons (eVar 6) (aCons (eVar 7) aNil)))) (aCons (eTup (aCons (eVar 5) (aCons (eVar 6) (aCons (eUn oRev (eVar 7)) aNil)))) (aCons (eTup (aCons (eC (.str "another")) (aCons (eVar 6) (aCons (eCut (eBin oMul (eVar 7) (eC (.int 4))) sNo (sAt (eC (.int 4)))) aNil)))) aNil))))) (gN 8))
    (sSeq (sAsg (eAddM (eVar 8) (eLst (aCons (eTup (aCons (eC (.str "another")) (aCons (eVar 6) (aCons (eCut (eBin oAdd (eVar 7) (eTup (aCons (eC (.int 5)) aNil))) sNo (sAt (eC (.int 3)))) aNil)))) (aCons (eTup (aCons (eC (.str "third")) (aCons (eVar 6) (aCons (eBin oMul (eTup (aCons (eBin oSub (eC (.int 0)) (eBin oPow (eC (.int 10)) (eC (.int 9)))) aNil)) (eCall gLen (aCons (eVar 7) aNil))) aNil)))) aNil)))) (gN 8))
    (sSeq (sAsg (eAddM (eVar 8) (eLst (aCons (eTup (aCons (eLst (aCons (eC (.str "a")) aNil)) (aCons (eVar 6) (aCons (eVar 7) aNil)))) (aCons (eTup (aCons (eVar 5) (aCons (eVar 6) (aCons (eC .non) aNil)))) (aCons (eTup (aCons (eVar 5) (aCons (eVar 6) (aCons (eC (.int 7)) aNil)))) (aCons (eTup (aCons (eVar 5) (aCons (eVar 6) (aCons (eC (.bl true)) aNil)))) aNil)))))) (gN 8))
    (sSeq (sAsg (eLst (aCons (eC (.str "")) (aCons (eC (.str "A")) (aCons (eC (.str "aB")) (aCons (eC (.str "a1")) (aCons (eC (.str "1")) (aCons (eC (.str "a_b")) (aCons (eC (.str "a b")) (aCons (eC (.str "ninechars")) (aCons (eC .non) (aCons (eC (.int 7)) (aCons (eLst (aCons (eC (.str "a")) aNil)) (aCons (eC (.bl true)) (aCons (eC (.str "a\n")) (aCons (eC (.str "a{")) aNil))))))))))))))) (gN 9))
    (sSeq (sAsg (eFun (callT (g_law_pick K)) (aCons (eVar 0) (aCons (eVar 9) aNil))) (gN 10))
    (sSeq (sAsg (eFun (callT (g_law_pick K)) (aCons (eVar 0) (aCons (eLst (aCons (eC (.bl true)) (aCons (eC .non) (aCons (eC (.str "x")) (aCons (eBin oAdd (eBin oPow (eC (.int 10)) (eC (.int 9))) (eC (.int 1))) (aCons (eBin oSub (eBin oSub (eC (.int 0)) (eBin oPow (eC (.int 10)) (eC (.int 9)))) (eC (.int 1))) aNil)))))) aNil))) (gN 11))
    (sSeq (sAsg (eAddM (eVar 8) (eLst (aCons (eTup (aCons (eVar 10) (aCons (eVar 6) (aCons (eVar 7) aNil)))) (aCons (eTup (aCons (eVar 5) (aCons (eVar 10) (aCons (eVar 7) aNil)))) (aCons (eTup (aCons (eC (.str "other")) (aCons (eVar 6) (aCons (eBin oAdd (eCut (eVar 7) sNo (sAt (eUn oNeg (eC (.int 1))))) (eTup (aCons (eVar 11) aNil))) aNil)))) aNil))))) (gN 8))
    (sSeq (sExp (eMeth "list" gAppend (eVar 8) (aCons (eTup (aCons (eC (.str "other")) (aCons (eVar 6) (aCons (eBin oAdd (eTup (aCons (eBin oSub (eBin oSub (eC (.int 0)) (eBin oPow (eC (.int 10)) (eC (.int 9)))) (eC (.int 1))) aNil)) (eCut (eVar 7) (sAt (eC (.int 1))) sNo)) aNil)))) aNil)))
    (sSeq (sExp (eMeth "list" gAppend (eVar 8) (aCons (eTup (aCons (eC (.str "other")) (aCons (eVar 6) (aCons (eBin oAdd (eBin oAdd (eCut (eVar 7) sNo (sAt (eC (.int 1)))) (eTup (aCons (eVar 11) aNil))) (eCut (eVar 7) (sAt (eC (.int 2))) sNo)) aNil)))) aNil)))
    (sSeq (sAsg (eFun (callT (g_law_draw K)) (aCons (eVar 0) (aCons (eBin oAdd (eCall gLen (aCons (eVar 2) aNil)) (eC (.int 1))) aNil))) (gN 12))
    (sAsg (eBin oAdd (eBin oAdd (eCut (eVar 2) sNo (sAt (eVar 12))) (eLst (aCons (eFun (callT (g_law_pick K)) (aCons (eVar 0) (aCons (eVar 8) aNil))) aNil))) (eCut (eVar 2) (sAt (eVar 12)) sNo)) (gN 2)))))))))))))))))
    (sRet (eFun (callT (g_law_pick K)) (aCons (eVar 0) (aCons (eLst (aCons (eVar 2) (aCons (eVar 2) (aCons (eVar 2) (aCons (eCall gTuple (aCons (eVar 2) aNil)) (aCons (eC .non) (aCons (eC (.int 7)) (aCons (eBin oMul (eVar 2) (eC (.int 4))) (aCons (eC (.str "rows")) (aCons (eTup aNil) (aCons (eC (.dct [] [])) (aCons (eC (.str "")) aNil)))))))))))) aNil))))))
def g_law_changed (K : Frag) : List D → Ev D := fun ds M => bodyO (fb_law_changed K (startD N_law_changed ds) M)
abbrev N_law_shuffle : List Str := ["source", "values", "result", "value"]
def fb_law_shuffle (K : Frag) : SF :=
    (sSeq (sAsg (eLstM aNil) (gN 2))
    (sSeq (sFor (iSeq (eVar 1)) (gN 3) (sExp (eMeth "list" gInsert (eVar 2) (aCons (eFun (callT (g_law_draw K)) (aCons (eVar 0) (aCons (eBin oAdd (eCall gLen (aCons (eVar 2) aNil)) (eC (.int 1))) aNil))) (aCons (eVar 3) aNil)))))
    (sRet (eVar 2))))
def g_law_shuffle (K : Frag) : List D → Ev D := fun ds M => bodyO (fb_law_shuffle K (startD N_law_shuffle ds) M)
abbrev N_law_word : List Str := ["source", "size", "k"]
def fb_law_word (K : Frag) : SF :=
    (sRet (eMeth "str" gJoin (eC (.str "")) (aCons (eLc (iArgs wRng1 (aCons (eVar 1) aNil)) (.nm 2) bYes (eBin oIx (eC (.str "abcdefghijklmnopqrstuvwxyz")) (eFun (callT (g_law_draw K)) (aCons (eVar 0) (aCons (eC (.int 26)) aNil)))) [2]) aNil)))
def g_law_word (K : Frag) : List D → Ev D := fun ds M => bodyO (fb_law_word K (startD N_law_word ds) M)
abbrev N_law_database : List Str := ["source", "shapes", "most", "some", "more", "names", "rows", "k", "table", "size", "values", "j", "row"]
def fb_law_database (K : Frag) : SF :=
    (sSeq (sAsg (eFun (callT (g_law_pick K)) (aCons (eVar 0) (aCons (eLst (aCons (eLst (aCons (eC (.int 0)) (aCons (eC (.int 1)) (aCons (eC (.int 2)) aNil)))) (aCons (eLst (aCons (eBin oSub (eC (.int 0)) (eC (.int 1))) (aCons (eC (.int 0)) (aCons (eC (.int 1)) aNil)))) (aCons (eLst (aCons (eC (.int 9)) (aCons (eC (.int 10)) (aCons (eBin oSub (eC (.int 0)) (eC (.int 10))) aNil)))) (aCons (eLst (aCons (eBin oSub (eC (.int 0)) (eBin oPow (eC (.int 10)) (eC (.int 9)))) (aCons (eBin oPow (eC (.int 10)) (eC (.int 9))) (aCons (eC (.int 100)) aNil)))) (aCons (eLst (aCons (eC (.int 0)) (aCons (eC (.int 1)) aNil))) aNil)))))) aNil))) (gN 3))
    (sSeq (sAsg (eLst (aCons (eLst (aCons (eC (.int 0)) (aCons (eC (.int 9)) (aCons (eC (.int 10)) (aCons (eBin oSub (eC (.int 0)) (eC (.int 1))) aNil))))) (aCons (eLst (aCons (eBin oSub (eC (.int 0)) (eBin oPow (eC (.int 10)) (eC (.int 9)))) (aCons (eBin oSub (eC (.int 0)) (eC (.int 10))) (aCons (eC (.int 99)) (aCons (eC (.int 100)) aNil))))) (aCons (eVar 3) (aCons (eVar 3) aNil))))) (gN 4))
    (sSeq (sAsg (eFun (callT (g_law_pick K)) (aCons (eVar 0) (aCons (eVar 4) aNil))) (gN 3))
    (sSeq (sAsg (eFun (callT (g_law_shuffle K)) (aCons (eVar 0) (aCons (eLst (aCons (eC (.str "r")) (aCons (eC (.str "ra")) (aCons (eC (.str "rb")) (aCons (eC (.str "s")) (aCons (eC (.str "eightrow")) (aCons (eC (.str "eightros")) (aCons (eC (.str "t")) (aCons (eFun (callT (g_law_word K)) (aCons (eVar 0) (aCons (eC (.int 5)) aNil))) aNil))))))))) aNil))) (gN 5))
    (sSeq (sAsg (eLstM aNil) (gN 6))
    (sSeq (sFor (iArgs wRng1 (aCons (eFun (callT (g_law_draw K)) (aCons (eVar 0) (aCons (eBin oAdd (eVar 2) (eC (.int 1))) aNil))) aNil)) (gN 7) (sSeq (sAsg (eFun (callT (g_law_pick K)) (aCons (eVar 0) (aCons (eVar 1) aNil))) (gTupD 2 (gConss (gN 8) (gConss (gN 9) gNils))))
    (sSeq (sAsg (eCall gTuple (aCons (eLc (iArgs wRng1 (aCons (eVar 9) aNil)) (.nm 11) bYes (eFun (callT (g_law_pick K)) (aCons (eVar 0) (aCons (eVar 3) aNil))) [11]) aNil)) (gN 10))
    (sIf (bOf (eBin oNotIn (eTup (aCons (eVar 8) (aCons (eVar 10) aNil))) (eLc (iSeq (eVar 6)) (.nm 12) bYes (eCut (eVar 12) (sAt (eC (.int 1))) sNo) [12]))) (sExp (eMeth "list" gAppend (eVar 6) (aCons (eTup (aCons (eBin oIx (eVar 5) (eVar 7)) (aCons (eVar 8) (aCons (eVar 10) aNil)))) aNil))) sSkip))))
    (sRet (eVar 6))))))))
def g_law_database (K : Frag) : List D → Ev D := fun ds M => bodyO (fb_law_database K (startD N_law_database ds) M)
abbrev N_law_shapes : List Str := ["source", "shapes"]
def fb_law_shapes (K : Frag) : SF :=
    (sSeq (sAsg (eLst (aCons (eTup (aCons (eC (.str "e")) (aCons (eC (.int 2)) aNil))) (aCons (eTup (aCons (eC (.str "f")) (aCons (eC (.int 1)) aNil))) (aCons (eTup (aCons (eC (.str "g")) (aCons (eC (.int 3)) aNil))) (aCons (eTup (aCons (eFun (callT (g_law_word K)) (aCons (eVar 0) (aCons (eC (.int 4)) aNil))) (aCons (eC (.int 2)) aNil))) (aCons (eTup (aCons (eC (.str "edgeofit")) (aCons (eC (.int 2)) aNil))) aNil)))))) (gN 1))
    (sRet (eCut (eFun (callT (g_law_shuffle K)) (aCons (eVar 0) (aCons (eVar 1) aNil))) sNo (sAt (eBin oAdd (eC (.int 1)) (eFun (callT (g_law_draw K)) (aCons (eVar 0) (aCons (eC (.int 3)) aNil))))))))
def g_law_shapes (K : Frag) : List D → Ev D := fun ds M => bodyO (fb_law_shapes K (startD N_law_shapes ds) M)
abbrev N_law_source : List Str := ["script", "cells", "k"]
def fb_law_source (K : Frag) : SF :=
    (sSeq (sAsg (eCutM (eVar 0) sNo (sAt (eC (.int 63)))) (gN 1))
    (sSeq (sFor (iArgs wRng1 (aCons (eCall gLen (aCons (eVar 1) aNil)) aNil)) (gN 2) (sIf (bOf (eBin oGe (eCall gAbs (aCons (eBin oIx (eVar 1) (eVar 2)) aNil)) (eBin oPow (eC (.int 10)) (eC (.int 18))))) (sAsg (eBin oMod (eCall gInt (aCons (eBin oIx (eVar 1) (eVar 2)) aNil)) (eBin oPow (eBin oPow (eC (.int 10)) (eC (.int 60))) (eC (.int 20)))) (gSubD (eVar 1) (eVar 2))) sSkip))
    (sSeq (sIf (bOf (eBin oEq (eVar 1) (eLst aNil))) (sAsg (eLstM (aCons (eC (.int 0)) aNil)) (gN 1)) sSkip)
    (sRet (eLstM (aCons (eVar 1) (aCons (eC (.int 0)) aNil)))))))
def g_law_source (K : Frag) : List D → Ev D := fun ds M => bodyO (fb_law_source K (startD N_law_source ds) M)
abbrev N_law : List Str := ["script", "source", "repeat", "shapes", "rows", "before"]
def fb_law (K : Frag) : SF :=
    (sSeq (sAsg (eFun (callK (g_law_source K)) (aCons (eVar 0) aNil)) (gN 1))
    (sSeq (sIf (bOr (bOf (eBin oNe (eC (.int 6)) (eC (.int 6)))) (bOf (eBin oNe (eFun (callT (g_law_raised K)) (aCons (eFun (makeT "Tables" (g_Tables__init K)) (aCons (eLst aNil) aNil)) aNil)) (eTup (aCons (eC (.str "rows")) aNil))))) (sRet (eC (.bl false))) sSkip)
    (sSeq (sFor (iArgs wRng1 (aCons (eC (.int 20)) aNil)) (gN 2) (sSeq (sAsg (eFun (callT (g_law_shapes K)) (aCons (eVar 1) aNil)) (gN 3))
    (sSeq (sAsg (eFun (callT (g_law_database K)) (aCons (eVar 1) (aCons (eVar 3) (aCons (eC (.int 7)) aNil)))) (gN 4))
    (sSeq (sIf (bOf (eBin oGt (eBin oMod (eCall gInt (aCons (eVar 2) aNil)) (eC (.int 4))) (eC (.int 0)))) (sAsg (eFun (callT (g_law_changed K)) (aCons (eVar 1) (aCons (eVar 3) (aCons (eVar 4) aNil)))) (gN 4)) sSkip)
    (sSeq (sAsg (eCall gReprE (aCons (eVar 4) aNil)) (gN 5))
    (sSeq (sIf (bOr (bOf (eBin oNe (eFun (callT (g_law_raised K)) (aCons (eVar 4) aNil)) (eFun (callT (g_law_expected K)) (aCons (eVar 4) aNil)))) (bOf (eBin oNe (eCall gReprE (aCons (eVar 4) aNil)) (eVar 5)))) (sRet (eC (.bl false))) sSkip)
    (sIf (bAnd (bOf (eBin oIs (eFun (callT (g_law_expected K)) (aCons (eVar 4) aNil)) (eC .non))) (bNot (bTru (eFun (callT (g_law_parts_hold K)) (aCons (eCall gList (aCons (eVar 4) aNil)) aNil))))) (sRet (eC (.bl false))) sSkip)))))))
    (sRet (eC (.bl true))))))
def g_law (K : Frag) : List D → Ev D := fun ds M => bodyO (fb_law K (startD N_law ds) M)
/-- what the classes are -/
structure Kf (K : Frag) : Prop where
  q_NoneType_Tables : kitOne K (.type "NoneType") (.ref (ga K "Tables")) = some false
  q_bool_Tables : kitOne K (.type "bool") (.ref (ga K "Tables")) = some false
  q_int_Tables : kitOne K (.type "int") (.ref (ga K "Tables")) = some false
  q_str_Tables : kitOne K (.type "str") (.ref (ga K "Tables")) = some false
  q_tuple_Tables : kitOne K (.type "tuple") (.ref (ga K "Tables")) = some false
  q_list_Tables : kitOne K (.type "list") (.ref (ga K "Tables")) = some false
  q_dict_Tables : kitOne K (.type "dict") (.ref (ga K "Tables")) = some false
  q_InvalidTables_Tables : kitOne K (.ref (ga K "InvalidTables")) (.ref (ga K "Tables")) = some false
  q_MarkError_Tables : kitOne K (.ref (ga K "MarkError")) (.ref (ga K "Tables")) = some false
  q_Tables_bool : kitOne K (.ref (ga K "Tables")) (.type "bool") = some false
  q_InvalidTables_bool : kitOne K (.ref (ga K "InvalidTables")) (.type "bool") = some false
  q_MarkError_bool : kitOne K (.ref (ga K "MarkError")) (.type "bool") = some false
  q_Tables_int : kitOne K (.ref (ga K "Tables")) (.type "int") = some false
  q_InvalidTables_int : kitOne K (.ref (ga K "InvalidTables")) (.type "int") = some false
  q_MarkError_int : kitOne K (.ref (ga K "MarkError")) (.type "int") = some false
  q_Tables_tuple : kitOne K (.ref (ga K "Tables")) (.type "tuple") = some false
  q_InvalidTables_tuple : kitOne K (.ref (ga K "InvalidTables")) (.type "tuple") = some false
  q_MarkError_tuple : kitOne K (.ref (ga K "MarkError")) (.type "tuple") = some false
  q_Tables_str : kitOne K (.ref (ga K "Tables")) (.type "str") = some false
  q_InvalidTables_str : kitOne K (.ref (ga K "InvalidTables")) (.type "str") = some false
  q_MarkError_str : kitOne K (.ref (ga K "MarkError")) (.type "str") = some false
  q_Tables_list : kitOne K (.ref (ga K "Tables")) (.type "list") = some false
  q_InvalidTables_list : kitOne K (.ref (ga K "InvalidTables")) (.type "list") = some false
  q_MarkError_list : kitOne K (.ref (ga K "MarkError")) (.type "list") = some false
  q_Tables_ValueError : kitOne K (.ref (ga K "Tables")) (.type "ValueError") = some false
  q_InvalidTables_ValueError : kitOne K (.ref (ga K "InvalidTables")) (.type "ValueError") = some true
  q_MarkError_ValueError : kitOne K (.ref (ga K "MarkError")) (.type "ValueError") = some true
  q_NoneType_InvalidTables : kitOne K (.type "NoneType") (.ref (ga K "InvalidTables")) = some false
  q_bool_InvalidTables : kitOne K (.type "bool") (.ref (ga K "InvalidTables")) = some false
  q_int_InvalidTables : kitOne K (.type "int") (.ref (ga K "InvalidTables")) = some false
  q_str_InvalidTables : kitOne K (.type "str") (.ref (ga K "InvalidTables")) = some false
  q_tuple_InvalidTables : kitOne K (.type "tuple") (.ref (ga K "InvalidTables")) = some false
  q_list_InvalidTables : kitOne K (.type "list") (.ref (ga K "InvalidTables")) = some false
  q_dict_InvalidTables : kitOne K (.type "dict") (.ref (ga K "InvalidTables")) = some false
  q_Tables_InvalidTables : kitOne K (.ref (ga K "Tables")) (.ref (ga K "InvalidTables")) = some false
  q_MarkError_InvalidTables : kitOne K (.ref (ga K "MarkError")) (.ref (ga K "InvalidTables")) = some false
  e_InvalidTables_MarkError : exmOne K (.ref (ga K "InvalidTables")) (.ref (ga K "MarkError")) = some true
  e_MarkError_MarkError : exmOne K (.ref (ga K "MarkError")) (.ref (ga K "MarkError")) = some true
  any : True
end L2.MK.W_k14

end

section
set_option Elab.async false
set_option linter.all false
set_option maxRecDepth 100000
set_option maxHeartbeats 2000000
set_option autoImplicit false
set_option exponentiation.threshold 2000
namespace L2.MK.W_k14
local macro_rules
  | `(tactic| decreasing_trivial) => `(tactic| try simp only [w_bind, w_pure, w_pure', w_opt, w_var, w_C, w_bin, w_un, w_call, w_fun, w_nil, w_cons, w_tup, w_lst, w_lstM, w_dctM, w_isBl, w_bTru, w_bOf, w_and, w_or, w_not, wb_and, wb_or, wb_not, wb_yes, w_if, w_chain, w_cut, w_cutM, w_sNo, w_isI, w_sAt, w_meth, w_setd,
  ws_skip, ws_seq, ws_exp, ws_ret, ws_retN, ws_if, ws_asg, ws_gN, ws_gNils, ws_gConss, ws_gTup, ws_gSub, ws_raise, ws_try, ws_noRet, sm_some,
  startD, List.map_cons, List.map_nil, List.length_cons, List.length_nil, List.replicate, List.cons_append, List.nil_append, List.getElem?_cons_zero, List.getElem?_cons_succ, List.set_cons_zero, List.set_cons_succ, Option.join_some, Option.join_none, Nat.reduceAdd, Nat.reduceSub, Nat.add_zero, Nat.zero_add,
  sqD_lst, sqD_tup, sqD_rol, gLen_lst, gLen_tup, gInt_int, gInt_bl, gAbs_int, oAdd_int, oSub_int, oLt_int, oLe_int, oGt_int, oGe_int, oIx_lst, oIx_tup, oEq_int, oNe_int, true_and, and_true, true_implies, seqF_lst, seqF_tup, seqF_str, sqF_lst, sqF_tup, truD_bl, isStr, isTupB, isLst, ↓reduceIte, Bool.false_eq_true, Bool.not_true, Bool.not_false, setPt_nm, setPt_tp, setPts_nil, setPts_cons, wipeD_nil, wipeD_cons])
open PySem PySem.Spec PyProof.Rows PySem.W He
section
variable {K : Frag} {M : Sto} {Q : D → Sto → Prop} {X : XP}
/-- data, or a dict -/
def dOkq : D → Bool
  | .dct _ _ => true
  | d => dOk d
theorem dOkq_of {d : D} (h : dOk d = true) : dOkq d = true := by
  cases d <;> first | exact h | rfl
theorem gIsi_strq {Ci Ce : List Str} {d : D} (h : dOkq d = true) : gIsi K Ci Ce [d, .ty "str"] M = some (.bl (isStr d)) := by
  cases d <;> first | rfl | (unfold dOkq dOk at h; cases h)
theorem gIsi_tupq {Ci Ce : List Str} {d : D} (h : dOkq d = true) : gIsi K Ci Ce [d, .ty "tuple"] M = some (.bl (isTupB d)) := by
  cases d <;> first | rfl | (unfold dOkq dOk at h; cases h)
def raB : D → Bool
  | .tup xs => xs.all dOkq
  | d => dOkq d
theorem raB_of {d : D} (h : dOk d = true) : raB d = true := by
  cases d with
  | tup xs => exact List.all_eq_true.mpr fun x hx => dOkq_of (dOks_mem.mp h x hx)
  | _ => first | exact h | rfl
theorem gIsi_tupr {Ci Ce : List Str} {d : D} (h : raB d = true) : gIsi K Ci Ce [d, .ty "tuple"] M = some (.bl (isTupB d)) := by
  cases d <;> first | rfl | (unfold raB dOkq dOk at h; cases h)
def isInt : D → Bool
  | .int _ => true
  | _ => false
def intB : D → Bool
  | .int _ => true
  | .bl _ => true
  | _ => false
def isBool : D → Bool
  | .bl _ => true
  | _ => false
theorem gIsi_int {Ci Ce : List Str} {d : D} (h : dOk d = true) : gIsi K Ci Ce [d, .ty "int"] M = some (.bl (intB d)) := by
  rw [gIsi_ok h (by simp)]
  cases d <;> first | rfl | (unfold dOk at h; cases h)
theorem gIsi_bool {Ci Ce : List Str} {d : D} (h : dOk d = true) : gIsi K Ci Ce [d, .ty "bool"] M = some (.bl (isBool d)) := by
  rw [gIsi_ok h (by simp)]
  cases d <;> first | rfl | (unfold dOk at h; cases h)
def valB : D → Bool
  | .int i => decide (-1000000000 ≤ i) && decide (i ≤ 1000000000)
  | _ => false
def valsB : D → Bool
  | .tup xs => decide (1 ≤ xs.length) && (decide (xs.length ≤ 3) && xs.all valB)
  | _ => false
def rowB : D → Bool
  | .tup [n, t, v] => wordB n && (wordB t && valsB v)
  | _ => false
theorem valB_int {i : Int} : valB (.int i) = (decide (-1000000000 ≤ i) && decide (i ≤ 1000000000)) := rfl
theorem valsB_tup {xs : List D} : valsB (.tup xs) = (decide (1 ≤ xs.length) && (decide (xs.length ≤ 3) && xs.all valB)) := rfl
theorem w_is_name {d : D} (hM : Ok M) (hd : dOkq d = true) (hb : dBk d ≤ 2 ^ 20) (q : Q (.bl (wordB d)) M) : Wp (callT (g_is_name K) [d] M) Q X := by
  refine call_is (r := .bl (wordB d)) hM rfl ?_ q
  unfold g_is_name
  rw [w_body]
  unfold fb_is_name
  decreasing_trivial
  rw [gIsi_strq hd]
  cases d with
  | str z =>
    have hz : z.cps.size ≤ 2 ^ 20 := hb
    decreasing_trivial
    rw [gLen_str hz, wordB_str]
    decreasing_trivial
    by_cases h1 : 1 ≤ z.cps.size
    · rw [if_pos (decide_eq_true (by omega))]
      by_cases h2 : z.cps.size ≤ 8
      · rw [if_pos (decide_eq_true (by omega))]
        refine w_lcP (charsD z) (fun _ => true) (fun d => .bl (inAbc (chr d))) hM (pre_chars z h2) ?_ ?_ (fun x hx _ => rfl) ?_
        · refine wi_seq ?_
          decreasing_trivial
          (all_goals first | done | trivial | rfl | exact ⟨rfl, rfl⟩ | exact ⟨trivial, trivial⟩ | exact ⟨rfl, [], by simp⟩ | exact ⟨[], by simp⟩)
        · intro x hx M2 hM2
          obtain ⟨c, rfl, hc⟩ := mem_chars hx
          decreasing_trivial
          have e := inAbc_ok (M := M2) c
          rw [show oIn (.str ⟨#[c]⟩) (.str "abcdefghijklmnopqrstuvwxyz") M2 = _ from e, sm_some]
          (all_goals first | done | trivial | rfl | exact ⟨rfl, rfl⟩ | exact ⟨trivial, trivial⟩ | exact ⟨rfl, [], by simp⟩ | exact ⟨[], by simp⟩)
        · have e : (List.filter (fun _ => true) (charsD z)).map (fun d => D.bl (inAbc (chr d))) = (z.cps.toList.map inAbc).map D.bl := by
            rw [filter_yes]; unfold charsD; rw [List.map_map, List.map_map]; rfl
          rw [e, gAll_bls, sm_some]
          refine ⟨?_, [], by simp⟩
          rw [decide_eq_true h1, decide_eq_true h2, List.all_map]
          rfl
      · rw [if_neg (by simp; omega)]
        refine ⟨?_, [], by simp⟩
        rw [decide_eq_false h2, decide_eq_false (by omega)]
        simp
    · rw [if_neg (by simp; omega)]
      refine ⟨?_, [], by simp⟩
      rw [decide_eq_false h1]; rfl
  | _ =>
    decreasing_trivial
    (all_goals first | done | trivial | rfl | exact ⟨rfl, rfl⟩ | exact ⟨trivial, trivial⟩ | exact ⟨rfl, [], by simp⟩ | exact ⟨[], by simp⟩)
theorem w_law_is_word {d : D} (hM : Ok M) (hd : dOkq d = true) (hb : dBk d ≤ 2 ^ 20) (q : Q (.bl (wordB d)) M) : Wp (callT (g_law_is_word K) [d] M) Q X := by
  refine call_is (r := .bl (wordB d)) hM rfl ?_ q
  unfold g_law_is_word
  rw [w_body]
  unfold fb_law_is_word
  decreasing_trivial
  rw [gIsi_strq hd]
  cases d with
  | str z =>
    have hz : z.cps.size ≤ 2 ^ 20 := hb
    decreasing_trivial
    rw [gLen_str hz, wordB_str]
    decreasing_trivial
    by_cases h1 : 1 ≤ z.cps.size
    · rw [if_neg (by simp; omega)]
      rw [gLen_str hz]
      decreasing_trivial
      by_cases h2 : z.cps.size ≤ 8
      · rw [if_neg (by simp; omega)]
        refine w_lcP (charsD z) (fun d => !inAbc (chr d)) id hM (pre_chars z h2) ?_ ?_ (fun x hx _ => ?_) ?_
        · refine wi_seq ?_
          decreasing_trivial
          (all_goals first | done | trivial | rfl | exact ⟨rfl, rfl⟩ | exact ⟨trivial, trivial⟩ | exact ⟨rfl, [], by simp⟩ | exact ⟨[], by simp⟩)
        · intro x hx M2 hM2
          obtain ⟨c, rfl, hc⟩ := mem_chars hx
          decreasing_trivial
          have e := notAbc_ok (M := M2) c
          rw [show oNotIn (.str ⟨#[c]⟩) (.str "abcdefghijklmnopqrstuvwxyz") M2 = _ from e, sm_some]
          decreasing_trivial
          exact ⟨rfl, fun _ => rfl⟩
        · obtain ⟨c, rfl, hc⟩ := mem_chars hx
          rfl
        · have ok1 : dOks (charsD z) = true := dOks_mem.mpr fun x hx => by
            obtain ⟨c, rfl, hc⟩ := mem_chars hx
            have : (z.cps.toList.all fun c => decide (c < 16 ^ 8)) = true := hd
            have := List.all_eq_true.mp this c hc
            show ((#[c] : Array Nat).toList.all fun c => decide (c < 16 ^ 8)) = true
            simpa using this
          have s : ∀ d ∈ ((charsD z).filter fun d => !inAbc (chr d)).map id, d ∈ charsD z := fun d hd => by
            rw [List.map_id] at hd; exact (List.mem_filter.mp hd).1
          have d0 : dDeps (charsD z) ≤ 0 := dDeps_le.mpr fun x hx => by
            obtain ⟨c, rfl, hc⟩ := mem_chars hx
            exact Nat.le_refl _
          refine ⟨by omega, ?_⟩
          rw [oEq_nil (sub_ok ok1 s) (by have := sub_dep s; omega), sm_some]
          refine ⟨?_, [], by simp⟩
          rw [decide_eq_true h1, decide_eq_true h2, List.map_id, isEmpty_filter (fun d => inAbc (chr d))]
          unfold charsD
          rw [List.all_map]
          rfl
      · rw [if_pos (by simp; omega)]
        refine ⟨?_, [], by simp⟩
        rw [decide_eq_false h2]
        simp
    · rw [if_pos (by simp; omega)]
      refine ⟨?_, [], by simp⟩
      rw [decide_eq_false h1]; rfl
  | _ =>
    decreasing_trivial
    (all_goals first | done | trivial | rfl | exact ⟨rfl, rfl⟩ | exact ⟨trivial, trivial⟩ | exact ⟨rfl, [], by simp⟩ | exact ⟨[], by simp⟩)
theorem w_is_integer {d : D} (hM : Ok M) (hd : dOk d = true) (q : Q (.bl (isInt d)) M) : Wp (callT (g_is_integer K) [d] M) Q X := by
  refine call_is (r := .bl (isInt d)) hM rfl ?_ q
  unfold g_is_integer
  rw [w_body]
  unfold fb_is_integer
  decreasing_trivial
  rw [gIsi_int hd, gIsi_bool hd]
  cases d <;> first | (unfold intB isBool isInt; decreasing_trivial; (all_goals first | done | trivial | rfl | exact ⟨rfl, rfl⟩ | exact ⟨trivial, trivial⟩ | exact ⟨rfl, [], by simp⟩ | exact ⟨[], by simp⟩)) | (unfold dOk at hd; cases hd)
theorem w_law_is_value {d : D} (hM : Ok M) (hd : dOk d = true) (q : Q (.bl (valB d)) M) : Wp (callT (g_law_is_value K) [d] M) Q X := by
  refine call_is (r := .bl (valB d)) hM rfl ?_ q
  unfold g_law_is_value
  rw [w_body]
  unfold fb_law_is_value
  decreasing_trivial
  rw [gIsi_int hd, gIsi_bool hd]
  cases d with
  | int i =>
    unfold intB isBool
    decreasing_trivial
    rw [pow9]
    decreasing_trivial
    refine ⟨?_, [], by simp⟩
    rw [valB_int]
    by_cases h : i < 0
    · rw [if_pos h]
      by_cases h2 : -1000000000 ≤ i
      · rw [decide_eq_true h2, decide_eq_true (by omega), decide_eq_true (by omega)]; rfl
      · rw [decide_eq_false h2, decide_eq_false (by omega)]; rfl
    · rw [if_neg h, decide_eq_true (show -1000000000 ≤ i by omega), Bool.true_and]
  | bl b => unfold intB isBool; decreasing_trivial; (all_goals first | done | trivial | rfl | exact ⟨rfl, rfl⟩ | exact ⟨trivial, trivial⟩ | exact ⟨rfl, [], by simp⟩ | exact ⟨[], by simp⟩)
  | _ => first | (unfold intB; decreasing_trivial; (all_goals first | done | trivial | rfl | exact ⟨rfl, rfl⟩ | exact ⟨trivial, trivial⟩ | exact ⟨rfl, [], by simp⟩ | exact ⟨[], by simp⟩)) | (unfold dOk at hd; cases hd)
theorem w_is_row {d : D} (hM : Ok M) (hd : raB d = true) (hb : dBk d ≤ 2 ^ 20) (q : Q (.bl (rowB d)) M) : Wp (callT (g_is_row K) [d] M) Q X := by
  refine call_is (r := .bl (rowB d)) hM rfl ?_ q
  unfold g_is_row
  rw [w_body]
  unfold fb_is_row
  decreasing_trivial
  rw [gIsi_tupr hd]
  cases d with
  | tup xs =>
    have hx : ∀ x ∈ xs, dOkq x = true := List.all_eq_true.mp hd
    have hk : dBks xs ≤ 2 ^ 20 := hb
    decreasing_trivial
    match xs, hx, hk with
    | [], _, _ => rw [if_pos (by simp)]; exact ⟨rfl, [], by simp⟩
    | [_], _, _ => rw [if_pos (by simp)]; exact ⟨rfl, [], by simp⟩
    | [_, _], _, _ => rw [if_pos (by simp)]; exact ⟨rfl, [], by simp⟩
    | _ :: _ :: _ :: _ :: r, _, _ =>
      rw [if_pos (by simp; omega)]
      exact ⟨rfl, [], by simp⟩
    | [x, y, z], hx, hk =>
      have o1 := hx x (by simp)
      have o2 := hx y (by simp)
      have o3 := hx z (by simp)
      have b1 := dBks_mem (x := x) (xs := [x, y, z]) (by simp)
      have b2 := dBks_mem (x := y) (xs := [x, y, z]) (by simp)
      have b3 := dBks_mem (x := z) (xs := [x, y, z]) (by simp)
      have e : rowB (.tup [x, y, z]) = (wordB x && (wordB y && valsB z)) := rfl
      rw [if_neg (by simp)]
      decreasing_trivial
      rw [atI0, sm_some]
      refine w_is_name hM o1 (by omega) ?_
      decreasing_trivial
      by_cases h1 : wordB x = true
      rotate_left
      · rw [if_pos (by simpa using h1)]
        refine ⟨?_, [], by simp⟩
        rw [e, Bool.eq_false_iff.mpr h1]; rfl
      rw [if_neg (by simpa using h1)]
      rw [atI1, sm_some]
      refine w_is_name hM o2 (by omega) ?_
      decreasing_trivial
      by_cases h2 : wordB y = true
      rotate_left
      · rw [if_pos (by simpa using h2)]
        refine ⟨?_, [], by simp⟩
        rw [e, h1, Bool.eq_false_iff.mpr h2]; rfl
      rw [if_neg (by simpa using h2)]
      rw [e, h1, h2, Bool.true_and, Bool.true_and]
      have i2 : atI [x, y, z] 2 = some z := atI_nat (i := 2) rfl
      rw [i2]
      decreasing_trivial
      rw [gIsi_tupq o3]
      cases z with
      | tup vs =>
        have hv : dOks vs = true := o3
        have hk3 : dBks vs ≤ 2 ^ 20 := by have : dBks vs ≤ dBks [x, y, .tup vs] := b3; omega
        decreasing_trivial
        rw [valsB_tup]
        by_cases h3 : 1 ≤ vs.length
        rotate_left
        · rw [if_neg (by simp; omega)]
          decreasing_trivial
          refine ⟨?_, [], by simp⟩
          rw [decide_eq_false h3]; rfl
        rw [if_pos (by simp; omega)]
        by_cases h4 : vs.length ≤ 3
        rotate_left
        · rw [decide_eq_false (by omega)]
          decreasing_trivial
          refine ⟨?_, [], by simp⟩
          rw [decide_eq_false h4]; simp
        rw [decide_eq_true (show ((vs.length : Nat) : Int) ≤ 3 by omega)]
        decreasing_trivial
        refine w_lcP vs (fun _ => true) (fun d => .bl (valB d)) hM (by rw [sz]; omega) ?_ ?_ (fun x hx _ => rfl) ?_
        · refine wi_seq ?_
          decreasing_trivial
          (all_goals first | done | trivial | rfl | exact ⟨rfl, rfl⟩ | exact ⟨trivial, trivial⟩ | exact ⟨rfl, [], by simp⟩ | exact ⟨[], by simp⟩)
        · intro u hu M2 hM2
          have ou := dOks_mem.mp hv u hu
          decreasing_trivial
          refine w_is_integer hM2 ou ?_
          decreasing_trivial
          cases u with
          | int i =>
            unfold isInt
            have en : ∀ M : Sto, oNeg (.int 1000000000) M = some (.int (-1000000000)) := fun M => rfl
            decreasing_trivial
            rw [en]
            decreasing_trivial
            show (if decide ((-1000000000 : Int) ≤ i) = true then _ else _)
            rw [valB_int]
            by_cases g1 : -1000000000 ≤ i
            · rw [if_pos (decide_eq_true g1), decide_eq_true g1]; (all_goals first | done | trivial | rfl | exact ⟨rfl, rfl⟩ | exact ⟨trivial, trivial⟩ | exact ⟨rfl, [], by simp⟩ | exact ⟨[], by simp⟩)
            · rw [if_neg (by simpa using g1), decide_eq_false g1]; (all_goals first | done | trivial | rfl | exact ⟨rfl, rfl⟩ | exact ⟨trivial, trivial⟩ | exact ⟨rfl, [], by simp⟩ | exact ⟨[], by simp⟩)
          | _ => first | (unfold isInt valB; decreasing_trivial; (all_goals first | done | trivial | rfl | exact ⟨rfl, rfl⟩ | exact ⟨trivial, trivial⟩ | exact ⟨rfl, [], by simp⟩ | exact ⟨[], by simp⟩)) | (unfold dOk at ou; cases ou)
        · have e : (List.filter (fun _ => true) vs).map (fun d => D.bl (valB d)) = (vs.map valB).map D.bl := by
            rw [filter_yes, List.map_map]; rfl
          rw [e, gAll_bls, sm_some]
          refine ⟨?_, [], by simp⟩
          rw [decide_eq_true h3, decide_eq_true h4, List.all_map]
          rfl
      | _ => decreasing_trivial; exact ⟨rfl, [], by simp⟩
  | _ =>
    decreasing_trivial
    (all_goals first | done | trivial | rfl | exact ⟨rfl, rfl⟩ | exact ⟨trivial, trivial⟩ | exact ⟨rfl, [], by simp⟩ | exact ⟨[], by simp⟩)
theorem w_law_is_row {d : D} (hM : Ok M) (hd : raB d = true) (hb : dBk d ≤ 2 ^ 20) (hdp : dDep d ≤ 59) (q : Q (.bl (rowB d)) M) : Wp (callT (g_law_is_row K) [d] M) Q X := by
  refine call_is (r := .bl (rowB d)) hM rfl ?_ q
  unfold g_law_is_row
  rw [w_body]
  unfold fb_law_is_row
  decreasing_trivial
  rw [gIsi_tupr hd]
  cases d with
  | tup xs =>
    have hx : ∀ x ∈ xs, dOkq x = true := List.all_eq_true.mp hd
    have hk : dBks xs ≤ 2 ^ 20 := hb
    have hp : dDeps xs + 1 ≤ 59 := hdp
    decreasing_trivial
    match xs, hx, hk, hp with
    | [], _, _, _ => rw [if_pos (by simp)]; exact ⟨rfl, [], by simp⟩
    | [_], _, _, _ => rw [if_pos (by simp)]; exact ⟨rfl, [], by simp⟩
    | [_, _], _, _, _ => rw [if_pos (by simp)]; exact ⟨rfl, [], by simp⟩
    | _ :: _ :: _ :: _ :: r, _, _, _ =>
      rw [if_pos (by simp; omega)]
      exact ⟨rfl, [], by simp⟩
    | [x, y, z], hx, hk, hp =>
      have o1 := hx x (by simp)
      have o2 := hx y (by simp)
      have o3 := hx z (by simp)
      have b1 := dBks_mem (x := x) (xs := [x, y, z]) (by simp)
      have b2 := dBks_mem (x := y) (xs := [x, y, z]) (by simp)
      have b3 := dBks_mem (x := z) (xs := [x, y, z]) (by simp)
      have d3 := dDeps_mem (x := z) (xs := [x, y, z]) (by simp)
      have e : rowB (.tup [x, y, z]) = (wordB x && (wordB y && valsB z)) := rfl
      rw [if_neg (by simp)]
      decreasing_trivial
      rw [atI0, sm_some]
      refine w_law_is_word hM o1 (by omega) ?_
      decreasing_trivial
      by_cases h1 : wordB x = true
      rotate_left
      · rw [if_pos (by simpa using h1)]
        refine ⟨?_, [], by simp⟩
        rw [e, Bool.eq_false_iff.mpr h1]; rfl
      rw [if_neg (by simpa using h1)]
      rw [atI1, sm_some]
      refine w_law_is_word hM o2 (by omega) ?_
      decreasing_trivial
      by_cases h2 : wordB y = true
      rotate_left
      · rw [if_pos (by simpa using h2)]
        refine ⟨?_, [], by simp⟩
        rw [e, h1, Bool.eq_false_iff.mpr h2]; rfl
      rw [if_neg (by simpa using h2)]
      rw [e, h1, h2, Bool.true_and, Bool.true_and]
      have i2 : atI [x, y, z] 2 = some z := atI_nat (i := 2) rfl
      simp only [i2]
      decreasing_trivial
      rw [gIsi_tupq o3]
      cases z with
      | tup vs =>
        have hv : dOks vs = true := o3
        have hk3 : dBks vs ≤ 2 ^ 20 := by have : dBks vs ≤ dBks [x, y, .tup vs] := b3; omega
        have hd3 : dDeps vs + 1 ≤ dDeps [x, y, .tup vs] := d3
        decreasing_trivial
        rw [valsB_tup]
        by_cases h3 : 1 ≤ vs.length
        rotate_left
        · rw [if_pos (by simp; omega)]
          refine ⟨?_, [], by simp⟩
          rw [decide_eq_false h3]; rfl
        rw [if_neg (by simp; omega)]
        by_cases h4 : vs.length ≤ 3
        rotate_left
        · rw [if_pos (by simp; omega)]
          refine ⟨?_, [], by simp⟩
          rw [decide_eq_false h4]; simp
        rw [if_neg (by simp; omega)]
        refine w_lcP vs (fun d => !valB d) id hM (by rw [sz]; omega) ?_ ?_ (fun u hu _ => cl_dOk (dOks_mem.mp hv u hu)) ?_
        · refine wi_seq ?_
          decreasing_trivial
          rw [i2]
          decreasing_trivial
          (all_goals first | done | trivial | rfl | exact ⟨rfl, rfl⟩ | exact ⟨trivial, trivial⟩ | exact ⟨rfl, [], by simp⟩ | exact ⟨[], by simp⟩)
        · intro u hu M2 hM2
          decreasing_trivial
          refine ⟨w_law_is_value hM2 (dOks_mem.mp hv u hu) ?_, fun _ => rfl⟩
          decreasing_trivial
          (all_goals first | done | trivial | rfl | exact ⟨rfl, rfl⟩ | exact ⟨trivial, trivial⟩ | exact ⟨rfl, [], by simp⟩ | exact ⟨[], by simp⟩)
        · have s : ∀ d ∈ (vs.filter fun d => !valB d).map id, d ∈ vs := fun d hd => by
            rw [List.map_id] at hd; exact (List.mem_filter.mp hd).1
          refine ⟨by omega, ?_⟩
          rw [oEq_nil (sub_ok hv s) (by have := sub_dep s; omega), sm_some]
          refine ⟨?_, [], by simp⟩
          rw [decide_eq_true h3, decide_eq_true h4, List.map_id, isEmpty_filter valB]
          rfl
      | _ => decreasing_trivial; exact ⟨rfl, [], by simp⟩
  | _ =>
    decreasing_trivial
    (all_goals first | done | trivial | rfl | exact ⟨rfl, rfl⟩ | exact ⟨trivial, trivial⟩ | exact ⟨rfl, [], by simp⟩ | exact ⟨[], by simp⟩)
end
end L2.MK.W_k14

end

section
set_option Elab.async false
set_option linter.all false
set_option maxRecDepth 100000
set_option maxHeartbeats 2000000
set_option autoImplicit false
set_option exponentiation.threshold 2000
namespace L2.MK.W_k14
local macro_rules
  | `(tactic| decreasing_trivial) => `(tactic| try simp only [w_bind, w_pure, w_pure', w_opt, w_var, w_C, w_bin, w_un, w_call, w_fun, w_nil, w_cons, w_tup, w_lst, w_lstM, w_dctM, w_isBl, w_bTru, w_bOf, w_and, w_or, w_not, wb_and, wb_or, wb_not, wb_yes, w_if, w_chain, w_cut, w_cutM, w_sNo, w_isI, w_sAt, w_meth, w_setd,
  ws_skip, ws_seq, ws_exp, ws_ret, ws_retN, ws_if, ws_asg, ws_gN, ws_gNils, ws_gConss, ws_gTup, ws_gSub, ws_raise, ws_try, ws_noRet, sm_some,
  startD, List.map_cons, List.map_nil, List.length_cons, List.length_nil, List.replicate, List.cons_append, List.nil_append, List.getElem?_cons_zero, List.getElem?_cons_succ, List.set_cons_zero, List.set_cons_succ, Option.join_some, Option.join_none, Nat.reduceAdd, Nat.reduceSub, Nat.add_zero, Nat.zero_add,
  sqD_lst, sqD_tup, sqD_rol, gLen_lst, gLen_tup, gInt_int, gInt_bl, gAbs_int, oAdd_int, oSub_int, oLt_int, oLe_int, oGt_int, oGe_int, oIx_lst, oIx_tup, oEq_int, oNe_int, true_and, and_true, true_implies, seqF_lst, seqF_tup, seqF_str, sqF_lst, sqF_tup, truD_bl, isStr, isTupB, isLst, ↓reduceIte, Bool.false_eq_true, Bool.not_true, Bool.not_false, setPt_nm, setPt_tp, setPts_nil, setPts_cons, wipeD_nil, wipeD_cons])
open PySem PySem.Spec PyProof.Rows PySem.W He
section
variable {K : Frag} {M : Sto} {Q : D → Sto → Prop} {X : XP}
def nmR : D → Str
  | .tup (.str n :: _) => n
  | _ => ""
def tbR : D → Str
  | .tup (_ :: .str t :: _) => t
  | _ => ""
def toI : D → Int
  | .int i => i
  | _ => 0
def vsR : D → List Int
  | .tup [_, _, .tup vs] => vs.map toI
  | _ => []
abbrev R3 (n t : Str) (vs : List Int) : D := .tup [.str n, .str t, .tup (vs.map .int)]
theorem toI_map (vs : List Int) : (vs.map D.int).map toI = vs := by
  rw [List.map_map]
  exact List.map_id vs
theorem vsR_3 (n t : Str) (vs : List Int) : vsR (R3 n t vs) = vs := toI_map vs
theorem row_shape {d : D} (h : rowB d = true) : ∃ (n t : Str) (vs : List Int), d = R3 n t vs ∧ 1 ≤ vs.length ∧ vs.length ≤ 3 ∧ (∀ v ∈ vs, -1000000000 ≤ v ∧ v ≤ 1000000000) ∧ wordB (.str n) = true ∧ wordB (.str t) = true := by
  unfold rowB at h
  split at h
  · rename_i n t v
    simp only [Bool.and_eq_true] at h
    obtain ⟨h1, h2, h3⟩ := h
    have s : ∀ {d : D}, wordB d = true → ∃ z, d = .str z := fun {d} h => by
      unfold wordB at h
      split at h
      · exact ⟨_, rfl⟩
      · cases h
    obtain ⟨n, rfl⟩ := s h1
    obtain ⟨t, rfl⟩ := s h2
    unfold valsB at h3
    split at h3
    · rename_i xs
      simp only [Bool.and_eq_true, decide_eq_true_eq] at h3
      obtain ⟨a, b, c⟩ := h3
      have iv : ∀ x ∈ xs, x = .int (toI x) ∧ -1000000000 ≤ toI x ∧ toI x ≤ 1000000000 := fun x hx => by
        have := List.all_eq_true.mp c x hx
        unfold valB at this
        split at this
        · simp only [Bool.and_eq_true, decide_eq_true_eq] at this
          exact ⟨rfl, this.1, this.2⟩
        · cases this
      refine ⟨n, t, xs.map toI, ?_, by simpa using a, by simpa using b, fun v hv => ?_, h1, h2⟩
      · have e : xs = (xs.map toI).map D.int := by
          rw [List.map_map]
          exact (List.map_id xs).symm.trans (List.map_congr_left fun x hx => (iv x hx).1)
        show _ = D.tup [.str n, .str t, .tup ((xs.map toI).map D.int)]
        rw [← e]
      · obtain ⟨x, hx, rfl⟩ := List.mem_map.mp hv
        exact (iv x hx).2
    · cases h3
  · cases h
def rsn (xs : List D) (k : Nat) : Option Str :=
  if rowB (atD xs k) = true then
    if ((xs.take k).any fun y => decide (nmR (atD xs k) = nmR y)) = true then some "name"
    else if ((xs.take k).any fun y => decide (tbR (atD xs k) = tbR y) && !decide ((vsR (atD xs k)).length = (vsR y).length)) = true then some "places"
    else if ((xs.take k).any fun y => decide (tbR (atD xs k) = tbR y ∧ vsR (atD xs k) = vsR y)) = true then some "repeated"
    else none
  else some "row"
def rowsR : D := .tup [.str "rows"]
def terrL (xs : List D) : D := if xs.length ≤ 6 then
    match firstK (fun k => (rsn xs k).isSome) xs.length with
    | some k => .tup [.str ((rsn xs k).getD ""), .int (k : Nat)]
    | none => .non
  else rowsR
theorem terrL_at {xs : List D} {i : Nat} {s : Str} (hl : xs.length ≤ 6) (hi : i < xs.length) (h : ∀ j, j < i → rsn xs j = none) (e : rsn xs i = some s) : terrL xs = .tup [.str s, .int (i : Nat)] := by
  unfold terrL
  rw [if_pos hl, firstK_some hi (fun j hj => by rw [h j hj]; rfl) (by rw [e]; rfl)]
  simp only [e, Option.getD_some]
theorem terrL_non {xs : List D} (hl : xs.length ≤ 6) (h : ∀ j, j < xs.length → rsn xs j = none) : terrL xs = .non := by
  unfold terrL
  rw [if_pos hl, firstK_none (fun j hj => by rw [h j hj]; rfl)]
theorem terrL_big {xs : List D} (hl : ¬ xs.length ≤ 6) : terrL xs = rowsR := by
  unfold terrL
  rw [if_neg hl]
theorem terrL_inv {xs : List D} (h : terrL xs = .non) : xs.length ≤ 6 ∧ ∀ j, j < xs.length → rsn xs j = none := by
  unfold terrL at h
  split at h
  · rename_i hl
    refine ⟨hl, fun j hj => ?_⟩
    split at h
    · cases h
    · rename_i e
      unfold firstK at e
      rw [List.find?_eq_none] at e
      have := e j (List.mem_range.mpr hj)
      simpa using this
  · cases h
theorem rsn_row {xs : List D} {j : Nat} (h : rsn xs j = none) : rowB (atD xs j) = true := by
  unfold rsn at h
  split at h
  · assumption
  · cases h
theorem rsn_txt {xs : List D} {k : Nat} {s : Str} (h : rsn xs k = some s) : dOk (.str s) = true := by
  unfold rsn at h
  split at h
  · split at h
    · cases h; decide
    · split at h
      · cases h; decide
      · split at h
        · cases h; decide
        · cases h
  · cases h; decide
theorem terrL_ok (xs : List D) : dOk (terrL xs) = true ∧ dDep (terrL xs) ≤ 1 := by
  unfold terrL
  split
  · rename_i hl
    split
    · rename_i k e
      have hk : k < xs.length := by
        unfold firstK at e
        rw [List.find?_range_eq_some] at e
        simpa using e.2.1
      refine ⟨?_, Nat.le_refl _⟩
      have hs : dOk (.str ((rsn xs k).getD "")) = true := by
        cases e2 : rsn xs k with
        | none => rfl
        | some s => exact rsn_txt e2
      show (dOk (.str _) && (dOk (.int (k : Nat)) && true)) = true
      rw [hs, Bool.true_and, Bool.and_true]
      show (decide ((-999999999999 : Int) ≤ (k : Nat)) && decide (((k : Nat) : Int) ≤ 999999999999)) = true
      rw [decide_eq_true (by omega), decide_eq_true (by omega)]; rfl
    · exact ⟨rfl, by decide⟩
  · exact ⟨by decide, by decide⟩
/-! equality of rows -/
theorem pys_is (vs : List Int) : D.pys (vs.map .int) = some (vs.map .int) := by
  induction vs with
  | nil => unfold D.pys; rfl
  | cons b r ih => rw [List.map_cons, D.pys, ih]; rfl
theorem py_is (vs : List Int) : D.py (.tup (vs.map .int)) = some (.tuple (vs.map .int)) := by
  unfold D.py; rw [pys_is]; rfl
theorem py_tl (t : Str) (vs : List Int) : D.py (.tup [.str t, .tup (vs.map .int)]) = some (.tuple [.str t, .tuple (vs.map .int)]) := by
  unfold D.py D.pys D.pys D.pys
  rw [py_is]; rfl
theorem py_R3 (n t : Str) (vs : List Int) : D.py (R3 n t vs) = some (.tuple [.str n, .str t, .tuple (vs.map .int)]) := by
  unfold R3 D.py D.pys D.pys D.pys D.pys
  rw [py_is]; rfl
theorem eqv_is : ∀ a b : List Int, PyData.eqvAll (a.map .int) (b.map .int) = decide (a = b)
  | [], [] => rfl
  | [], _ :: _ => rfl
  | _ :: _, [] => rfl
  | x :: r, y :: s => by
    rw [List.map_cons, List.map_cons, PyData.eqvAll, eqv_is r s]
    show ((x == y) && _) = _
    by_cases h : x = y
    · subst h; simp
    · have : ¬ (x :: r = y :: s) := fun z => h (List.cons.inj z).1
      rw [decide_eq_false this, beq_false_of_ne h]; rfl
theorem eqv_tl (t t' : Str) (vs vs' : List Int) : eqv (.tup [.str t, .tup (vs.map .int)]) (.tup [.str t', .tup (vs'.map .int)]) = decide (t = t' ∧ vs = vs') := by
  unfold eqv pyD
  rw [py_tl, py_tl]
  show ((t == t') && (PyData.eqvAll (vs.map .int) (vs'.map .int) && true)) = _
  rw [eqv_is, Bool.and_true]
  by_cases h : t = t'
  · subst h; simp
  · rw [beq_false_of_ne h, decide_eq_false (p := t = t' ∧ vs = vs') fun z => h z.1]; rfl
theorem eqv_R3 (n n' t t' : Str) (vs vs' : List Int) : eqv (R3 n t vs) (R3 n' t' vs') = decide (n = n' ∧ t = t' ∧ vs = vs') := by
  unfold eqv pyD
  rw [py_R3, py_R3]
  show ((n == n') && ((t == t') && (PyData.eqvAll (vs.map .int) (vs'.map .int) && true))) = _
  rw [eqv_is, Bool.and_true]
  by_cases h : n = n'
  · subst h
    by_cases h : t = t'
    · subst h; simp
    · rw [beq_false_of_ne h, decide_eq_false (p := n = n ∧ t = t' ∧ vs = vs') fun z => h z.2.1]; simp
  · rw [beq_false_of_ne h, decide_eq_false (p := n = n' ∧ t = t' ∧ vs = vs') fun z => h z.1]; rfl
theorem ok_R3 {n t : Str} {vs : List Int} (h : dOk (R3 n t vs) = true) : dOk (.str n) = true ∧ dOk (.str t) = true ∧ dOks (vs.map .int) = true := by
  have h : (dOk (.str n) && (dOk (.str t) && (dOk (.tup (vs.map .int)) && true))) = true := h
  simp only [Bool.and_eq_true, Bool.and_true] at h
  exact h
theorem ok_tl {t : Str} {vs : List Int} (h1 : dOk (.str t) = true) (h2 : dOks (vs.map .int) = true) : dOk (.tup [.str t, .tup (vs.map .int)]) = true := by
  show (dOk (.str t) && (dOks (vs.map .int) && true)) = true
  rw [h1, h2]; rfl
theorem dep_is (vs : List Int) : dDeps (vs.map D.int) = 0 := by
  induction vs with
  | nil => rfl
  | cons a r ih => rw [List.map_cons, dDeps, ih]; rfl
theorem dep_tl (t : Str) (vs : List Int) : dDep (.tup [.str t, .tup (vs.map .int)]) ≤ 60 := by
  have e : dDep (.tup [.str t, .tup (vs.map .int)]) = max 0 (max (dDeps (vs.map D.int) + 1) 0) + 1 := rfl
  rw [e, dep_is]; decide
theorem dep_R3 (n t : Str) (vs : List Int) : dDep (R3 n t vs) ≤ 2 := by
  have e : dDep (R3 n t vs) = max 0 (max 0 (max (dDeps (vs.map D.int) + 1) 0)) + 1 := rfl
  rw [e, dep_is]; decide
theorem cut1 (a b c : D) : oCut (.tup [a, b, c]) (some 1) none M = some (.tup [b, c]) := rfl
theorem w_enumM {f : AF} {δ : Env} {P : Nat × ID → Sto → Prop} (h : Wp (f δ M) (fun ds M1 => ∃ d xs, ds = [d] ∧ sqD M1 d = some xs ∧ P (xs.length, fun M i => (sqD M d).map fun zs => zs[i]?.map fun x => .tup [.int (i : Nat), x]) M1) X) : Wp (iArgs wEnum f δ M) P X := by
  unfold iArgs
  rw [w_bind]
  refine h.mono fun ds M1 ⟨d, xs, e, e2, p⟩ => ?_
  subst e
  have e3 : wEnum [d] M1 = some (xs.length, fun M i => (sqD M d).map fun zs => zs[i]?.map fun x => .tup [.int (i : Nat), x]) := by
    show (sqD M1 d).map _ = _
    rw [e2]; rfl
  unfold evI
  rw [e3]
  exact wp_ok.mpr p
theorem any_swap {α : Type} {p q : α → Bool} {xs : List α} (h : ∀ x ∈ xs, p x = q x) : xs.any p = xs.any q := by
  induction xs with
  | nil => rfl
  | cons a r ih => rw [List.any_cons, List.any_cons, h a (List.mem_cons_self ..), ih fun x hx => h x (List.mem_cons_of_mem _ hx)]
/-- the rows ahead of place i -/
theorem ahead {xs : List D} {i : Nat} (h : ∀ j, j < i → rsn xs j = none) {y : D} (hy : y ∈ xs.take i) : rowB y = true := by
  obtain ⟨j, hj, e⟩ := mem_take hy
  have := rsn_row (h j hj)
  rwa [atD_get e] at this
theorem w_tables_error {v : D} {xs : List D} (hM : Ok M) (hs : SqM M v xs) (hx : dOks xs = true) (bk : dBks xs ≤ 2 ^ 20) (q : Q (terrL xs) M) : Wp (callT (g_tables_error K) [v, .int 6] M) Q X := by
  refine call_is (r := terrL xs) hM (cl_dOk (terrL_ok xs).1) ?_ q
  unfold g_tables_error
  rw [w_body]
  unfold fb_tables_error
  decreasing_trivial
  refine ⟨by rw [sz]; decide, ?_⟩
  rw [hs.is]
  decreasing_trivial
  rw [hs.len]
  decreasing_trivial
  by_cases h6 : xs.length ≤ 6
  rotate_left
  · rw [if_pos (by simp; omega)]
    refine ⟨by rw [sz]; decide, ?_, [], by simp⟩
    rw [terrL_big h6]; rfl
  rw [if_neg (by simp; omega)]
  refine ws_forI (fun zs i δ M' => M = M' ∧ zs = enumD 0 xs ∧ (∃ u2 u3 u4 u5 u6 u7, δ = [some v, some (.int 6), u2, u3, u4, u5, u6, u7]) ∧ ∀ j, j < i → rsn xs j = none) ?_
  refine w_enumM ?_
  decreasing_trivial
  refine ⟨v, xs, rfl, hs.sq, enumD 0 xs, (enumD_length xs 0).symm, fun i δ M' ⟨eM, _⟩ => ?_, ⟨rfl, ⟨_, _, _, _, _, _, rfl⟩, fun j hj => by omega⟩, fun i x δ M' hxi ⟨eM, _, ⟨u2, u3, u4, u5, u6, u7, ed⟩, hj⟩ => ?_, fun δ M' ⟨eM, _, ⟨u2, u3, u4, u5, u6, u7, ed⟩, hj⟩ => ?_⟩
  · subst eM
    rw [hs.sq, enumD_at]
    simp
  · subst eM ed
    obtain ⟨y, ey, rfl, hi⟩ := enum_get hxi
    have hm : y ∈ xs := List.mem_of_getElem? ey
    have oy := dOks_mem.mp hx y hm
    have aty : atD xs i = y := atD_get ey
    decreasing_trivial
    refine w_is_row hM (raB_of oy) (bk_small hm bk) ?_
    decreasing_trivial
    by_cases hr : rowB y = true
    rotate_left
    · rw [if_pos (by simpa using hr)]
      refine ⟨by rw [sz]; decide, ?_, [], by simp⟩
      rw [terrL_at h6 hi hj (s := "row") (by unfold rsn; rw [aty, if_neg hr])]
    rw [if_neg (by simpa using hr)]
    obtain ⟨n, t, vs, rfl, v1, v3, _, _, _⟩ := row_shape hr
    obtain ⟨o1, o2, o3⟩ := ok_R3 oy
    have tsub : ∀ d ∈ xs.take i, d ∈ xs := fun d h => List.mem_of_mem_take h
    have htl : (xs.take i).length ≤ sizeLine := by rw [List.length_take, sz]; omega
    decreasing_trivial
    have cutw : ∀ {δ' : Env} {P : List D → Sto → Prop}, True := fun {_ _} => trivial
    refine w_lcP (xs.take i) (fun _ => true) (fun y => .bl (decide (n = nmR y))) hM htl ?_ (fun y hy M2 hM2 => ?_) (fun y hy _ => rfl) ?_
    · refine wi_seq ?_
      decreasing_trivial
      obtain ⟨w, ew, hw⟩ := hs.cut none (some (i : Int))
      rw [ew]
      decreasing_trivial
      rw [hw.seq, cut_to (by omega)]
      decreasing_trivial
      (all_goals first | done | trivial | rfl | exact ⟨rfl, rfl⟩ | exact ⟨trivial, trivial⟩ | exact ⟨rfl, [], by simp⟩ | exact ⟨[], by simp⟩)
    · obtain ⟨n', t', vs', rfl, _⟩ := row_shape (ahead hj hy)
      obtain ⟨p1, p2, p3⟩ := ok_R3 (dOks_mem.mp hx _ (tsub _ hy))
      decreasing_trivial
      rw [atI0]
      decreasing_trivial
      rw [oEq_str o1 p1]
      decreasing_trivial
      (all_goals first | done | trivial | rfl | exact ⟨rfl, rfl⟩ | exact ⟨trivial, trivial⟩ | exact ⟨rfl, [], by simp⟩ | exact ⟨[], by simp⟩)
    have e1 : (List.filter (fun _ => true) (xs.take i)).map (fun y => D.bl (decide (n = nmR y))) = ((xs.take i).map fun y => decide (n = nmR y)).map D.bl := by
      rw [filter_yes, List.map_map]; rfl
    rw [e1, gAny_bls, sm_some, List.any_map]
    decreasing_trivial
    have f1 : ((xs.take i).any (id ∘ fun y => decide (n = nmR y))) = (xs.take i).any fun y => decide (nmR (atD xs i) = nmR y) := by rw [aty]; rfl
    rw [f1]
    by_cases h1 : ((xs.take i).any fun y => decide (nmR (atD xs i) = nmR y)) = true
    · rw [if_pos h1]
      refine ⟨by rw [sz]; decide, ?_, [], by simp⟩
      rw [terrL_at h6 hi hj (s := "name") (by unfold rsn; rw [if_pos (by rw [aty]; exact hr), if_pos h1])]
    rw [if_neg h1]
    refine w_lcP (xs.take i) (fun _ => true) (fun y => .bl (decide (t = tbR y) && !decide (vs.length = (vsR y).length))) hM htl ?_ (fun y hy M2 hM2 => ?_) (fun y hy _ => rfl) ?_
    · refine wi_seq ?_
      decreasing_trivial
      obtain ⟨w, ew, hw⟩ := hs.cut none (some (i : Int))
      rw [ew]
      decreasing_trivial
      rw [hw.seq, cut_to (by omega)]
      decreasing_trivial
      (all_goals first | done | trivial | rfl | exact ⟨rfl, rfl⟩ | exact ⟨trivial, trivial⟩ | exact ⟨rfl, [], by simp⟩ | exact ⟨[], by simp⟩)
    · obtain ⟨n', t', vs', rfl, _⟩ := row_shape (ahead hj hy)
      obtain ⟨p1, p2, p3⟩ := ok_R3 (dOks_mem.mp hx _ (tsub _ hy))
      decreasing_trivial
      rw [atI1]
      decreasing_trivial
      rw [oEq_str o2 p2]
      decreasing_trivial
      have i2 : atI [D.str n', .str t', .tup (vs'.map .int)] 2 = some (.tup (vs'.map .int)) := atI_nat (i := 2) rfl
      rw [i2]
      decreasing_trivial
      rw [vsR_3]
      have ii : decide ((((vs.map D.int).length : Nat) : Int) = ((vs'.map D.int).length : Nat)) = decide (vs.length = vs'.length) := by
        rw [List.length_map, List.length_map]
        by_cases h : vs.length = vs'.length
        · rw [decide_eq_true h, decide_eq_true (by rw [h])]
        · rw [decide_eq_false h]
          exact decide_eq_false fun z => h (Int.ofNat.inj z)
      rw [ii]
      show (if decide (t = t') = true then _ else _)
      by_cases h : t = t'
      · rw [if_pos (decide_eq_true h)]
        show _ = D.bl (decide (t = t') && _)
        rw [decide_eq_true h]; rfl
      · rw [if_neg (by simpa using h)]
        show _ = D.bl (decide (t = t') && _)
        rw [decide_eq_false h]; rfl
    have e2 : (List.filter (fun _ => true) (xs.take i)).map (fun y => D.bl (decide (t = tbR y) && !decide (vs.length = (vsR y).length))) = ((xs.take i).map fun y => decide (t = tbR y) && !decide (vs.length = (vsR y).length)).map D.bl := by
      rw [filter_yes, List.map_map]; rfl
    rw [e2, gAny_bls, sm_some, List.any_map]
    decreasing_trivial
    have f2 : ((xs.take i).any (id ∘ fun y => decide (t = tbR y) && !decide (vs.length = (vsR y).length))) = (xs.take i).any fun y => decide (tbR (atD xs i) = tbR y) && !decide ((vsR (atD xs i)).length = (vsR y).length) := by rw [aty, vsR_3]; rfl
    rw [f2]
    by_cases h2 : ((xs.take i).any fun y => decide (tbR (atD xs i) = tbR y) && !decide ((vsR (atD xs i)).length = (vsR y).length)) = true
    · rw [if_pos h2]
      refine ⟨by rw [sz]; decide, ?_, [], by simp⟩
      rw [terrL_at h6 hi hj (s := "places") (by unfold rsn; rw [if_pos (by rw [aty]; exact hr), if_neg h1, if_pos h2])]
    rw [if_neg h2]
    refine w_lcP (xs.take i) (fun _ => true) (fun y => .bl (decide (t = tbR y ∧ vs = vsR y))) hM htl ?_ (fun y hy M2 hM2 => ?_) (fun y hy _ => rfl) ?_
    · refine wi_seq ?_
      decreasing_trivial
      obtain ⟨w, ew, hw⟩ := hs.cut none (some (i : Int))
      rw [ew]
      decreasing_trivial
      rw [hw.seq, cut_to (by omega)]
      decreasing_trivial
      (all_goals first | done | trivial | rfl | exact ⟨rfl, rfl⟩ | exact ⟨trivial, trivial⟩ | exact ⟨rfl, [], by simp⟩ | exact ⟨[], by simp⟩)
    · obtain ⟨n', t', vs', rfl, _⟩ := row_shape (ahead hj hy)
      obtain ⟨p1, p2, p3⟩ := ok_R3 (dOks_mem.mp hx _ (tsub _ hy))
      decreasing_trivial
      rw [cut1, cut1]
      decreasing_trivial
      have e : oEq (.tup [.str t, .tup (vs.map .int)]) (.tup [.str t', .tup (vs'.map .int)]) M2 = some (.bl (decide (t = t' ∧ vs = vs'))) := by
        unfold oEq
        rw [eqD_ok (ok_tl o2 o3) (ok_tl p2 p3) (dep_tl t vs), eqv_tl]; rfl
      rw [e, vsR_3]
      decreasing_trivial
      (all_goals first | done | trivial | rfl | exact ⟨rfl, rfl⟩ | exact ⟨trivial, trivial⟩ | exact ⟨rfl, [], by simp⟩ | exact ⟨[], by simp⟩)
    have e3 : (List.filter (fun _ => true) (xs.take i)).map (fun y => D.bl (decide (t = tbR y ∧ vs = vsR y))) = ((xs.take i).map fun y => decide (t = tbR y ∧ vs = vsR y)).map D.bl := by
      rw [filter_yes, List.map_map]; rfl
    rw [e3, gAny_bls, sm_some, List.any_map]
    decreasing_trivial
    have f3 : ((xs.take i).any (id ∘ fun y => decide (t = tbR y ∧ vs = vsR y))) = (xs.take i).any fun y => decide (tbR (atD xs i) = tbR y ∧ vsR (atD xs i) = vsR y) := by rw [aty, vsR_3]; rfl
    rw [f3]
    by_cases h3 : ((xs.take i).any fun y => decide (tbR (atD xs i) = tbR y ∧ vsR (atD xs i) = vsR y)) = true
    · rw [if_pos h3]
      refine ⟨by rw [sz]; decide, ?_, [], by simp⟩
      rw [terrL_at h6 hi hj (s := "repeated") (by unfold rsn; rw [if_pos (by rw [aty]; exact hr), if_neg h1, if_neg h2, if_pos h3])]
    rw [if_neg h3]
    refine ⟨⟨_, _, _, _, _, _, rfl⟩, fun j hji => ?_⟩
    rcases Nat.lt_or_eq_of_le (Nat.le_of_lt_succ hji) with z | z
    · exact hj j z
    · subst z
      unfold rsn
      rw [if_pos (by rw [aty]; exact hr), if_neg h1, if_neg h2, if_neg h3]
  · subst eM ed
    rw [enumD_length] at hj
    decreasing_trivial
    exact ⟨(terrL_non h6 hj).symm, [], by simp⟩
theorem w_tables_errorN {v : D} (hM : Ok M) (hv : dOkq v = true ∨ ∃ C fs, v = .ins C fs ∧ C = "Tables") (hn : (isLst v || isTupB v) = false) (hk : gIsi K ["Tables"] ["InvalidTables", "MarkError"] [v, .tup [.ty "list", .ty "tuple"]] M = some (.bl false)) (q : Q rowsR M) : Wp (callT (g_tables_error K) [v, .int 6] M) Q X := by
  refine call_is (r := rowsR) hM rfl ?_ q
  unfold g_tables_error
  rw [w_body]
  unfold fb_tables_error
  decreasing_trivial
  refine ⟨by rw [sz]; decide, ?_⟩
  rw [hk]
  decreasing_trivial
  refine ⟨by rw [sz]; decide, rfl, [], by simp⟩
end
end L2.MK.W_k14

end

section
set_option Elab.async false
set_option linter.all false
set_option maxRecDepth 100000
set_option maxHeartbeats 2000000
set_option autoImplicit false
set_option exponentiation.threshold 2000
namespace L2.MK.W_k14
local macro_rules
  | `(tactic| decreasing_trivial) => `(tactic| try simp only [w_bind, w_pure, w_pure', w_opt, w_var, w_C, w_bin, w_un, w_call, w_fun, w_nil, w_cons, w_tup, w_lst, w_lstM, w_dctM, w_isBl, w_bTru, w_bOf, w_and, w_or, w_not, wb_and, wb_or, wb_not, wb_yes, w_if, w_chain, w_cut, w_cutM, w_sNo, w_isI, w_sAt, w_meth, w_setd,
  ws_skip, ws_seq, ws_exp, ws_ret, ws_retN, ws_if, ws_asg, ws_gN, ws_gNils, ws_gConss, ws_gTup, ws_gSub, ws_raise, ws_try, ws_noRet, sm_some,
  startD, List.map_cons, List.map_nil, List.length_cons, List.length_nil, List.replicate, List.cons_append, List.nil_append, List.getElem?_cons_zero, List.getElem?_cons_succ, List.set_cons_zero, List.set_cons_succ, Option.join_some, Option.join_none, Nat.reduceAdd, Nat.reduceSub, Nat.add_zero, Nat.zero_add,
  sqD_lst, sqD_tup, sqD_rol, gLen_lst, gLen_tup, gInt_int, gInt_bl, gAbs_int, oAdd_int, oSub_int, oLt_int, oLe_int, oGt_int, oGe_int, oIx_lst, oIx_tup, oEq_int, oNe_int, true_and, and_true, true_implies, seqF_lst, seqF_tup, seqF_str, sqF_lst, sqF_tup, truD_bl, isStr, isTupB, isLst, ↓reduceIte, Bool.false_eq_true, Bool.not_true, Bool.not_false, setPt_nm, setPt_tp, setPts_nil, setPts_cons, wipeD_nil, wipeD_cons])
open PySem PySem.Spec PyProof.Rows PySem.W He
section
variable {K : Frag} {M : Sto} {Q : D → Sto → Prop} {X : XP}
theorem gIsi_lstq {Ci Ce : List Str} {d : D} (h : dOkq d = true) : gIsi K Ci Ce [d, .ty "list"] M = some (.bl (isLst d)) := by
  cases d <;> first | rfl | (unfold dOkq dOk at h; cases h)
def tlR (y : D) : D := .tup [.str (tbR y), .tup ((vsR y).map .int)]
theorem tlR_3 (n t : Str) (vs : List Int) : tlR (R3 n t vs) = .tup [.str t, .tup (vs.map .int)] := by
  unfold tlR
  rw [vsR_3]; rfl
theorem inD_strs {n : Str} {ys : List D} (h : dOk (.str n) = true) (f : D → Str) (hy : ∀ y ∈ ys, dOk (.str (f y)) = true) : oIn (.str n) (.lst (ys.map fun y => .str (f y))) M = some (.bl (ys.any fun y => decide (n = f y))) := by
  unfold oIn
  rw [inD_ok h (dOks_mem.mpr fun d hd => by
    obtain ⟨y, hy1, rfl⟩ := List.mem_map.mp hd
    exact hy y hy1) (Nat.zero_le _), List.any_map]
  show some (D.bl _) = _
  congr 2
  refine any_swap fun y hy1 => ?_
  show eqv (.str (f y)) (.str n) = _
  rw [eqv_str]
  by_cases e : f y = n
  · rw [decide_eq_true e, decide_eq_true e.symm]
  · rw [decide_eq_false e, decide_eq_false fun z => e z.symm]
theorem inD_tls {t : Str} {vs : List Int} {ys : List D} (h1 : dOk (.str t) = true) (h2 : dOks (vs.map .int) = true) (hy : ∀ y ∈ ys, dOk (tlR y) = true) : oIn (.tup [.str t, .tup (vs.map .int)]) (.lst (ys.map tlR)) M = some (.bl (ys.any fun y => decide (t = tbR y ∧ vs = vsR y))) := by
  unfold oIn
  rw [inD_ok (ok_tl h1 h2) (dOks_mem.mpr fun d hd => by
    obtain ⟨y, hy1, rfl⟩ := List.mem_map.mp hd
    exact hy y hy1) (dep_tl t vs), List.any_map]
  show some (D.bl _) = _
  congr 2
  refine any_swap fun y hy1 => ?_
  show eqv (.tup [.str (tbR y), .tup ((vsR y).map .int)]) (.tup [.str t, .tup (vs.map .int)]) = _
  rw [eqv_tl]
  by_cases e : t = tbR y ∧ vs = vsR y
  · rw [decide_eq_true e, decide_eq_true ⟨e.1.symm, e.2.symm⟩]
  · rw [decide_eq_false e, decide_eq_false fun z => e ⟨z.1.symm, z.2.symm⟩]
theorem lt_split {b1 b2 : Bool} (h : (b1 || b2) = true) {A G : Prop} (g : G) : Sm (some (D.bl b1)) fun d => Sm (truD M d) fun b => if (!b) = true then (Sm (some (D.bl b2)) fun d => Sm (truD M d) fun b => if (!b) = true then A else G) else G := by
  cases b1
  · cases b2
    · cases h
    · exact g
  · exact g
theorem w_law_expected {v : D} {xs : List D} (hM : Ok M) (hs : Sq v xs) (hv : dOk v = true) (bk : dBks xs ≤ 2 ^ 20) (dp : dDeps xs ≤ 50) (q : Q (terrL xs) M) : Wp (callT (g_law_expected K) [v] M) Q X := by
  have hx := hs.ok hv
  refine call_is (r := terrL xs) hM (cl_dOk (terrL_ok xs).1) ?_ q
  unfold g_law_expected
  rw [w_body]
  unfold fb_law_expected
  decreasing_trivial
  rw [gIsi_lstq (dOkq_of hv), gIsi_tupq (dOkq_of hv)]
  refine lt_split hs.is ?_
  decreasing_trivial
  rw [hs.len]
  decreasing_trivial
  by_cases h6 : xs.length ≤ 6
  rotate_left
  · rw [if_pos (by simp; omega)]
    refine ⟨by rw [sz]; decide, ?_, [], by simp⟩
    rw [terrL_big h6]; rfl
  rw [if_neg (by simp; omega)]
  refine ws_for (fun _ i δ M' => M = M' ∧ (∃ u1, δ = [some v, u1, none]) ∧ ∀ j, j < i → rsn xs j = none) ?_
  refine wi_rng1 ?_
  decreasing_trivial
  rw [hs.len]
  decreasing_trivial
  refine ⟨_, rfl, by omega, by omega, ⟨⟨none, rfl⟩, fun j hj => by omega⟩, fun i x δ M' hxi ⟨eM, ⟨u1, ed⟩, hj⟩ => ?_, fun δ M' ⟨eM, ⟨u1, ed⟩, hj⟩ => ?_⟩
  · subst eM ed
    rw [Int.toNat_natCast] at hxi
    obtain ⟨rfl, hi⟩ := rng_get hxi
    have ey : xs[i]? = some xs[i] := List.getElem?_eq_getElem hi
    have hm : xs[i] ∈ xs := List.getElem_mem hi
    generalize xs[i] = y at ey hm
    have oy := dOks_mem.mp hx y hm
    have aty : atD xs i = y := atD_get ey
    have ixv : ∀ M : Sto, oIx v (.int (i : Nat)) M = some y := fun M => by rw [hs.ix, getD_at ey]
    decreasing_trivial
    rw [ixv]
    decreasing_trivial
    refine w_law_is_row hM (raB_of oy) (bk_small hm bk) (by have := dDeps_mem hm; omega) ?_
    decreasing_trivial
    by_cases hr : rowB y = true
    rotate_left
    · rw [if_pos (by simpa using hr)]
      refine ⟨by rw [sz]; decide, ?_, [], by simp⟩
      rw [terrL_at h6 hi hj (s := "row") (by unfold rsn; rw [aty, if_neg hr])]
    rw [if_neg (by simpa using hr)]
    obtain ⟨n, t, vs, rfl, v1, v3, _, _, _⟩ := row_shape hr
    obtain ⟨o1, o2, o3⟩ := ok_R3 oy
    have tsub : ∀ d ∈ xs.take i, d ∈ xs := fun d h => List.mem_of_mem_take h
    have htl : (xs.take i).length ≤ sizeLine := by rw [List.length_take, sz]; omega
    have i2 : ∀ {n t : Str} {vs : List Int}, atI [D.str n, .str t, .tup (vs.map .int)] 2 = some (.tup (vs.map .int)) := atI_nat (i := 2) rfl
    rw [ixv]
    decreasing_trivial
    rw [atI0]
    decreasing_trivial
    refine w_lcP (xs.take i) (fun _ => true) (fun y => .str (nmR y)) hM htl ?_ (fun y hy M2 hM2 => ?_) (fun y hy _ => rfl) ?_
    · refine wi_seq ?_
      decreasing_trivial
      obtain ⟨w, ew, hw⟩ := hs.cut (M := M) none (some (i : Int))
      rw [ew]
      decreasing_trivial
      rw [hw.seq, cut_to (by omega)]
      decreasing_trivial
      (all_goals first | done | trivial | rfl | exact ⟨rfl, rfl⟩ | exact ⟨trivial, trivial⟩ | exact ⟨rfl, [], by simp⟩ | exact ⟨[], by simp⟩)
    · obtain ⟨n', t', vs', rfl, _⟩ := row_shape (ahead hj hy)
      decreasing_trivial
      rw [atI0]
      decreasing_trivial
      (all_goals first | done | trivial | rfl | exact ⟨rfl, rfl⟩ | exact ⟨trivial, trivial⟩ | exact ⟨rfl, [], by simp⟩ | exact ⟨[], by simp⟩)
    rw [filter_yes, inD_strs o1 nmR (fun y hy => by
      obtain ⟨n', t', vs', rfl, _⟩ := row_shape (ahead hj hy)
      exact (ok_R3 (dOks_mem.mp hx _ (tsub _ hy))).1)]
    decreasing_trivial
    have f1 : ((xs.take i).any fun y => decide (n = nmR y)) = (xs.take i).any fun y => decide (nmR (atD xs i) = nmR y) := by rw [aty]; rfl
    rw [f1]
    by_cases h1 : ((xs.take i).any fun y => decide (nmR (atD xs i) = nmR y)) = true
    · rw [if_pos h1]
      refine ⟨by rw [sz]; decide, ?_, [], by simp⟩
      rw [terrL_at h6 hi hj (s := "name") (by unfold rsn; rw [if_pos (by rw [aty]; exact hr), if_pos h1])]
    rw [if_neg h1]
    refine w_lcP (xs.take i) (fun y => decide (t = tbR y) && !decide (vs.length = (vsR y).length)) id hM htl ?_ (fun y hy M2 hM2 => ?_) (fun y hy _ => cl_dOk (dOks_mem.mp hx y (tsub y hy))) ?_
    · refine wi_seq ?_
      decreasing_trivial
      obtain ⟨w, ew, hw⟩ := hs.cut (M := M) none (some (i : Int))
      rw [ew]
      decreasing_trivial
      rw [hw.seq, cut_to (by omega)]
      decreasing_trivial
      (all_goals first | done | trivial | rfl | exact ⟨rfl, rfl⟩ | exact ⟨trivial, trivial⟩ | exact ⟨rfl, [], by simp⟩ | exact ⟨[], by simp⟩)
    · obtain ⟨n', t', vs', rfl, _⟩ := row_shape (ahead hj hy)
      obtain ⟨p1, p2, p3⟩ := ok_R3 (dOks_mem.mp hx _ (tsub _ hy))
      decreasing_trivial
      rw [atI1, ixv]
      decreasing_trivial
      rw [atI1]
      decreasing_trivial
      rw [oEq_str p2 o2]
      decreasing_trivial
      rw [i2, ixv]
      decreasing_trivial
      rw [i2]
      decreasing_trivial
      refine ⟨?_, fun _ => rfl⟩
      have ii : decide ((((vs'.map D.int).length : Nat) : Int) = ((vs.map D.int).length : Nat)) = decide (vs.length = vs'.length) := by
        rw [List.length_map, List.length_map]
        by_cases h : vs.length = vs'.length
        · rw [decide_eq_true h, decide_eq_true (by rw [h])]
        · rw [decide_eq_false h]
          exact decide_eq_false fun z => h (Int.ofNat.inj z).symm
      rw [ii, vsR_3]
      show (if decide (t' = t) = true then _ else _)
      by_cases h : t = t'
      · rw [if_pos (decide_eq_true h.symm)]
        show _ = (decide (t = t') && _)
        rw [decide_eq_true h]; rfl
      · rw [if_neg (by simpa using fun z => h z.symm)]
        show _ = (decide (t = t') && _)
        rw [decide_eq_false h]; rfl
    have s : ∀ d ∈ ((xs.take i).filter fun y => decide (t = tbR y) && !decide (vs.length = (vsR y).length)).map id, d ∈ xs := fun d hd => by
      rw [List.map_id] at hd; exact tsub d (List.mem_filter.mp hd).1
    refine ⟨by omega, ?_⟩
    rw [oNe_nil (sub_ok hx s) (by have := sub_dep s; omega)]
    decreasing_trivial
    have f2 : (!(((xs.take i).filter fun y => decide (t = tbR y) && !decide (vs.length = (vsR y).length)).map id).isEmpty) = (xs.take i).any fun y => decide (tbR (atD xs i) = tbR y) && !decide ((vsR (atD xs i)).length = (vsR y).length) := by
      rw [aty, vsR_3, List.map_id]
      show _ = (xs.take i).any fun y => decide (t = tbR y) && !decide (vs.length = (vsR y).length)
      generalize (fun y => decide (t = tbR y) && !decide (vs.length = (vsR y).length)) = B
      induction xs.take i with
      | nil => rfl
      | cons a r ih =>
        rw [List.filter_cons, List.any_cons, ← ih]
        cases B a <;> rfl
    rw [f2]
    by_cases h2 : ((xs.take i).any fun y => decide (tbR (atD xs i) = tbR y) && !decide ((vsR (atD xs i)).length = (vsR y).length)) = true
    · rw [if_pos h2]
      refine ⟨by rw [sz]; decide, ?_, [], by simp⟩
      rw [terrL_at h6 hi hj (s := "places") (by unfold rsn; rw [if_pos (by rw [aty]; exact hr), if_neg h1, if_pos h2])]
    rw [if_neg h2, ixv]
    decreasing_trivial
    rw [cut1]
    decreasing_trivial
    refine w_lcP (xs.take i) (fun _ => true) tlR hM htl ?_ (fun y hy M2 hM2 => ?_) (fun y hy _ => ?_) ?_
    · refine wi_seq ?_
      decreasing_trivial
      obtain ⟨w, ew, hw⟩ := hs.cut (M := M) none (some (i : Int))
      rw [ew]
      decreasing_trivial
      rw [hw.seq, cut_to (by omega)]
      decreasing_trivial
      (all_goals first | done | trivial | rfl | exact ⟨rfl, rfl⟩ | exact ⟨trivial, trivial⟩ | exact ⟨rfl, [], by simp⟩ | exact ⟨[], by simp⟩)
    · obtain ⟨n', t', vs', rfl, _⟩ := row_shape (ahead hj hy)
      decreasing_trivial
      rw [cut1, tlR_3]
      decreasing_trivial
      (all_goals first | done | trivial | rfl | exact ⟨rfl, rfl⟩ | exact ⟨trivial, trivial⟩ | exact ⟨rfl, [], by simp⟩ | exact ⟨[], by simp⟩)
    · obtain ⟨n', t', vs', rfl, _⟩ := row_shape (ahead hj hy)
      obtain ⟨p1, p2, p3⟩ := ok_R3 (dOks_mem.mp hx _ (tsub _ hy))
      rw [tlR_3]
      exact cl_dOk (ok_tl p2 p3)
    rw [filter_yes, inD_tls o2 o3 (fun y hy => by
      obtain ⟨n', t', vs', rfl, _⟩ := row_shape (ahead hj hy)
      obtain ⟨p1, p2, p3⟩ := ok_R3 (dOks_mem.mp hx _ (tsub _ hy))
      rw [tlR_3]
      exact ok_tl p2 p3)]
    decreasing_trivial
    have f3 : ((xs.take i).any fun y => decide (t = tbR y ∧ vs = vsR y)) = (xs.take i).any fun y => decide (tbR (atD xs i) = tbR y ∧ vsR (atD xs i) = vsR y) := by rw [aty, vsR_3]; rfl
    rw [f3]
    by_cases h3 : ((xs.take i).any fun y => decide (tbR (atD xs i) = tbR y ∧ vsR (atD xs i) = vsR y)) = true
    · rw [if_pos h3]
      refine ⟨by rw [sz]; decide, ?_, [], by simp⟩
      rw [terrL_at h6 hi hj (s := "repeated") (by unfold rsn; rw [if_pos (by rw [aty]; exact hr), if_neg h1, if_neg h2, if_pos h3])]
    rw [if_neg h3]
    refine ⟨⟨_, rfl⟩, fun j hji => ?_⟩
    rcases Nat.lt_or_eq_of_le (Nat.le_of_lt_succ hji) with z | z
    · exact hj j z
    · subst z
      unfold rsn
      rw [if_pos (by rw [aty]; exact hr), if_neg h1, if_neg h2, if_neg h3]
  · subst eM ed
    rw [rngD_length, Int.toNat_natCast] at hj
    decreasing_trivial
    exact ⟨(terrL_non h6 hj).symm, [], by simp⟩
theorem w_law_expectedN {v : D} (hM : Ok M) (hv : dOkq v = true) (hn : (isLst v || isTupB v) = false) (q : Q rowsR M) : Wp (callT (g_law_expected K) [v] M) Q X := by
  refine call_is (r := rowsR) hM rfl ?_ q
  unfold g_law_expected
  rw [w_body]
  unfold fb_law_expected
  obtain ⟨h1, h2⟩ := Bool.or_eq_false_iff.mp hn
  decreasing_trivial
  rw [gIsi_lstq hv, gIsi_tupq hv, h1, h2]
  decreasing_trivial
  refine ⟨by rw [sz]; decide, rfl, [], by simp⟩
end
end L2.MK.W_k14

end

section
set_option Elab.async false
set_option linter.all false
set_option maxRecDepth 100000
set_option maxHeartbeats 2000000
set_option autoImplicit false
set_option exponentiation.threshold 2000
namespace L2.MK.W_k14
local macro_rules
  | `(tactic| decreasing_trivial) => `(tactic| try simp only [w_bind, w_pure, w_pure', w_opt, w_var, w_C, w_bin, w_un, w_call, w_fun, w_nil, w_cons, w_tup, w_lst, w_lstM, w_dctM, w_isBl, w_bTru, w_bOf, w_and, w_or, w_not, wb_and, wb_or, wb_not, wb_yes, w_if, w_chain, w_cut, w_cutM, w_sNo, w_isI, w_sAt, w_meth, w_setd,
  ws_skip, ws_seq, ws_exp, ws_ret, ws_retN, ws_if, ws_asg, ws_gN, ws_gNils, ws_gConss, ws_gTup, ws_gSub, ws_raise, ws_try, ws_noRet, sm_some,
  startD, List.map_cons, List.map_nil, List.length_cons, List.length_nil, List.replicate, List.cons_append, List.nil_append, List.getElem?_cons_zero, List.getElem?_cons_succ, List.set_cons_zero, List.set_cons_succ, Option.join_some, Option.join_none, Nat.reduceAdd, Nat.reduceSub, Nat.add_zero, Nat.zero_add,
  sqD_lst, sqD_tup, sqD_rol, gLen_lst, gLen_tup, gInt_int, gInt_bl, gAbs_int, oAdd_int, oSub_int, oLt_int, oLe_int, oGt_int, oGe_int, oIx_lst, oIx_tup, oEq_int, oNe_int, true_and, and_true, true_implies, seqF_lst, seqF_tup, seqF_str, sqF_lst, sqF_tup, truD_bl, isStr, isTupB, isLst, ↓reduceIte, Bool.false_eq_true, Bool.not_true, Bool.not_false, setPt_nm, setPt_tp, setPts_nil, setPts_cons, wipeD_nil, wipeD_cons])
open PySem PySem.Spec PyProof.Rows PySem.W He
section
variable {K : Frag} {M : Sto} {Q : D → Sto → Prop} {X : XP}
def isRw (p : PyData) : Prop := ∃ (n t : Str) (vs : List Int), p = .tuple [.str n, .str t, .tuple (vs.map .int)]
theorem pys_rows : ∀ {xs : List D}, (∀ x ∈ xs, rowB x = true) → ∃ ps, D.pys xs = some ps ∧ ∀ p ∈ ps, isRw p
  | [], _ => ⟨[], by unfold D.pys; rfl, fun p h => (nomatch h)⟩
  | x :: r, h => by
    obtain ⟨n, t, vs, rfl, _⟩ := row_shape (h x (List.mem_cons_self ..))
    obtain ⟨ps, e, a⟩ := pys_rows fun y hy => h y (List.mem_cons_of_mem _ hy)
    refine ⟨.tuple [.str n, .str t, .tuple (vs.map .int)] :: ps, by unfold D.pys; rw [py_R3, e], fun p hp => ?_⟩
    rcases List.mem_cons.mp hp with z | z
    · exact ⟨n, t, vs, z⟩
    · exact a p z
theorem alike_is : ∀ a b : List Int, alikeAll (a.map .int) (b.map .int) = true
  | [], _ => by simp [alikeAll]
  | _ :: _, [] => by simp [alikeAll]
  | x :: r, y :: s => by
    rw [List.map_cons, List.map_cons, alikeAll, alike_is r s]; rfl
theorem depth_is : ∀ ns : List Int, PyData.depthAll (ns.map .int) = 0
  | [] => rfl
  | x :: r => by rw [List.map_cons, PyData.depthAll, depth_is r]; rfl
theorem sortOk_rows {ps : List PyData} (h : ∀ p ∈ ps, isRw p) : sortOk ps = true := by
  unfold sortOk
  rw [Bool.and_eq_true, Bool.and_eq_true, Bool.or_eq_true]
  refine ⟨List.all_eq_true.mpr fun a ha => List.all_eq_true.mpr fun b hb => ?_, .inl (List.all_eq_true.mpr fun p hp => ?_), List.all_eq_true.mpr fun p hp => ?_⟩
  · obtain ⟨n, t, ns, rfl⟩ := h a ha
    obtain ⟨n2, t2, ns2, rfl⟩ := h b hb
    simp only [alike, alikeAll, alike_is, Bool.and_self]
  · obtain ⟨n, t, ns, rfl⟩ := h p hp
    rfl
  · obtain ⟨n, t, ns, rfl⟩ := h p hp
    refine decide_eq_true ?_
    simp only [PyData.depth, PyData.depthAll, depth_is]
    omega
theorem gSort_rows {v : D} {xs : List D} (hs : sqD M v = some xs) (h : ∀ x ∈ xs, rowB x = true) : gSort [v] M = some (.lst (xs.mergeSort leD)) := by
  obtain ⟨ps, e, a⟩ := pys_rows h
  show (sqD M v).bind (fun ys => (D.pys ys).bind fun ps => if sortOk ps = true then some (D.lst (ys.mergeSort leD)) else none) = _
  rw [hs, Option.bind_some, e, Option.bind_some, if_pos (sortOk_rows a)]
theorem gSort_strs {ns : List Str} : gSort [.lst (ns.map .str)] M = some (.lst ((ns.map D.str).mergeSort leD)) := by
  show (sqD M (.lst (ns.map .str))).bind (fun ys => (D.pys ys).bind fun ps => if sortOk ps = true then some (D.lst (ys.mergeSort leD)) else none) = _
  rw [show sqD M (.lst (ns.map .str)) = some (ns.map .str) from rfl, Option.bind_some, pys_strs, Option.bind_some, if_pos ?_]
  unfold sortOk
  rw [Bool.and_eq_true, Bool.and_eq_true, Bool.or_eq_true]
  refine ⟨List.all_eq_true.mpr fun a ha => List.all_eq_true.mpr fun b hb => ?_, .inr (List.all_eq_true.mpr fun p hp => ?_), List.all_eq_true.mpr fun p hp => ?_⟩
  · obtain ⟨x, _, rfl⟩ := List.mem_map.mp ha
    obtain ⟨y, _, rfl⟩ := List.mem_map.mp hb
    rfl
  · obtain ⟨x, _, rfl⟩ := List.mem_map.mp hp
    rfl
  · obtain ⟨x, _, rfl⟩ := List.mem_map.mp hp
    rfl
theorem rows_of_non {xs : List D} (h : terrL xs = .non) : ∀ x ∈ xs, rowB x = true := fun x hx => by
  obtain ⟨j, hj, e⟩ := List.getElem_of_mem hx
  have := rsn_row ((terrL_inv h).2 j hj)
  rwa [atD_get (List.getElem?_eq_getElem hj), e] at this
abbrev TbD (hs : List D) : D := .ins "Tables" [("held", .tup hs)]
/-- what Tables(v) does, the reason told -/
theorem w_makeR {v r : D} (hM : Ok M) (hr : dOk r = true) (he : ∀ M' Q X, Ok (M' : Sto) → Q r M' → M' = M ++ [MO.ins "Tables" []] → Wp (callT (g_tables_error K) [v, .int 6] M') Q X)
    (q : r = .non → ∃ xs, sqD (M ++ [MO.ins "Tables" []]) v = some xs ∧ dOks xs = true ∧ (∀ x ∈ xs, rowB x = true) ∧ Q (TbD (xs.mergeSort leD)) M) (qx : r ≠ .non → X "InvalidTables" [("reason", r)] M) : Wp (makeT "Tables" (g_Tables__init K) [v] M) Q X := by
  unfold makeT
  rw [w_trim, w_makeK]
  unfold g_Tables__init
  rw [w_body]
  unfold fb_Tables__init
  decreasing_trivial
  have ok1 : Ok (M ++ [MO.ins "Tables" []]) := ok_snoc hM rfl
  refine he _ _ _ ok1 ?_ rfl
  have eN : oIsNot r .non (M ++ [MO.ins "Tables" []]) = some (.bl (!isNon r)) := rfl
  have hr' := cl_dOk (n := M.length) hr
  decreasing_trivial
  rw [eN]
  decreasing_trivial
  by_cases h : r = .non
  · rw [h]
    rw [if_neg (by simp [isNon])]
    obtain ⟨xs, es, hx, ha, qq⟩ := q h
    have at1 : (M ++ [MO.ins "Tables" []])[M.length]? = some (.ins "Tables" []) := by rw [List.getElem?_append_right (Nat.le_refl _)]; simp
    have s1 : ∀ v, setF ["Tables"] "held" (.ref M.length) v (M ++ [MO.ins "Tables" []]) = some (M ++ [MO.ins "Tables" [("held", v)]]) := fun v => by
      unfold setF
      simp only [at1]
      rw [if_pos ⟨by decide, by show 0 < 1000; decide⟩, List.set_append_right _ _ (Nat.le_refl _), Nat.sub_self]
      rfl
    simp only [ws_fld]
    decreasing_trivial
    rw [gSort_rows es ha]
    decreasing_trivial
    have gt : ∀ ys (M : Sto), gTuple [.lst ys] M = some (.tup ys) := fun _ _ => rfl
    rw [gt]
    decreasing_trivial
    rw [s1, sm_some]
    refine trim_ins hM (fun p hp' => ?_) qq
    rw [List.mem_singleton] at hp'
    subst hp'
    exact cls_mem.mpr fun d hd => cl_dOk (dOks_mem.mp hx d ((List.mergeSort_perm _ _).mem_iff.mp hd))
  · have hn : isNon r = false := by
      cases e : isNon r
      · rfl
      · exact absurd (isNon_iff.mp e) h
    rw [hn]
    decreasing_trivial
    unfold mkX
    decreasing_trivial
    rw [w_one]
    have hf' : ∀ p ∈ ([(("reason" : Str), r)] : List (Str × D)), cl M.length p.2 = true := fun p hp' => by
      rw [List.mem_singleton] at hp'; subst hp'; exact hr'
    rw [thawf_cl hf', sm_some, List.take_left' rfl, thawSto_cl hM]
    exact qx h
theorem w_make {v : D} {xs : List D} (hM : Ok M) (hs : SqM M v xs) (hx : dOks xs = true) (bk : dBks xs ≤ 2 ^ 20) (q : terrL xs = .non → Q (TbD (xs.mergeSort leD)) M) (qx : terrL xs ≠ .non → X "InvalidTables" [("reason", terrL xs)] M) : Wp (makeT "Tables" (g_Tables__init K) [v] M) Q X :=
  w_makeR (r := terrL xs) hM (terrL_ok xs).1 (fun M' Q X o q e => by subst e; exact w_tables_error o (hs.app _) hx bk q) (fun h => ⟨xs, (hs.app _).sq, hx, rows_of_non h, q h⟩) qx
theorem w_makeN {v : D} (hM : Ok M) (hk : ∀ M : Sto, gIsi K ["Tables"] ["InvalidTables", "MarkError"] [v, .tup [.ty "list", .ty "tuple"]] M = some (.bl false)) (qx : X "InvalidTables" [("reason", rowsR)] M) : Wp (makeT "Tables" (g_Tables__init K) [v] M) Q X := by
  refine w_makeR (r := rowsR) hM rfl (fun M' Q X o q e => ?_) (fun h => by cases h) (fun _ => qx)
  refine call_is (r := rowsR) o rfl ?_ q
  unfold g_tables_error
  rw [w_body]
  unfold fb_tables_error
  decreasing_trivial
  refine ⟨by rw [sz]; decide, ?_⟩
  rw [hk]
  decreasing_trivial
  refine ⟨by rw [sz]; decide, rfl, [], by simp⟩
/-- what _law_raised gives -/
theorem w_law_raisedR (G : Kf K) {v r : D} (hM : Ok M) (hr : dOk r = true) (hm : ∀ Q X, (r = .non → ∀ d, Q d M) → (r ≠ .non → X "InvalidTables" [("reason", r)] M) → Wp (makeT "Tables" (g_Tables__init K) [v] M) Q X) (q : Q r M) : Wp (callT (g_law_raised K) [v] M) Q X := by
  refine call_is (r := r) hM (cl_dOk hr) ?_ q
  unfold g_law_raised
  rw [w_body]
  unfold fb_law_raised
  decreasing_trivial
  refine hm _ _ (fun h d => ?_) (fun h => ?_)
  · have e : ∀ M, gIsi K ["Tables"] ["InvalidTables", "MarkError"] [.non, .cls "InvalidTables"] M = some (.bl false) := fun M => by
      show (some (.ref (ga K "InvalidTables"))).bind (fun u => (kitOne K (.type "NoneType") u).map D.bl) = _
      rw [Option.bind_some, G.q_NoneType_InvalidTables]; rfl
    decreasing_trivial
    rw [e]
    decreasing_trivial
    exact ⟨h.symm, [], by simp⟩
  · simp only [G.e_InvalidTables_MarkError, ws_unset]
    decreasing_trivial
    have e1 : ∀ (fs : List (Str × D)) (M : Sto), gIsi K ["Tables"] ["InvalidTables", "MarkError"] [.exc "InvalidTables" fs, .cls "InvalidTables"] M = some (.bl true) := fun fs M => by
      show (if ("InvalidTables" : Str) ∈ (["InvalidTables", "MarkError"] : List Str) then (some (.ref (ga K "InvalidTables"))).bind (fun u => (kitOne K (.ref (ga K "InvalidTables")) u).map D.bl) else none) = _
      rw [if_pos (by decide), Option.bind_some, kitOne_self]; rfl
    have e2 : ∀ (fs : List (Str × D)) (M : Sto), gIsi K ["Tables"] ["InvalidTables", "MarkError"] [.exc "InvalidTables" fs, .ty "ValueError"] M = some (.bl true) := fun fs M => by
      show (if ("InvalidTables" : Str) ∈ (["InvalidTables", "MarkError"] : List Str) then (some (.type "ValueError")).bind (fun u => (kitOne K (.ref (ga K "InvalidTables")) u).map D.bl) else none) = _
      rw [if_pos (by decide), Option.bind_some, G.q_InvalidTables_ValueError]; rfl
    have e3 : ∀ (r : D) (M : Sto), oFld [] ["InvalidTables"] "reason" (.exc "InvalidTables" [("reason", r)]) M = some r := fun r M => by
      show (if ("InvalidTables" : Str) ∈ (["InvalidTables"] : List Str) then fldD M "reason" (.exc "InvalidTables" [("reason", r)]) else none) = _
      rw [if_pos (by decide)]; rfl
    rw [e1]
    decreasing_trivial
    rw [e2]
    decreasing_trivial
    rw [e3]
    decreasing_trivial
    exact ⟨[], by simp⟩
theorem w_law_raised (G : Kf K) {v : D} {xs : List D} (hM : Ok M) (hs : SqM M v xs) (hx : dOks xs = true) (bk : dBks xs ≤ 2 ^ 20) (q : Q (terrL xs) M) : Wp (callT (g_law_raised K) [v] M) Q X :=
  w_law_raisedR G hM (terrL_ok xs).1 (fun Q X q qx => w_make hM hs hx bk (fun h => q h _) qx) q
theorem isi_no {v : D} (hv : dOkq v = true) (hn : (isLst v || isTupB v) = false) : gIsi K ["Tables"] ["InvalidTables", "MarkError"] [v, .tup [.ty "list", .ty "tuple"]] M = some (.bl false) := by
  cases v <;> first | rfl | (cases hn; done) | (unfold dOkq dOk at hv; cases hv)
theorem w_law_raisedN (G : Kf K) {v : D} (hM : Ok M) (hv : dOkq v = true) (hn : (isLst v || isTupB v) = false) (q : Q rowsR M) : Wp (callT (g_law_raised K) [v] M) Q X :=
  w_law_raisedR G hM rfl (fun Q X _ qx => w_makeN hM (fun M => isi_no hv hn) (qx (by unfold rowsR; intro h; cases h))) q
theorem isi_tb (G : Kf K) {fs : List (Str × D)} : gIsi K ["Tables"] ["InvalidTables", "MarkError"] [.ins "Tables" fs, .tup [.ty "list", .ty "tuple"]] M = some (.bl false) := by
  show Option.map D.bl (isiD K ["Tables"] ["InvalidTables", "MarkError"] M (.ins "Tables" fs) fun t => kitAny K t [.type "list", .type "tuple"]) = _
  have e : isiD K ["Tables"] ["InvalidTables", "MarkError"] M (.ins "Tables" fs) (fun t => kitAny K t [.type "list", .type "tuple"]) = kitAny K (.ref (ga K "Tables")) [.type "list", .type "tuple"] := by
    exact if_pos (e := none) (show ("Tables" : Str) ∈ (["Tables"] : List Str) by decide)
  rw [e]
  unfold kitAny kitAny kitAny
  simp only [G.q_Tables_list, G.q_Tables_tuple]
  rfl
theorem w_law_raisedT (G : Kf K) {fs : List (Str × D)} (hM : Ok M) (q : Q rowsR M) : Wp (callT (g_law_raised K) [.ins "Tables" fs] M) Q X :=
  w_law_raisedR G hM rfl (fun Q X _ qx => w_makeN hM (fun M => isi_tb G) (qx (by unfold rowsR; intro h; cases h))) q
end
end L2.MK.W_k14

end

section
set_option Elab.async false
set_option linter.all false
set_option maxRecDepth 100000
set_option maxHeartbeats 2000000
set_option autoImplicit false
set_option exponentiation.threshold 2000
namespace L2.MK.W_k14
local macro_rules
  | `(tactic| decreasing_trivial) => `(tactic| try simp only [w_bind, w_pure, w_pure', w_opt, w_var, w_C, w_bin, w_un, w_call, w_fun, w_nil, w_cons, w_tup, w_lst, w_lstM, w_dctM, w_isBl, w_bTru, w_bOf, w_and, w_or, w_not, wb_and, wb_or, wb_not, wb_yes, w_if, w_chain, w_cut, w_cutM, w_sNo, w_isI, w_sAt, w_meth, w_setd,
  ws_skip, ws_seq, ws_exp, ws_ret, ws_retN, ws_if, ws_asg, ws_gN, ws_gNils, ws_gConss, ws_gTup, ws_gSub, ws_raise, ws_try, ws_noRet, sm_some,
  startD, List.map_cons, List.map_nil, List.length_cons, List.length_nil, List.replicate, List.cons_append, List.nil_append, List.getElem?_cons_zero, List.getElem?_cons_succ, List.set_cons_zero, List.set_cons_succ, Option.join_some, Option.join_none, Nat.reduceAdd, Nat.reduceSub, Nat.add_zero, Nat.zero_add,
  sqD_lst, sqD_tup, sqD_rol, gLen_lst, gLen_tup, gInt_int, gInt_bl, gAbs_int, oAdd_int, oSub_int, oLt_int, oLe_int, oGt_int, oGe_int, oIx_lst, oIx_tup, oEq_int, oNe_int, true_and, and_true, true_implies, seqF_lst, seqF_tup, seqF_str, sqF_lst, sqF_tup, truD_bl, isStr, isTupB, isLst, ↓reduceIte, Bool.false_eq_true, Bool.not_true, Bool.not_false, setPt_nm, setPt_tp, setPts_nil, setPts_cons, wipeD_nil, wipeD_cons])
open PySem PySem.Spec PyProof.Rows PySem.W He
/-! valid rows -/
def Cr (x y : D) : Prop := nmR x ≠ nmR y ∧ (tbR x = tbR y → (vsR x).length = (vsR y).length) ∧ ¬ (tbR x = tbR y ∧ vsR x = vsR y)
theorem Cr.symm {x y : D} (h : Cr x y) : Cr y x := ⟨fun e => h.1 e.symm, fun e => (h.2.1 e.symm).symm, fun e => h.2.2 ⟨e.1.symm, e.2.symm⟩⟩
structure Good (xs : List D) : Prop where
  len : xs.length ≤ 6
  row : ∀ x ∈ xs, rowB x = true
  pw : xs.Pairwise Cr
theorem rsn_iff {xs : List D} {k : Nat} : rsn xs k = none ↔ rowB (atD xs k) = true ∧ ∀ y ∈ xs.take k, Cr (atD xs k) y := by
  unfold rsn
  constructor
  · intro h
    split at h
    · rename_i hr
      refine ⟨hr, ?_⟩
      split at h
      · cases h
      · rename_i h1
        split at h
        · cases h
        · rename_i h2
          split at h
          · cases h
          · rename_i h3
            intro y hy
            simp only [List.any_eq_true, decide_eq_true_eq, not_exists, not_and, Bool.and_eq_true, Bool.not_eq_true', decide_eq_false_iff_not, Classical.not_not] at h1 h2 h3
            exact ⟨fun e => h1 y hy e, fun e => h2 y hy e, fun e => h3 y hy e.1 e.2⟩
    · cases h
  · rintro ⟨hr, h⟩
    rw [if_pos hr, if_neg, if_neg, if_neg]
    · simp only [List.any_eq_true, decide_eq_true_eq, not_exists, not_and]
      exact fun y hy e1 e2 => (h y hy).2.2 ⟨e1, e2⟩
    · simp only [List.any_eq_true, decide_eq_true_eq, not_exists, not_and, Bool.and_eq_true, Bool.not_eq_true', decide_eq_false_iff_not, Classical.not_not]
      exact fun y hy e => (h y hy).2.1 e
    · simp only [List.any_eq_true, decide_eq_true_eq, not_exists, not_and]
      exact fun y hy e => (h y hy).1 e
theorem good_of {xs : List D} (h : terrL xs = .non) : Good xs := by
  obtain ⟨h1, h2⟩ := terrL_inv h
  refine ⟨h1, rows_of_non h, List.pairwise_iff_getElem.mpr fun i j hi hj hij => ?_⟩
  have := (rsn_iff.mp (h2 j hj)).2 xs[i] (List.mem_take_iff_getElem.mpr ⟨i, by omega, rfl⟩)
  rw [atD_get (List.getElem?_eq_getElem hj)] at this
  exact this.symm
theorem of_good {xs : List D} (h : Good xs) : terrL xs = .non := terrL_non h.len fun j hj => rsn_iff.mpr ⟨by
    rw [atD_get (List.getElem?_eq_getElem hj)]
    exact h.row _ (List.getElem_mem hj), fun y hy => by
    rw [atD_get (List.getElem?_eq_getElem hj)]
    obtain ⟨i, hi, e⟩ := List.mem_take_iff_getElem.mp hy
    have := List.pairwise_iff_getElem.mp h.pw i j (by omega) hj (by omega)
    rw [e] at this
    exact this.symm⟩
theorem Good.rev {xs : List D} (h : Good xs) : Good xs.reverse := ⟨by rw [List.length_reverse]; exact h.len, fun x hx => h.row x (List.mem_reverse.mp hx), List.pairwise_reverse.mpr (h.pw.imp Cr.symm)⟩
theorem Good.sub {xs ys : List D} (h : Good xs) (s : ys.Sublist xs) : Good ys := ⟨Nat.le_trans s.length_le h.len, fun x hx => h.row x (s.subset hx), h.pw.sublist s⟩
theorem Good.one {x : D} (h : rowB x = true) : Good [x] := ⟨by simp, fun y hy => by rw [List.mem_singleton] at hy; subst hy; exact h, List.pairwise_singleton _ _⟩
theorem Good.inj {xs : List D} (h : Good xs) {x y : D} (hx : x ∈ xs) (hy : y ∈ xs) (e : nmR x = nmR y) : x = y := by
  obtain ⟨i, hi, rfl⟩ := List.getElem_of_mem hx
  obtain ⟨j, hj, rfl⟩ := List.getElem_of_mem hy
  rcases Nat.lt_trichotomy i j with q | q | q
  · exact absurd e (List.pairwise_iff_getElem.mp h.pw i j hi hj q).1
  · subst q; rfl
  · exact absurd e.symm (List.pairwise_iff_getElem.mp h.pw j i hj hi q).1
/-! the order -/
theorem toks_R3 (n t : Str) (vs : List Int) : ∃ r, keyToks (pyD (R3 n t vs)) = .inl 1 :: .inr n.cps.toList :: r := by
  unfold pyD
  rw [py_R3]
  refine ⟨keyToksAll [.str t, .tuple (vs.map .int)], ?_⟩
  show keyToks (.tuple [.str n, .str t, .tuple (vs.map .int)]) = _
  rw [keyToks, keyToksAll, keyToks]
  rfl
theorem toks_str (n : Str) : keyToks (pyD (.str n)) = [.inr n.cps.toList] := rfl
theorem str_of {x y : Str} (h : x.cps.toList = y.cps.toList) : x = y := str_of_cps h
theorem le_anti {a b : D} (ha : rowB a = true) (hb : rowB b = true) (h1 : leD a b = true) (h2 : leD b a = true) : nmR a = nmR b := by
  have e := leD_anti h1 h2
  obtain ⟨n, t, vs, rfl, _⟩ := row_shape ha
  obtain ⟨n', t', vs', rfl, _⟩ := row_shape hb
  obtain ⟨r, e1⟩ := toks_R3 n t vs
  obtain ⟨r', e2⟩ := toks_R3 n' t' vs'
  rw [e1, e2] at e
  simp only [List.cons.injEq, Sum.inr.injEq] at e
  exact str_of e.2.1
theorem le_nm {a b : D} (ha : rowB a = true) (hb : rowB b = true) (h : leD a b = true) : leD (.str (nmR a)) (.str (nmR b)) = true := by
  obtain ⟨n, t, vs, rfl, _⟩ := row_shape ha
  obtain ⟨n', t', vs', rfl, _⟩ := row_shape hb
  obtain ⟨r, e1⟩ := toks_R3 n t vs
  obtain ⟨r', e2⟩ := toks_R3 n' t' vs'
  have h : (!lexLt itemOrd (keyToks (pyD (R3 n' t' vs'))) (keyToks (pyD (R3 n t vs)))) = true := h
  show (!lexLt itemOrd (keyToks (pyD (.str n'))) (keyToks (pyD (.str n)))) = true
  rw [e1, e2, lex_cons, lex_cons] at h
  rw [toks_str, toks_str, lex_cons]
  have i1 : itemOrd.blt (.inl 1) (.inl 1) = false := itemOrd.irrefl _
  rw [i1] at h
  have e3 : lexLt itemOrd [] [] = false := rfl
  rw [e3]
  cases q : itemOrd.blt (Sum.inr n'.cps.toList) (Sum.inr n.cps.toList) with
  | false => simp
  | true => rw [q] at h; simp at h
theorem sort_rev {xs : List D} (h : Good xs) : xs.reverse.mergeSort leD = xs.mergeSort leD :=
  perm_sorted (((List.mergeSort_perm _ _).trans (List.reverse_perm _)).trans (List.mergeSort_perm _ _).symm) (leD_sorted _) (leD_sorted _) fun a ha b hb h1 h2 => by
    have ha' := List.mem_reverse.mp ((List.mergeSort_perm _ _).mem_iff.mp ha)
    have hb' := List.mem_reverse.mp ((List.mergeSort_perm _ _).mem_iff.mp hb)
    exact h.inj ha' hb' (le_anti (h.row a ha') (h.row b hb') h1 h2)
theorem pairwise_map' {α β : Type} {R : β → β → Prop} {S : α → α → Prop} {f : α → β} : ∀ {l : List α}, l.Pairwise S → (∀ a ∈ l, ∀ b ∈ l, S a b → R (f a) (f b)) → (l.map f).Pairwise R
  | [], _, _ => .nil
  | a :: r, h, m => by
    rw [List.map_cons]
    refine List.pairwise_cons.mpr ⟨fun y hy => ?_, pairwise_map' (List.pairwise_cons.mp h).2 fun x hx y hy => m x (List.mem_cons_of_mem _ hx) y (List.mem_cons_of_mem _ hy)⟩
    obtain ⟨z, hz, rfl⟩ := List.mem_map.mp hy
    exact m a (List.mem_cons_self ..) z (List.mem_cons_of_mem _ hz) ((List.pairwise_cons.mp h).1 z hz)
def nmD (y : D) : D := .str (nmR y)
theorem sort_nms {xs : List D} (h : Good xs) : (xs.mergeSort leD).map nmD = (xs.map nmD).mergeSort leD := by
  have mm : ∀ {y}, y ∈ xs.mergeSort leD → y ∈ xs := fun hy => (List.mergeSort_perm _ _).mem_iff.mp hy
  refine perm_sorted (((List.mergeSort_perm _ _).map _).trans (List.mergeSort_perm _ _).symm) ?_ (leD_sorted _) fun a ha b hb h1 h2 => ?_
  · exact pairwise_map' (leD_sorted xs) fun a ha b hb l => le_nm (h.row a (mm ha)) (h.row b (mm hb)) l
  · obtain ⟨x, _, rfl⟩ := List.mem_map.mp ha
    obtain ⟨y, _, rfl⟩ := List.mem_map.mp hb
    have e := leD_anti h1 h2
    unfold nmD at e ⊢
    rw [toks_str, toks_str] at e
    simp only [List.cons.injEq, Sum.inr.injEq, and_true] at e
    rw [str_of e]
section
variable {K : Frag} {M : Sto} {Q : D → Sto → Prop} {X : XP}
/-! the methods -/
theorem fld_held {hs : List D} : oFld ["Tables"] [] "held" (TbD hs) M = some (.tup hs) := by
  show (if ("Tables" : Str) ∈ (["Tables"] : List Str) then fldD M "held" (TbD hs) else none) = _
  rw [if_pos (by decide)]; rfl
theorem w_tb_rows {hs : List D} (hM : Ok M) (hh : dOks hs = true) (q : Q (.tup hs) M) : Wp (callT (g_Tables_rows K) [TbD hs] M) Q X := by
  refine call_is (r := .tup hs) hM (cl_dOk hh) ?_ q
  unfold g_Tables_rows
  rw [w_body]
  unfold fb_Tables_rows
  decreasing_trivial
  rw [fld_held]
  decreasing_trivial
  (all_goals first | done | trivial | rfl | exact ⟨rfl, rfl⟩ | exact ⟨trivial, trivial⟩ | exact ⟨rfl, [], by simp⟩ | exact ⟨[], by simp⟩)
theorem w_tb_len {hs : List D} (hM : Ok M) (q : Q (.int hs.length) M) : Wp (callT (g_Tables__len K) [TbD hs] M) Q X := by
  refine call_is (r := .int hs.length) hM rfl ?_ q
  unfold g_Tables__len
  rw [w_body]
  unfold fb_Tables__len
  decreasing_trivial
  rw [fld_held]
  decreasing_trivial
  (all_goals first | done | trivial | rfl | exact ⟨rfl, rfl⟩ | exact ⟨trivial, trivial⟩ | exact ⟨rfl, [], by simp⟩ | exact ⟨[], by simp⟩)
theorem w_tb_names {hs : List D} (hM : Ok M) (hr : ∀ x ∈ hs, rowB x = true) (hl : hs.length ≤ 1000) (q : Q (.tup (hs.map nmD)) M) : Wp (callT (g_Tables_names K) [TbD hs] M) Q X := by
  refine call_is (r := .tup (hs.map nmD)) hM (cls_mem.mpr fun d hd => by
    obtain ⟨y, _, rfl⟩ := List.mem_map.mp hd; rfl) ?_ q
  unfold g_Tables_names
  rw [w_body]
  unfold fb_Tables_names
  decreasing_trivial
  refine w_lcP hs (fun _ => true) nmD hM (by rw [sz]; omega) ?_ (fun y hy M2 hM2 => ?_) (fun y hy _ => rfl) ?_
  · refine wi_seq ?_
    decreasing_trivial
    rw [fld_held]
    decreasing_trivial
    (all_goals first | done | trivial | rfl | exact ⟨rfl, rfl⟩ | exact ⟨trivial, trivial⟩ | exact ⟨rfl, [], by simp⟩ | exact ⟨[], by simp⟩)
  · obtain ⟨n, t, vs, rfl, _⟩ := row_shape (hr y hy)
    decreasing_trivial
    rw [atI0]
    decreasing_trivial
    (all_goals first | done | trivial | rfl | exact ⟨rfl, rfl⟩ | exact ⟨trivial, trivial⟩ | exact ⟨rfl, [], by simp⟩ | exact ⟨[], by simp⟩)
  · rw [filter_yes]
    have gt : ∀ ys (M : Sto), gTuple [.lst ys] M = some (.tup ys) := fun _ _ => rfl
    rw [gt]
    decreasing_trivial
    (all_goals first | done | trivial | rfl | exact ⟨rfl, rfl⟩ | exact ⟨trivial, trivial⟩ | exact ⟨rfl, [], by simp⟩ | exact ⟨[], by simp⟩)
theorem inD_tup {x : D} {ys : List D} (hx : dOk x = true) (hy : dOks ys = true) (dx : dDep x ≤ 60) : oIn x (.tup ys) M = some (.bl (ys.any fun y => eqv y x)) := by
  obtain ⟨p, e1, o1⟩ := py_ok hx
  obtain ⟨ps, e2, o2⟩ := pys_ok hy
  have e3 : (D.lst ys).py = some (.list ps) := by unfold D.py; rw [e2]; rfl
  have e4 : (D.tup ys).py = some (.tuple ps) := by unfold D.py; rw [e2]; rfl
  have cnd : p.plain = true ∧ PyData.plainAll ps = true ∧ p.depth ≤ 60 := ⟨o1.plain, o2.plain, by have := o1.dep; omega⟩
  have k : some (ps.any fun q => PyData.eqv q p) = some (ys.any fun y => eqv y x) := by
    rw [← inD_ok (M := M) hx hy dx]
    unfold inD
    split
    · rename_i z; cases z
    rw [vw_ok hx, e1, show vw M (.lst ys) = .lst ys from rfl, e3]
    simp only
    rw [if_pos cnd]
  have k2 : inD x (.tup ys) M = some (ps.any fun q => PyData.eqv q p) := by
    unfold inD
    split
    · rename_i z; cases z
    rw [vw_ok hx, e1, show vw M (.tup ys) = .tup ys from rfl, e4]
    simp only
    rw [if_pos cnd]
  unfold oIn
  rw [k2, Option.some.inj k]; rfl
/-- what `d in tables` gives -/
def conB (hs : List D) (d : D) : Bool := rowB d && hs.any fun y => eqv y d
theorem raB_row {d : D} (h : raB d = true) (hr : rowB d = true) : dOk d = true := by
  obtain ⟨n, t, vs, rfl, _⟩ := row_shape hr
  have h : (dOkq (.str n) && (dOkq (.str t) && (dOkq (.tup (vs.map .int)) && true))) = true := h
  simp only [Bool.and_eq_true, Bool.and_true] at h
  show (dOk (.str n) && (dOk (.str t) && (dOk (.tup (vs.map .int)) && true))) = true
  have h1 : dOk (.str n) = true := h.1
  have h2 : dOk (.str t) = true := h.2.1
  have h3 : dOk (.tup (vs.map .int)) = true := h.2.2
  rw [h1, h2, h3]; rfl
theorem w_tb_con {hs : List D} {d : D} (hM : Ok M) (hh : dOks hs = true) (hd : raB d = true) (hb : dBk d ≤ 2 ^ 20) (q : Q (.bl (conB hs d)) M) : Wp (callT (g_Tables__contains K) [TbD hs, d] M) Q X := by
  refine call_is (r := .bl (conB hs d)) hM rfl ?_ q
  unfold g_Tables__contains
  rw [w_body]
  unfold fb_Tables__contains
  decreasing_trivial
  refine w_is_row hM hd hb ?_
  decreasing_trivial
  unfold conB
  by_cases h : rowB d = true
  · rw [if_pos h, h]
    obtain ⟨n, t, vs, e, _⟩ := row_shape h
    rw [fld_held]
    decreasing_trivial
    rw [inD_tup (raB_row hd h) hh (by rw [e]; have := dep_R3 n t vs; omega)]
    decreasing_trivial
    (all_goals first | done | trivial | rfl | exact ⟨rfl, rfl⟩ | exact ⟨trivial, trivial⟩ | exact ⟨rfl, [], by simp⟩ | exact ⟨[], by simp⟩)
  · rw [if_neg h, Bool.eq_false_iff.mpr h]
    (all_goals first | done | trivial | rfl | exact ⟨rfl, rfl⟩ | exact ⟨trivial, trivial⟩ | exact ⟨rfl, [], by simp⟩ | exact ⟨[], by simp⟩)
theorem w_tb_eqT (G : Kf K) {as bs : List D} (hM : Ok M) (ha : dOks as = true) (hb : dOks bs = true) (da : dDeps as ≤ 50) (q : Q (.bl (eqv (.tup as) (.tup bs))) M) : Wp (callT (g_Tables__eq K) [TbD as, TbD bs] M) Q X := by
  refine call_is (r := .bl (eqv (.tup as) (.tup bs))) hM rfl ?_ q
  unfold g_Tables__eq
  rw [w_body]
  unfold fb_Tables__eq
  decreasing_trivial
  have e : gIsi K ["Tables"] ["InvalidTables", "MarkError"] [TbD bs, .cls "Tables"] M = some (.bl true) := by
    show (some (.ref (ga K "Tables"))).bind (fun u => (isiD K ["Tables"] ["InvalidTables", "MarkError"] M (TbD bs) fun t => kitOne K t u).map D.bl) = _
    rw [Option.bind_some]
    have e2 : isiD K ["Tables"] ["InvalidTables", "MarkError"] M (TbD bs) (fun t => kitOne K t (.ref (ga K "Tables"))) = kitOne K (.ref (ga K "Tables")) (.ref (ga K "Tables")) := if_pos (e := none) (show ("Tables" : Str) ∈ (["Tables"] : List Str) by decide)
    rw [e2, kitOne_self]; rfl
  rw [e]
  decreasing_trivial
  rw [fld_held, fld_held]
  decreasing_trivial
  have ee : oEq (.tup as) (.tup bs) M = some (.bl (eqv (.tup as) (.tup bs))) := by
    unfold oEq
    rw [eqD_ok (show dOk (.tup as) = true from ha) (show dOk (.tup bs) = true from hb) (show dDeps as + 1 ≤ 60 by omega)]; rfl
  rw [ee]
  decreasing_trivial
  (all_goals first | done | trivial | rfl | exact ⟨rfl, rfl⟩ | exact ⟨trivial, trivial⟩ | exact ⟨rfl, [], by simp⟩ | exact ⟨[], by simp⟩)
theorem w_tb_eqD (G : Kf K) {as : List D} {d : D} (hM : Ok M) (hd : dOk d = true) (q : Q (.bl false) M) : Wp (callT (g_Tables__eq K) [TbD as, d] M) Q X := by
  refine call_is (r := .bl false) hM rfl ?_ q
  unfold g_Tables__eq
  rw [w_body]
  unfold fb_Tables__eq
  decreasing_trivial
  have e : gIsi K ["Tables"] ["InvalidTables", "MarkError"] [d, .cls "Tables"] M = some (.bl false) := by
    have k : ∀ T, kitOne K (.type T) (.ref (ga K "Tables")) = some false → (some (Value.ref (ga K "Tables"))).bind (fun u => (kitOne K (.type T) u).map D.bl) = some (.bl false) := fun T h => by
      rw [Option.bind_some, h]; rfl
    cases d with
    | non => exact k _ G.q_NoneType_Tables
    | bl _ => exact k _ G.q_bool_Tables
    | int _ => exact k _ G.q_int_Tables
    | str _ => exact k _ G.q_str_Tables
    | tup _ => exact k _ G.q_tuple_Tables
    | lst _ => exact k _ G.q_list_Tables
    | _ => unfold dOk at hd; cases hd
  rw [e]
  decreasing_trivial
  (all_goals first | done | trivial | rfl | exact ⟨rfl, rfl⟩ | exact ⟨trivial, trivial⟩ | exact ⟨rfl, [], by simp⟩ | exact ⟨[], by simp⟩)
end
end L2.MK.W_k14

end

section
set_option Elab.async false
set_option linter.all false
set_option maxRecDepth 100000
set_option maxHeartbeats 1000000
set_option autoImplicit false
set_option exponentiation.threshold 2000
namespace L2.MK.W_k14
local macro_rules
  | `(tactic| decreasing_trivial) => `(tactic| try simp only [w_bind, w_pure, w_pure', w_opt, w_var, w_C, w_bin, w_un, w_call, w_fun, w_nil, w_cons, w_tup, w_lst, w_lstM, w_dctM, w_isBl, w_bTru, w_bOf, w_and, w_or, w_not, wb_and, wb_or, wb_not, wb_yes, w_if, w_chain, w_cut, w_cutM, w_sNo, w_isI, w_sAt, w_meth, w_setd,
  ws_skip, ws_seq, ws_exp, ws_ret, ws_retN, ws_if, ws_asg, ws_gN, ws_gNils, ws_gConss, ws_gTup, ws_gSub, ws_raise, ws_try, ws_noRet, sm_some,
  startD, List.map_cons, List.map_nil, List.length_cons, List.length_nil, List.replicate, List.cons_append, List.nil_append, List.getElem?_cons_zero, List.getElem?_cons_succ, List.set_cons_zero, List.set_cons_succ, Option.join_some, Option.join_none, Nat.reduceAdd, Nat.reduceSub, Nat.add_zero, Nat.zero_add,
  sqD_lst, sqD_tup, sqD_rol, gLen_lst, gLen_tup, gInt_int, gInt_bl, gAbs_int, oAdd_int, oSub_int, oLt_int, oLe_int, oGt_int, oGe_int, oIx_lst, oIx_tup, oEq_int, oNe_int, true_and, and_true, true_implies, seqF_lst, seqF_tup, seqF_str, sqF_lst, sqF_tup, truD_bl, isStr, isTupB, isLst, ↓reduceIte, Bool.false_eq_true, Bool.not_true, Bool.not_false, setPt_nm, setPt_tp, setPts_nil, setPts_cons, wipeD_nil, wipeD_cons])
open PySem PySem.Spec PyProof.Rows PySem.W He
section
variable {K : Frag} {M : Sto} {Q : D → Sto → Prop} {X : XP}
/-- a value that is in no tables -/
structure St (s : D) : Prop where
  ra : raB s = true
  bk : dBk s ≤ 1000
  cl : cl 0 s = true
  zz : rowB s = true → nmR s = "zz"
theorem rowB_3 {a b c : D} : rowB (.tup [a, b, c]) = (wordB a && (wordB b && valsB c)) := rfl
theorem st_of {d : D} (h : dOk d = true) (b : dBk d ≤ 1000) (z : rowB d = true → nmR d = "zz") : St d := ⟨raB_of h, b, cl_dOk h, z⟩
theorem bk_is (vs : List Int) : dBks (vs.map D.int) = vs.length := by
  induction vs with
  | nil => rfl
  | cons a r ih => rw [List.map_cons, dBks, ih]; simp only [dBk, List.length_cons]; omega
theorem ok3 {a b c : D} (h1 : dOk a = true) (h2 : dOk b = true) (h3 : dOk c = true) : dOk (.tup [a, b, c]) = true := by
  show (dOk a && (dOk b && (dOk c && true))) = true
  rw [h1, h2, h3]; rfl
theorem bk3 (a b c : D) : dBk (.tup [a, b, c]) = dBk a + 1 + (dBk b + 1 + (dBk c + 1 + 0)) := rfl
theorem vals_no {c : D} (h : valsB c = false) {a b : D} {P : Prop} : rowB (.tup [a, b, c]) = true → P := fun z => by
  rw [rowB_3, h, Bool.and_false, Bool.and_false] at z; cases z
theorem vals_bl {xs : List D} (h : ∃ b, D.bl b ∈ xs) : valsB (.tup xs) = false := by
  obtain ⟨b, hb⟩ := h
  rw [valsB_tup]
  have : xs.all valB = false := by
    rw [List.all_eq_false]
    exact ⟨_, hb, by show ¬ (false = true); decide⟩
  rw [this, Bool.and_false, Bool.and_false]
theorem atI_last {xs : List D} (h : xs ≠ []) : ∃ x, atI xs (-1) = some x ∧ x ∈ xs ∧ xs[xs.length - 1]? = some x := by
  have hl : 0 < xs.length := List.length_pos_iff.mpr h
  have g : xs[xs.length - 1]? = some xs[xs.length - 1] := List.getElem?_eq_getElem (by omega)
  refine ⟨xs[xs.length - 1], ?_, List.getElem_mem _, g⟩
  unfold atI ixN
  rw [if_neg (by decide), if_pos (by omega)]
  simp only [Option.bind_some]
  rw [show ((-1 : Int) + (xs.length : Int)).toNat = xs.length - 1 by omega]
  exact g
theorem oCut_tup (xs : List D) (a b : Option Int) : oCut (.tup xs) a b M = some (.tup (cutD xs a b)) := rfl
theorem word_len {z : Str} (h : wordB (.str z) = true) : z.cps.size ≤ 8 := by
  rw [wordB_str] at h
  simp only [Bool.and_eq_true, decide_eq_true_eq] at h
  exact h.2.1
theorem oNeg_int (i : Int) : oNeg (.int i) M = some (.int (-i)) := rfl
theorem st_app {xs ys : List D} (h : ∀ y ∈ xs, St y) (t : ∀ y ∈ ys, St y) : ∀ y ∈ xs ++ ys, St y := fun y hy => by
  rcases List.mem_append.mp hy with z | z
  · exact h y z
  · exact t y z
theorem st_cons {x : D} {r : List D} (h : St x) (t : ∀ y ∈ r, St y) : ∀ y ∈ x :: r, St y := fun y hy => by
  rcases List.mem_cons.mp hy with z | z
  · subst z; exact h
  · exact t y z
theorem st_nil : ∀ y ∈ ([] : List D), St y := fun y h => nomatch h
theorem st_first : ∀ y ∈ [D.non, .int 7, .str "r", .tup [.str "zz", .str "e", .tup [.int 1, .int 2]], .lst [.str "r"], .tup [], .tup [.str "r", .str "e", .int 7], .tup [.str "r", .str "e", .dct [.inl 1] [.int 2]]], St y :=
  st_cons (st_of rfl (by decide) fun h => by cases h) (st_cons (st_of rfl (by decide) fun h => by cases h) (st_cons (st_of (by decide) (by decide) fun h => by cases h) (st_cons (st_of (by decide) (by decide) fun _ => rfl)
    (st_cons (st_of (by decide) (by decide) fun h => by cases h) (st_cons (st_of rfl (by decide) fun h => by cases h) (st_cons (st_of (by decide) (by decide) (vals_no rfl)) (st_cons ⟨by decide, by decide, by decide, vals_no rfl⟩ st_nil)))))))
theorem w_law_strange {xs : List D} (hM : Ok M) (hx : dOks xs = true) (hr : ∀ x ∈ xs, rowB x = true) (hl : xs.length ≤ 6) (q : ∀ ss, ss.length ≤ 50 → (∀ s ∈ ss, St s) → Q (.lst ss) M) : Wp (callT (g_law_strange K) [.lst xs] M) Q X := by
  refine call_pure hM ?_
  unfold g_law_strange
  rw [w_body]
  unfold fb_law_strange
  decreasing_trivial
  simp only [sz, Nat.reduceLeDiff, true_and]
  refine ws_for (fun zs i δ M' => zs = xs ∧ M = M' ∧ ∃ u2 u3 u4 ss, δ = [some (.lst xs), some (.lst ss), u2, u3, u4] ∧ ss.length ≤ 8 + 6 * i ∧ ∀ s ∈ ss, St s) ?_
  refine wi_seq ?_
  decreasing_trivial
  refine ⟨⟨_, _, _, _, rfl, by simp, st_first⟩, fun i x δ M' hxi ⟨eM, u2, u3, u4, ss, ed, sl, hs⟩ => ?_, fun δ M' ⟨eM, u2, u3, u4, ss, ed, sl, hs⟩ => ?_⟩
  · subst eM ed
    have hi : i < xs.length := by
      rcases Nat.lt_or_ge i xs.length with z | z
      · exact z
      · rw [List.getElem?_eq_none z] at hxi; cases hxi
    have hm := List.mem_of_getElem? hxi
    obtain ⟨n, t, vs, rfl, v1, v3, _, wn, wt⟩ := row_shape (hr x hm)
    obtain ⟨o1, o2, o3⟩ := ok_R3 (dOks_mem.mp hx _ hm)
    have bn := word_len wn
    have bt := word_len wt
    have b1 : dBk (.str n) ≤ 8 := bn
    have b2 : dBk (.str t) ≤ 8 := bt
    have vne : vs.map D.int ≠ [] := by
      intro e
      have := congrArg List.length e
      rw [List.length_map, List.length_nil] at this; omega
    have bkc : ∀ zs : List D, (∀ z ∈ zs, dBk z = 0) → dBk (.tup zs) = zs.length := fun zs h => by
      show dBks zs = _
      induction zs with
      | nil => rfl
      | cons a r ih =>
        have h0 := h a (List.mem_cons_self ..)
        rw [dBks, ih fun z hz => h z (List.mem_cons_of_mem _ hz), h0, List.length_cons]; omega
    have iz : ∀ z ∈ vs.map D.int, dBk z = 0 := fun z hz => by
      obtain ⟨i, _, rfl⟩ := List.mem_map.mp hz; rfl
    decreasing_trivial
    obtain ⟨v0, ev0, m0, _⟩ := atI_at (xs := vs.map D.int) (i := 0) (by decide) (by simp; omega)
    obtain ⟨i0, _, rfl⟩ := List.mem_map.mp m0
    obtain ⟨vl, evl, ml, _⟩ := atI_last vne
    obtain ⟨il, _, rfl⟩ := List.mem_map.mp ml
    try simp only [sz, Nat.reduceLeDiff, true_and]
    rw [ev0]
    decreasing_trivial
    try simp only [sz, Nat.reduceLeDiff, true_and]
    rw [oCut_tup]
    decreasing_trivial
    have c1 := cut_le (vs.map D.int) (some 1) none
    have c2 := cut_le (vs.map D.int) none (some (-1))
    rw [List.length_map] at c1 c2
    rw [oAdd_tup (by rw [sz]; simp only [List.length_cons, List.length_nil]; omega)]
    decreasing_trivial
    try simp only [sz, Nat.reduceLeDiff, true_and]
    rw [oAdd_lst (by rw [sz]; simp only [List.length_cons, List.length_nil]; omega)]
    decreasing_trivial
    try simp only [sz, Nat.reduceLeDiff, true_and, oNeg_int]
    decreasing_trivial
    try simp only [sz, Nat.reduceLeDiff, true_and, oNeg_int]
    decreasing_trivial
    rw [oCut_tup]
    decreasing_trivial
    try simp only [sz, Nat.reduceLeDiff, true_and, oNeg_int]
    decreasing_trivial
    rw [evl]
    decreasing_trivial
    try simp only [sz, Nat.reduceLeDiff, true_and]
    rw [oAdd_tup (by rw [sz]; simp only [List.length_cons, List.length_nil]; omega)]
    decreasing_trivial
    try simp only [sz, Nat.reduceLeDiff, true_and, gList_tup]
    decreasing_trivial
    try simp only [sz, Nat.reduceLeDiff, true_and, gList_tup]
    rw [oAdd_lst (by rw [sz]; simp only [List.length_cons, List.length_nil, List.length_append]; omega)]
    decreasing_trivial
    try simp only [sz, Nat.reduceLeDiff, true_and]
    rw [oAdd_lst (by rw [sz]; simp only [List.length_cons, List.length_nil, List.length_append]; omega)]
    decreasing_trivial
    have s1 : dOks (cutD (vs.map D.int) (some 1) none) = true := sub_ok o3 fun d hd => cut_mem hd
    have s2 : dOks (cutD (vs.map D.int) none (some (-1))) = true := sub_ok o3 fun d hd => cut_mem hd
    have l1 : dOk (.tup ([D.bl (decide (i0 = 1))] ++ cutD (vs.map D.int) (some 1) none)) = true := by
      show (true && dOks (cutD (vs.map D.int) (some 1) none)) = true
      rw [s1]; rfl
    have l2 : dOk (.tup (cutD (vs.map D.int) none (some (-1)) ++ [D.bl (decide (il = 1))])) = true := dOks_mem.mpr fun d hd => by
      rcases List.mem_append.mp hd with z | z
      · exact dOks_mem.mp s2 d z
      · rw [List.mem_singleton] at z; subst z; rfl
    have z1 : dBk (.tup ([D.bl (decide (i0 = 1))] ++ cutD (vs.map D.int) (some 1) none)) ≤ 10 := by
      rw [bkc _ fun z hz => by
        rcases List.mem_append.mp hz with w | w
        · rw [List.mem_singleton] at w; subst w; rfl
        · exact iz z (cut_mem w)]
      simp only [List.length_append, List.length_cons, List.length_nil]; omega
    have z1' : dBk (.tup (D.bl (decide (i0 = 1)) :: cutD (vs.map D.int) (some 1) none)) ≤ 10 := z1
    have z2 : dBk (.tup (cutD (vs.map D.int) none (some (-1)) ++ [D.bl (decide (il = 1))])) ≤ 10 := by
      rw [bkc _ fun z hz => by
        rcases List.mem_append.mp hz with w | w
        · exact iz z (cut_mem w)
        · rw [List.mem_singleton] at w; subst w; rfl]
      simp only [List.length_append, List.length_cons, List.length_nil]; omega
    have z3 : dBk (.tup (vs.map D.int)) ≤ 3 := by rw [bkc _ iz, List.length_map]; exact v3
    have z4 : dBk (.lst (vs.map D.int)) ≤ 3 := z3
    have lok : dOk (.lst [D.str n, .str t, .tup (vs.map .int)]) = true := ok3 o1 o2 o3
    refine ⟨_, _, _, _, rfl, by simp only [List.length_cons, List.length_nil, List.length_append]; omega, st_app (st_app (st_app hs ?_) ?_) ?_⟩
    · refine st_cons (st_of lok ?_ fun h => by cases h) (st_cons (st_of (ok3 o1 o2 l1) ?_ (vals_no (vals_bl ⟨_, List.mem_cons_self ..⟩))) (st_cons (st_of (ok3 o1 o2 rfl) ?_ (vals_no rfl)) st_nil))
      · show dBks [D.str n, .str t, .tup (vs.map .int)] ≤ 1000
        have e := bk3 (.str n) (.str t) (.tup (vs.map D.int))
        have : dBks [D.str n, .str t, .tup (vs.map .int)] = dBk (.tup [D.str n, .str t, .tup (vs.map .int)]) := rfl
        omega
      · rw [bk3]; omega
      · rw [bk3]; have : dBk D.non = 0 := rfl; omega
    · refine st_cons (st_of (ok3 o1 o2 l2) ?_ (vals_no (vals_bl ⟨_, List.mem_append_right _ (List.mem_cons_self ..)⟩))) (st_cons (st_of (ok3 o1 o2 o3) ?_ (vals_no rfl)) st_nil)
      · rw [bk3]; omega
      · rw [bk3]; omega
    · refine st_cons (st_of (ok3 (show (dOk (.str n) && true) = true by rw [o1]; rfl) o2 o3) ?_ fun h => ?_) st_nil
      · rw [bk3]; have : dBk (.lst [D.str n]) = dBk (.str n) + 1 + 0 := rfl; omega
      · rw [rowB_3] at h; cases h
  · subst eM ed
    decreasing_trivial
    exact ⟨[], by simp, cls_mem.mpr fun d hd => cl_mono (Nat.zero_le _) (hs d hd).cl, q ss (by omega) hs⟩
end
end L2.MK.W_k14

end

section
set_option Elab.async false
set_option linter.all false
set_option maxRecDepth 100000
set_option maxHeartbeats 1000000
set_option autoImplicit false
set_option exponentiation.threshold 2000
namespace L2.MK.W_k14
local macro_rules
  | `(tactic| decreasing_trivial) => `(tactic| try simp only [w_bind, w_pure, w_pure', w_opt, w_var, w_C, w_bin, w_un, w_call, w_fun, w_nil, w_cons, w_tup, w_lst, w_lstM, w_dctM, w_isBl, w_bTru, w_bOf, w_and, w_or, w_not, wb_and, wb_or, wb_not, wb_yes, w_if, w_chain, w_cut, w_cutM, w_sNo, w_isI, w_sAt, w_meth, w_setd,
  ws_skip, ws_seq, ws_exp, ws_ret, ws_retN, ws_if, ws_asg, ws_gN, ws_gNils, ws_gConss, ws_gTup, ws_gSub, ws_raise, ws_try, ws_noRet, sm_some,
  startD, List.map_cons, List.map_nil, List.length_cons, List.length_nil, List.replicate, List.cons_append, List.nil_append, List.getElem?_cons_zero, List.getElem?_cons_succ, List.set_cons_zero, List.set_cons_succ, Option.join_some, Option.join_none, Nat.reduceAdd, Nat.reduceSub, Nat.add_zero, Nat.zero_add,
  sqD_lst, sqD_tup, sqD_rol, gLen_lst, gLen_tup, gInt_int, gInt_bl, gAbs_int, oAdd_int, oSub_int, oLt_int, oLe_int, oGt_int, oGe_int, oIx_lst, oIx_tup, oEq_int, oNe_int, true_and, and_true, true_implies, seqF_lst, seqF_tup, seqF_str, sqF_lst, sqF_tup, truD_bl, isStr, isTupB, isLst, ↓reduceIte, Bool.false_eq_true, Bool.not_true, Bool.not_false, setPt_nm, setPt_tp, setPts_nil, setPts_cons, wipeD_nil, wipeD_cons])
open PySem PySem.Spec PyProof.Rows PySem.W He
section
variable {K : Frag} {M : Sto} {Q : D → Sto → Prop} {X : XP}
theorem eqv_row {x y : D} (hx : rowB x = true) (hy : rowB y = true) : eqv x y = true ↔ x = y := by
  obtain ⟨n, t, vs, rfl, _⟩ := row_shape hx
  obtain ⟨n', t', vs', rfl, _⟩ := row_shape hy
  rw [eqv_R3, decide_eq_true_eq]
  constructor
  · rintro ⟨rfl, rfl, rfl⟩; rfl
  · intro h
    have h1 := congrArg nmR h
    have h2 := congrArg tbR h
    have h3 := congrArg vsR h
    rw [vsR_3, vsR_3] at h3
    exact ⟨h1, h2, h3⟩
theorem con_no {hs : List D} {d : D} (hr : ∀ y ∈ hs, rowB y = true) (h : rowB d = true → d ∉ hs) : conB hs d = false := by
  unfold conB
  cases q : rowB d with
  | false => rfl
  | true =>
    rw [Bool.true_and, List.any_eq_false]
    intro y hy e
    exact h q ((eqv_row (hr y hy) q).mp e ▸ hy)
theorem con_yes {hs : List D} {d : D} (hr : rowB d = true) (hd : dOk d = true) (h : d ∈ hs) : conB hs d = true := by
  unfold conB
  rw [hr, Bool.true_and, List.any_eq_true]
  exact ⟨d, h, eqv_self hd⟩
theorem eqv_tup {as bs : List D} (ha : dOks as = true) (hb : dOks bs = true) (h : as.length ≠ bs.length) : eqv (.tup as) (.tup bs) = false := by
  obtain ⟨ps, e1, _⟩ := pys_ok ha
  obtain ⟨qs, e2, _⟩ := pys_ok hb
  have f1 : (D.tup as).py = some (.tuple ps) := by unfold D.py; rw [e1]; rfl
  have f2 : (D.tup bs).py = some (.tuple qs) := by unfold D.py; rw [e2]; rfl
  unfold eqv pyD
  rw [f1, f2]
  show PyData.eqvAll ps qs = false
  have ln : ∀ {xs : List D} {ps : List PyData}, D.pys xs = some ps → ps.length = xs.length := by
    intro xs
    induction xs with
    | nil => intro ps e; unfold D.pys at e; cases e; rfl
    | cons a r ih =>
      intro ps e
      unfold D.pys at e
      split at e
      · rename_i p1 p2 q1 q2
        cases e
        rw [List.length_cons, List.length_cons, ih q2]
      · cases e
  have key : ∀ {ps qs : List PyData}, ps.length ≠ qs.length → PyData.eqvAll ps qs = false := by
    intro ps
    induction ps with
    | nil => intro qs h; cases qs with
      | nil => exact absurd rfl h
      | cons _ _ => rfl
    | cons a r ih => intro qs h; cases qs with
      | nil => rfl
      | cons b s =>
        rw [PyData.eqvAll, ih (by simpa using h), Bool.and_false]
  exact key (by rw [ln e1, ln e2]; exact h)
theorem eqv_tup1 {a b : D} (ha : dOk a = true) (hb : dOk b = true) : eqv (.tup [a]) (.tup [b]) = eqv a b := by
  obtain ⟨p, e1, _⟩ := py_ok ha
  obtain ⟨r, e2, _⟩ := py_ok hb
  have f1 : (D.tup [a]).py = some (.tuple [p]) := by unfold D.py D.pys D.pys; rw [e1]; rfl
  have f2 : (D.tup [b]).py = some (.tuple [r]) := by unfold D.py D.pys D.pys; rw [e2]; rfl
  unfold eqv pyD
  rw [f1, f2, e1, e2]
  show (PyData.eqv p r && true) = _
  rw [Bool.and_true]; rfl
theorem oNe_dat {a b : D} (ha : dOk a = true) (hb : dOk b = true) (da : dDep a ≤ 60) : oNe a b M = some (.bl (!eqv a b)) := by
  unfold oNe
  rw [eqD_ok ha hb da]; rfl
/-- a row that differs from the first, if it is there -/
structure Tn (hs : List D) (r0 x : D) : Prop where
  ok : dOk x = true
  row : rowB x = true
  bk : dBk x ≤ 1000
  no : x ≠ r0 → conB hs x = false
theorem sort1 (x : D) : [x].mergeSort leD = [x] := by simp
theorem gTuple_lst (xs : List D) : gTuple [.lst xs] M = some (.tup xs) := rfl
theorem gTuple_tup (xs : List D) : gTuple [.tup xs] M = some (.tup xs) := rfl
theorem gList_lst (xs : List D) : gList [.lst xs] M = some (.lst xs) := rfl
theorem rep1 (k : Nat) (x : Int) : repL k [D.int x] = (List.replicate k x).map D.int := by
  unfold repL
  induction k with
  | zero => rfl
  | succ k ih => rw [List.replicate_succ, List.flatten_cons, ih]; rfl
theorem vals_is {vs : List Int} (h1 : 1 ≤ vs.length) (h3 : vs.length ≤ 3) (hb : ∀ v ∈ vs, -1000000000 ≤ v ∧ v ≤ 1000000000) : valsB (.tup (vs.map .int)) = true := by
  rw [valsB_tup, List.length_map, decide_eq_true h1, decide_eq_true h3, Bool.true_and, Bool.true_and, List.all_eq_true]
  intro d hd
  obtain ⟨v, hv, rfl⟩ := List.mem_map.mp hd
  obtain ⟨a, b⟩ := hb v hv
  rw [valB_int, decide_eq_true a, decide_eq_true b]; rfl
theorem oks_is {vs : List Int} (hb : ∀ v ∈ vs, -1000000000 ≤ v ∧ v ≤ 1000000000) : dOks (vs.map D.int) = true := dOks_mem.mpr fun d hd => by
  obtain ⟨v, hv, rfl⟩ := List.mem_map.mp hd
  obtain ⟨a, b⟩ := hb v hv
  show (decide ((-999999999999 : Int) ≤ v) && decide (v ≤ 999999999999)) = true
  rw [decide_eq_true (by omega), decide_eq_true (by omega)]; rfl
theorem bk_R3 {n t : Str} {vs : List Int} (h1 : n.cps.size ≤ 8) (h2 : t.cps.size ≤ 8) (h3 : vs.length ≤ 3) : dBk (R3 n t vs) ≤ 1000 := by
  have b1 : dBk (.str n) ≤ 8 := h1
  have b2 : dBk (.str t) ≤ 8 := h2
  have b3 : dBk (.tup (vs.map D.int)) ≤ 3 := by show dBks _ ≤ 3; rw [bk_is]; exact h3
  rw [bk3]; omega
theorem tn_of {hs : List D} {x0 : D} {n t : Str} {vs : List Int} (hrow : ∀ y ∈ hs, rowB y = true) (on : dOk (.str n) = true) (ot : dOk (.str t) = true) (wn : wordB (.str n) = true) (wt : wordB (.str t) = true) (h1 : 1 ≤ vs.length) (h3 : vs.length ≤ 3) (hb : ∀ v ∈ vs, -1000000000 ≤ v ∧ v ≤ 1000000000)
    (no : R3 n t vs ∈ hs → R3 n t vs = x0) : Tn hs x0 (R3 n t vs) := ⟨ok3 on ot (oks_is hb), by rw [rowB_3, wn, wt, vals_is h1 h3 hb]; rfl, bk_R3 (word_len wn) (word_len wt) h3, fun ne => con_no hrow fun _ m => ne (no m)⟩
theorem w_parts_hold (G : Kf K) {xs : List D} (hM : Ok M) (hx : dOks xs = true) (bk : dBks xs ≤ 2 ^ 20) (dp : dDeps xs ≤ 50) (hg : terrL xs = .non) (hz : ∀ x ∈ xs, nmR x ≠ "zz") (q : Q (.bl true) M) : Wp (callT (g_law_parts_hold K) [.lst xs] M) Q X := by
  refine call_is (r := .bl true) hM rfl ?_ q
  have gd := good_of hg
  have mm : ∀ y, y ∈ xs.mergeSort leD ↔ y ∈ xs := fun y => (List.mergeSort_perm _ _).mem_iff
  have hlen : (xs.mergeSort leD).length = xs.length := (List.mergeSort_perm _ _).length_eq
  have hh : dOks (xs.mergeSort leD) = true := sub_ok hx fun d hd => (mm d).mp hd
  have hd : dDeps (xs.mergeSort leD) ≤ 50 := Nat.le_trans (sub_dep fun d hd => (mm d).mp hd) dp
  have hrow : ∀ y ∈ xs.mergeSort leD, rowB y = true := fun y hy => gd.row y ((mm y).mp hy)
  have ll := gd.len
  have srev := sort_rev gd
  have snm := sort_nms gd
  have okR : dOks xs.reverse = true := sub_ok hx fun d hd => List.mem_reverse.mp hd
  have ok1 : Ok (M ++ [MO.lst xs.reverse]) := ok_snoc hM (cls_dOk okR)
  have ok2 : Ok (M ++ [MO.lst (xs.reverse ++ [.non])]) := ok_snoc hM (cls_dOk (dOks_mem.mpr fun d hd => by
    rcases List.mem_append.mp hd with z | z
    · exact dOks_mem.mp okR d z
    · rw [List.mem_singleton] at z; subst z; rfl))
  unfold g_law_parts_hold
  rw [w_body]
  unfold fb_law_parts_hold
  (try simp only [startD, List.map_cons, List.map_nil, List.length_cons, List.length_nil, List.replicate, List.cons_append, List.nil_append, Nat.reduceAdd, Nat.reduceSub])
  generalize hhs : xs.mergeSort leD = hs at *
  refine ws_cut (fun δ M' => δ = [some (.lst xs), some (.ref M.length), none, none, none, none, none, none, none, none, none, none] ∧ M' = M ++ [.lst xs.reverse]) ?_ ?_
  · decreasing_trivial
    (try simp only [w_binE, w_unE, w_callE, w_revM, w_addM])
    decreasing_trivial
    rw [gList_lst]
    decreasing_trivial
    have e : rvw M (.lst xs) = some xs := rfl
    rw [e]
    decreasing_trivial
    (all_goals first | done | trivial | rfl | exact ⟨rfl, rfl⟩ | exact ⟨trivial, trivial⟩ | exact ⟨rfl, [], by simp⟩ | exact ⟨[], by simp⟩)
  rintro _ _ ⟨rfl, rfl⟩
  refine ws_cut (fun δ M' => δ = [some (.lst xs), some (.ref M.length), some (TbD hs), none, none, none, none, none, none, none, none, none] ∧ M' = M ++ [.lst xs.reverse]) ?_ ?_
  · decreasing_trivial
    refine w_make ok1 (.inr ⟨M.length, rfl, by rw [List.getElem?_append_right (Nat.le_refl _)]; simp⟩) okR ?_ (fun _ => ?_) fun h => absurd (of_good gd.rev) h
    · have e : dBks xs.reverse = dBks xs := by
        have pr : ∀ {a b : List D}, a.Perm b → dBks a = dBks b := fun p => by
          induction p with
          | nil => rfl
          | cons x _ ih => rw [dBks, dBks, ih]
          | swap x y l => simp only [dBks]; omega
          | trans _ _ h1 h2 => rw [h1, h2]
        exact pr (List.reverse_perm xs)
      rw [e]; exact bk
    · rw [srev]
      decreasing_trivial
      (all_goals first | done | trivial | rfl | exact ⟨rfl, rfl⟩ | exact ⟨trivial, trivial⟩ | exact ⟨rfl, [], by simp⟩ | exact ⟨[], by simp⟩)
  rintro _ _ ⟨rfl, rfl⟩
  refine ws_cut (fun δ M' => δ = [some (.lst xs), some (.ref M.length), some (TbD hs), none, none, none, none, none, none, none, none, none] ∧ M' = M ++ [.lst (xs.reverse ++ [.non])]) ?_ ?_
  · have at1 : (M ++ [MO.lst xs.reverse])[M.length]? = some (.lst xs.reverse) := by rw [List.getElem?_append_right (Nat.le_refl _)]; simp
    decreasing_trivial
    refine ⟨tyOk_ref at1, ?_⟩
    rw [append_ref at1 (by rw [List.length_reverse, sz]; omega), List.set_append_right _ _ (Nat.le_refl _), Nat.sub_self]
    decreasing_trivial
    (all_goals first | done | trivial | rfl | exact ⟨rfl, rfl⟩ | exact ⟨trivial, trivial⟩ | exact ⟨rfl, [], by simp⟩ | exact ⟨[], by simp⟩)
  rintro _ _ ⟨rfl, rfl⟩
  generalize hM2 : M ++ [MO.lst (xs.reverse ++ [.non])] = M2 at ok2
  have fin : ∃ L2, M2 = M ++ L2 := ⟨_, hM2.symm⟩
  -- rows and names
  refine ws_cut (fun δ M' => δ = [some (.lst xs), some (.ref M.length), some (TbD hs), none, none, none, none, none, none, none, none, none] ∧ M2 = M') ?_ ?_
  · decreasing_trivial
    (try simp only [w_binE, w_unE, w_callE, w_revM, w_addM])
    decreasing_trivial
    refine ev_pr_ins (w_tb_rows ok2 hh ?_)
    decreasing_trivial
    rw [gSort_rows rfl gd.row, hhs]
    decreasing_trivial
    rw [gTuple_lst]
    decreasing_trivial
    rw [ev_ne_dat rfl, oNe_same (show dOk (.tup hs) = true from hh) (show dDeps hs + 1 ≤ 60 by omega)]
    decreasing_trivial
    (try simp only [w_binE, w_unE, w_callE, w_revM, w_addM])
    decreasing_trivial
    refine ev_pr_ins (w_tb_names ok2 hrow (by omega) ?_)
    decreasing_trivial
    refine w_lcP xs (fun _ => true) nmD ok2 (by rw [sz]; omega) ?_ (fun y hy M3 hM3 => ?_) (fun y hy _ => rfl) ?_
    · refine wi_seq ?_
      decreasing_trivial
      (all_goals first | done | trivial | rfl | exact ⟨rfl, rfl⟩ | exact ⟨trivial, trivial⟩ | exact ⟨rfl, [], by simp⟩ | exact ⟨[], by simp⟩)
    · obtain ⟨n, t, vs, rfl, _⟩ := row_shape (gd.row y hy)
      decreasing_trivial
      rw [atI0]
      decreasing_trivial
      (all_goals first | done | trivial | rfl | exact ⟨rfl, rfl⟩ | exact ⟨trivial, trivial⟩ | exact ⟨rfl, [], by simp⟩ | exact ⟨[], by simp⟩)
    · rw [filter_yes, show xs.map nmD = (xs.map nmR).map D.str by rw [List.map_map]; rfl, gSort_strs]
      decreasing_trivial
      rw [gTuple_lst]
      decreasing_trivial
      have e : ((xs.map nmR).map D.str).mergeSort leD = hs.map nmD := by rw [snm, List.map_map]; rfl
      have okn : dOks (hs.map nmD) = true := dOks_mem.mpr fun d hd => by
        obtain ⟨y, hy, rfl⟩ := List.mem_map.mp hd
        obtain ⟨n, t, vs, rfl, _⟩ := row_shape (hrow y hy)
        exact (ok_R3 (dOks_mem.mp hh _ hy)).1
      have dpn : dDeps (hs.map nmD) ≤ 0 := dDeps_le.mpr fun d hd => by
        obtain ⟨y, hy, rfl⟩ := List.mem_map.mp hd
        exact Nat.le_refl _
      rw [e, ev_ne_dat rfl, oNe_same (show dOk (.tup (hs.map nmD)) = true from okn) (show dDeps (hs.map nmD) + 1 ≤ 60 by omega)]
      decreasing_trivial
      (all_goals first | done | trivial | rfl | exact ⟨rfl, rfl⟩ | exact ⟨trivial, trivial⟩ | exact ⟨rfl, [], by simp⟩ | exact ⟨[], by simp⟩)
  rintro _ _ ⟨rfl, rfl⟩
  -- len, in, another one
  refine ws_cut (fun δ M' => δ = [some (.lst xs), some (.ref M.length), some (TbD hs), none, none, none, none, none, none, none, none, none] ∧ M2 = M') ?_ ?_
  · decreasing_trivial
    (try simp only [w_binE, w_unE, w_callE, w_revM, w_addM])
    decreasing_trivial
    refine ev_len_ins (w_tb_len ok2 ⟨_, rfl, by omega, by omega, ?_⟩)
    decreasing_trivial
    rw [ev_len_dat rfl]
    decreasing_trivial
    rw [ev_ne_dat rfl]
    decreasing_trivial
    rw [hlen, decide_eq_true rfl]
    decreasing_trivial
    (try simp only [w_binE, w_unE, w_callE, w_revM, w_addM])
    decreasing_trivial
    refine w_lcP xs (fun y => !conB hs y) id ok2 (by rw [sz]; omega) ?_ (fun y hy M3 hM3 => ?_) (fun y hy _ => cl_dOk (dOks_mem.mp hx y hy)) ?_
    · refine wi_seq ?_
      decreasing_trivial
      (all_goals first | done | trivial | rfl | exact ⟨rfl, rfl⟩ | exact ⟨trivial, trivial⟩ | exact ⟨rfl, [], by simp⟩ | exact ⟨[], by simp⟩)
    · decreasing_trivial
      (try simp only [w_binE, w_unE, w_callE, w_revM, w_addM])
      decreasing_trivial
      refine ⟨ev_notin_ins (w_tb_con hM3 hh (raB_of (dOks_mem.mp hx y hy)) (bk_small hy bk) ⟨_, rfl, ?_⟩), fun _ => rfl⟩
      decreasing_trivial
      (all_goals first | done | trivial | rfl | exact ⟨rfl, rfl⟩ | exact ⟨trivial, trivial⟩ | exact ⟨rfl, [], by simp⟩ | exact ⟨[], by simp⟩)
    · have e : (xs.filter fun y => !conB hs y).map id = [] := by
        rw [List.map_id, List.filter_eq_nil_iff]
        intro y hy
        rw [con_yes (gd.row y hy) (dOks_mem.mp hx y hy) ((mm y).mpr hy)]
        simp
      rw [e]
      refine ⟨by rw [sz]; decide, ?_⟩
      rw [ev_ne_dat rfl, oNe_nil rfl (by decide)]
      decreasing_trivial
      (try simp only [w_binE, w_unE, w_callE, w_revM, w_addM])
      decreasing_trivial
      rw [gTuple_lst]
      decreasing_trivial
      refine w_make ok2 (.inl (.inr rfl)) hx bk (fun _ => ?_) fun h => absurd hg h
      rw [hhs]
      decreasing_trivial
      refine ev_ne_ins (knD_ins (by simp)) (w_tb_eqT G ok2 hh hh hd ⟨_, rfl, ?_⟩)
      rw [eqv_self (show dOk (.tup hs) = true from hh)]
      decreasing_trivial
      (all_goals first | done | trivial | rfl | exact ⟨rfl, rfl⟩ | exact ⟨trivial, trivial⟩ | exact ⟨rfl, [], by simp⟩ | exact ⟨[], by simp⟩)
  rintro _ _ ⟨rfl, rfl⟩
  -- what is in no tables
  refine ws_cut (fun δ M' => δ = [some (.lst xs), some (.ref M.length), some (TbD hs), none, none, none, none, none, none, none, none, none] ∧ M2 = M') ?_ ?_
  · decreasing_trivial
    (try simp only [w_binE, w_unE, w_callE, w_revM, w_addM])
    decreasing_trivial
    refine w_lc (M := M2) (fun ss i ys Ma => M2 = Ma ∧ ys = [] ∧ ss.length ≤ 50 ∧ ∀ s ∈ ss, St s) (wi_seq ?_)
    decreasing_trivial
    refine w_law_strange ok2 hx gd.row gd.len fun ss sl hs' => ?_
    decreasing_trivial
    refine ⟨⟨sl, hs'⟩, fun i x ys Ma hxi ⟨eM, ey, _, _⟩ le => ?_, fun ys Me le ⟨eM, ey, _, _⟩ => ?_⟩
    · subst eM ey
      have s := hs' x (List.mem_of_getElem? hxi)
      have okS : Ok (M2 ++ [MO.lst []]) := ok_snoc ok2 rfl
      decreasing_trivial
      (try simp only [w_binE, w_unE, w_callE, w_revM, w_addM])
      decreasing_trivial
      refine ev_in_ins (w_tb_con okS hh s.ra (Nat.le_trans s.bk (by decide)) ⟨_, rfl, ?_⟩)
      have e : conB hs x = false := con_no hrow fun r m => hz x ((mm x).mp m) (s.zz r)
      rw [e]
      decreasing_trivial
      exact ⟨M2, rfl, rfl, rfl, sl, hs'⟩
    · subst eM ey
      refine ⟨ok2, rfl, ?_⟩
      decreasing_trivial
      refine ⟨by rw [sz]; decide, ?_⟩
      rw [ev_ne_dat rfl, oNe_nil rfl (by decide)]
      decreasing_trivial
      (all_goals first | done | trivial | rfl | exact ⟨rfl, rfl⟩ | exact ⟨trivial, trivial⟩ | exact ⟨rfl, [], by simp⟩ | exact ⟨[], by simp⟩)
  rintro _ _ ⟨rfl, rfl⟩
  -- nothing else
  refine ws_cut (fun δ M' => (∃ u3, δ = [some (.lst xs), some (.ref M.length), some (TbD hs), u3, none, none, none, none, none, none, none, none]) ∧ M2 = M') ?_ ?_
  · refine ws_for (fun zs i δ M' => (∀ z ∈ zs, dOk z = true) ∧ (∃ u3, δ = [some (.lst xs), some (.ref M.length), some (TbD hs), u3, none, none, none, none, none, none, none, none]) ∧ M2 = M') ?_
    refine wi_seq ?_
    decreasing_trivial
    (try simp only [w_binE, w_unE, w_callE, w_revM, w_addM])
    decreasing_trivial
    refine ev_pr_ins (w_tb_rows ok2 hh ?_)
    decreasing_trivial
    (try simp only [w_binE, w_unE, w_callE, w_revM, w_addM])
    decreasing_trivial
    refine ev_pr_ins (w_tb_rows ok2 hh ?_)
    decreasing_trivial
    rw [gList_tup]
    decreasing_trivial
    (try simp only [w_binE, w_unE, w_callE, w_revM, w_addM])
    decreasing_trivial
    refine ev_pr_ins (w_tb_names ok2 hrow (by omega) ?_)
    decreasing_trivial
    have okn : dOks (hs.map nmD) = true := dOks_mem.mpr fun d hd => by
      obtain ⟨y, hy, rfl⟩ := List.mem_map.mp hd
      obtain ⟨n, t, vs, rfl, _⟩ := row_shape (hrow y hy)
      exact (ok_R3 (dOks_mem.mp hh _ hy)).1
    refine ⟨by rw [sz]; decide, by rw [sz]; decide, ⟨?_, none, rfl⟩, fun i x δ M' hxi ⟨hz', ⟨u3, ed⟩, eM⟩ => ?_, fun δ M' ⟨_, ⟨u3, ed⟩, eM⟩ => ⟨⟨u3, ed⟩, eM⟩⟩
    · intro z hz'
      simp only [List.mem_cons, List.not_mem_nil, or_false] at hz'
      rcases hz' with rfl | rfl | rfl | rfl | rfl | rfl
      · exact hh
      · exact hh
      · exact okn
      · rfl
      · rfl
      · rfl
    · subst ed eM
      have ox := hz' x (List.mem_of_getElem? hxi)
      decreasing_trivial
      (try simp only [w_binE, w_unE, w_callE, w_revM, w_addM])
      decreasing_trivial
      refine ev_eq_ins (knD_ok ox) (w_tb_eqD G ok2 ox ?_)
      decreasing_trivial
      (try simp only [w_binE, w_unE, w_callE, w_revM, w_addM])
      decreasing_trivial
      refine ev_ne_ins (knD_ok ox) (w_tb_eqD G ok2 ox ⟨_, rfl, ?_⟩)
      decreasing_trivial
      exact ⟨hz', _, rfl⟩
  rintro _ _ ⟨⟨u3, rfl⟩, rfl⟩
  -- an empty one
  refine ws_cut (fun δ M' => xs ≠ [] ∧ δ = [some (.lst xs), some (.ref M.length), some (TbD hs), u3, none, none, none, none, none, none, none, none] ∧ M2 = M') ?_ ?_
  · decreasing_trivial
    (try simp only [w_binE, w_unE, w_callE, w_revM, w_addM])
    decreasing_trivial
    refine ⟨by rw [sz]; decide, ?_⟩
    rw [ev_eq_dat rfl, oEq_nil hx (by omega)]
    decreasing_trivial
    cases xs with
    | nil =>
      exact (if_pos (show ([] : List D).isEmpty = true from rfl)).mpr fin
    | cons _ _ =>
      rw [if_neg (by simp)]
      simp
  rintro _ _ ⟨xne, rfl, rfl⟩
  obtain ⟨x0, rest, rfl⟩ := List.exists_cons_of_ne_nil xne
  have r0 := gd.row x0 (List.mem_cons_self ..)
  have o0 := dOks_mem.mp hx x0 (List.mem_cons_self ..)
  obtain ⟨n, t, vs, e0, v1, v3, vb, wn, wt⟩ := row_shape r0
  rw [e0] at o0
  obtain ⟨o1, o2, o3⟩ := ok_R3 o0
  have m0 : nmR x0 = n := by rw [e0]; rfl
  have same : ∀ {t' : Str} {vs' : List Int}, R3 n t' vs' ∈ hs → R3 n t' vs' = x0 := fun {t' vs'} h => gd.inj ((mm _).mp h) (List.mem_cons_self ..) (by rw [m0]; rfl)
  have noz : ∀ {t' : Str} {vs' : List Int}, R3 "zz" t' vs' ∈ hs → R3 "zz" t' vs' = x0 := fun {t' vs'} h => absurd rfl (hz _ ((mm _).mp h))
  refine ws_cut (fun δ M' => δ = [some (.lst (x0 :: rest)), some (.ref M.length), some (TbD hs), u3, some (.str n), some (.str t), some (.tup (vs.map .int)), none, none, none, none, none] ∧ M2 = M') ?_ ?_
  · decreasing_trivial
    rw [atI0]
    decreasing_trivial
    rw [e0]
    decreasing_trivial
    (all_goals first | done | trivial | rfl | exact ⟨rfl, rfl⟩ | exact ⟨trivial, trivial⟩ | exact ⟨rfl, [], by simp⟩ | exact ⟨[], by simp⟩)
  rintro _ _ ⟨rfl, rfl⟩
  refine ws_cut (fun δ M' => δ = [some (.lst (x0 :: rest)), some (.ref M.length), some (TbD hs), u3, some (.str n), some (.str t), some (.tup (vs.map .int)), some (.lst [R3 n "anothert" vs, R3 n t (List.replicate vs.length 77)]), none, none, none, none] ∧ M2 = M') ?_ ?_
  · decreasing_trivial
    try simp only [sz, Nat.reduceLeDiff, true_and]
    (try simp only [w_binE, w_unE, w_callE, w_revM, w_addM])
    decreasing_trivial
    rw [ev_len_dat rfl]
    decreasing_trivial
    rw [oMul_tup (.inr (by rw [List.length_map]; omega)) (by omega) (by rw [List.length_map]; omega) (by decide), rep1, Int.toNat_natCast, List.length_map]
    decreasing_trivial
    try simp only [sz, Nat.reduceLeDiff, true_and]
  rintro _ _ ⟨rfl, rfl⟩
  refine ws_cut (fun δ M' => δ = [some (.lst (x0 :: rest)), some (.ref M.length), some (TbD hs), u3, some (.str n), some (.str t), some (.tup (vs.map .int)), some (.lst [R3 n "anothert" vs, R3 n t (List.replicate vs.length 77), R3 n t ((vs ++ [1, 1]).take 3), R3 "zz" t vs]), none, none, none, none] ∧ M2 = M') ?_ ?_
  · decreasing_trivial
    try simp only [sz, Nat.reduceLeDiff, true_and]
    rw [oAdd_tup (by rw [sz, List.length_map]; simp only [List.length_cons, List.length_nil]; omega)]
    decreasing_trivial
    try simp only [sz, Nat.reduceLeDiff, true_and]
    have ec : cutD (vs.map D.int ++ [.int 1, .int 1]) none (some 3) = ((vs ++ [1, 1]).take 3).map D.int := by
      rw [show (3 : Int) = ((3 : Nat) : Int) from rfl, cut_to (by simp only [List.length_append, List.length_map, List.length_cons, List.length_nil]; omega), List.map_take, List.map_append]; rfl
    rw [oCut_tup, ec]
    decreasing_trivial
    try simp only [sz, Nat.reduceLeDiff, true_and]
    rw [oAdd_lst (by rw [sz]; simp only [List.length_cons, List.length_nil]; omega)]
    decreasing_trivial
    (all_goals first | done | trivial | rfl | exact ⟨rfl, rfl⟩ | exact ⟨trivial, trivial⟩ | exact ⟨rfl, [], by simp⟩ | exact ⟨[], by simp⟩)
  rintro _ _ ⟨rfl, rfl⟩
  obtain ⟨xl, exl, ml, _⟩ := atI_last xne
  obtain ⟨nl, tl, vl, el, w1, w3, wb, _, wtl⟩ := row_shape (gd.row xl ml)
  have ol := dOks_mem.mp hx xl ml
  rw [el] at ol
  obtain ⟨_, ol2, ol3⟩ := ok_R3 ol
  refine ws_cut (fun δ M' => δ = [some (.lst (x0 :: rest)), some (.ref M.length), some (TbD hs), u3, some (.str n), some (.str t), some (.tup (vs.map .int)), some (.lst [R3 n "anothert" vs, R3 n t (List.replicate vs.length 77), R3 n t ((vs ++ [1, 1]).take 3), R3 "zz" t vs]), some (R3 n tl vl), none, none, none] ∧ M2 = M') ?_ ?_
  · decreasing_trivial
    try simp only [sz, Nat.reduceLeDiff, true_and]
    rw [oNeg_int]
    decreasing_trivial
    rw [exl, el]
    decreasing_trivial
    rw [cut1]
    decreasing_trivial
    rw [oAdd_tup (by rw [sz]; simp only [List.length_cons, List.length_nil]; omega)]
    decreasing_trivial
    (all_goals first | done | trivial | rfl | exact ⟨rfl, rfl⟩ | exact ⟨trivial, trivial⟩ | exact ⟨rfl, [], by simp⟩ | exact ⟨[], by simp⟩)
  rintro _ _ ⟨rfl, rfl⟩
  have tn0 : ∀ x, Tn hs x0 x → oNe x x0 M2 = some (.bl (!eqv x x0)) := fun x h => oNe_dat h.ok (dOks_mem.mp hx x0 (List.mem_cons_self ..)) (by
    obtain ⟨a, b, c, e, _⟩ := row_shape h.row
    rw [e]; have := dep_R3 a b c; omega)
  have tin : ∀ x, Tn hs x0 x → (!eqv x x0) = true → conB hs x = false := fun x h e => h.no fun z => by
    rw [(eqv_row h.row r0).mpr z] at e; cases e
  have tx : Tn hs x0 (R3 n tl vl) := tn_of hrow o1 ol2 wn wtl w1 w3 wb same
  refine ws_cut (fun δ M' => δ = [some (.lst (x0 :: rest)), some (.ref M.length), some (TbD hs), u3, some (.str n), some (.str t), some (.tup (vs.map .int)), some (.lst [R3 n "anothert" vs, R3 n t (List.replicate vs.length 77), R3 n t ((vs ++ [1, 1]).take 3), R3 "zz" t vs]), some (R3 n tl vl), none, none, none] ∧ M2 = M') ?_ ?_
  · decreasing_trivial
    (try simp only [w_binE, w_unE, w_callE, w_revM, w_addM])
    decreasing_trivial
    rw [atI0]
    decreasing_trivial
    rw [ev_ne_dat rfl, tn0 _ tx]
    decreasing_trivial
    by_cases h : (!eqv (R3 n tl vl) x0) = true
    · rw [if_pos h]
      (try simp only [w_binE, w_unE, w_callE, w_revM, w_addM])
      decreasing_trivial
      refine ev_in_ins (w_tb_con ok2 hh (raB_of tx.ok) (Nat.le_trans tx.bk (by decide)) ⟨_, rfl, ?_⟩)
      rw [tin _ tx h]
      decreasing_trivial
      (all_goals first | done | trivial | rfl | exact ⟨rfl, rfl⟩ | exact ⟨trivial, trivial⟩ | exact ⟨rfl, [], by simp⟩ | exact ⟨[], by simp⟩)
    · rw [if_neg h]
      decreasing_trivial
      (all_goals first | done | trivial | rfl | exact ⟨rfl, rfl⟩ | exact ⟨trivial, trivial⟩ | exact ⟨rfl, [], by simp⟩ | exact ⟨[], by simp⟩)
  rintro _ _ ⟨rfl, rfl⟩
  -- what is turned
  refine ws_cut (fun δ M' => (∃ u9, δ = [some (.lst (x0 :: rest)), some (.ref M.length), some (TbD hs), u3, some (.str n), some (.str t), some (.tup (vs.map .int)), some (.lst [R3 n "anothert" vs, R3 n t (List.replicate vs.length 77), R3 n t ((vs ++ [1, 1]).take 3), R3 "zz" t vs]), some (R3 n tl vl), u9, none, none]) ∧ M2 = M') ?_ ?_
  · refine ws_for (fun zs i δ M' => (∀ z ∈ zs, Tn hs x0 z) ∧ (∃ u9, δ = [some (.lst (x0 :: rest)), some (.ref M.length), some (TbD hs), u3, some (.str n), some (.str t), some (.tup (vs.map .int)), some (.lst [R3 n "anothert" vs, R3 n t (List.replicate vs.length 77), R3 n t ((vs ++ [1, 1]).take 3), R3 "zz" t vs]), some (R3 n tl vl), u9, none, none]) ∧ M2 = M') ?_
    refine wi_seq ?_
    decreasing_trivial
    refine ⟨⟨?_, none, rfl⟩, fun i x δ M' hxi ⟨hz', ⟨u9, ed⟩, eM⟩ => ?_, fun δ M' ⟨_, ⟨u9, ed⟩, eM⟩ => ⟨⟨u9, ed⟩, eM⟩⟩
    · intro z hz'
      simp only [List.mem_cons, List.not_mem_nil, or_false] at hz'
      rcases hz' with rfl | rfl | rfl | rfl
      · exact tn_of hrow o1 (by decide) wn (by decide +kernel) v1 v3 vb same
      · exact tn_of hrow o1 o2 wn wt (by rw [List.length_replicate]; exact v1) (by rw [List.length_replicate]; exact v3) (fun v hv => by
          rw [(List.mem_replicate.mp hv).2]; decide) same
      · exact tn_of hrow o1 o2 wn wt (by simp only [List.length_take, List.length_append, List.length_cons, List.length_nil]; omega) (by simp only [List.length_take]; omega) (fun v hv => by
          rcases List.mem_append.mp (List.mem_of_mem_take hv) with z | z
          · exact vb v z
          · simp only [List.mem_cons, List.not_mem_nil, or_false, or_self] at z
            subst z; decide) same
      · exact tn_of hrow (by decide) o2 (by decide +kernel) wt v1 v3 vb noz
    · subst ed eM
      have tn := hz' x (List.mem_of_getElem? hxi)
      decreasing_trivial
      (try simp only [w_binE, w_unE, w_callE, w_revM, w_addM])
      decreasing_trivial
      rw [atI0]
      decreasing_trivial
      rw [ev_ne_dat (insOf_ok tn.ok), tn0 _ tn]
      decreasing_trivial
      by_cases h : (!eqv x x0) = true
      · rw [if_pos h]
        (try simp only [w_binE, w_unE, w_callE, w_revM, w_addM])
        decreasing_trivial
        refine ev_in_ins (w_tb_con ok2 hh (raB_of tn.ok) (Nat.le_trans tn.bk (by decide)) ⟨_, rfl, ?_⟩)
        rw [tin _ tn h]
        decreasing_trivial
        (try simp only [w_binE, w_unE, w_callE, w_revM, w_addM])
        decreasing_trivial
        refine ⟨by rw [sz]; decide, ?_⟩
        have okx : dOks [x] = true := by show (dOk x && true) = true; rw [tn.ok]; rfl
        have bkx : dBks [x] ≤ 2 ^ 20 := by have e : dBks [x] = dBk x + 1 + 0 := rfl; have := tn.bk; omega
        refine w_make ok2 (.inl (.inl rfl)) okx bkx (fun _ => ?_) fun z => absurd (of_good (Good.one tn.row)) z
        decreasing_trivial
        rw [oCut_lst, show cutD (x0 :: rest) none (some 1) = [x0] from cut_to (i := 1) (by simp)]
        decreasing_trivial
        have ok0 : dOks [x0] = true := by show (dOk x0 && true) = true; rw [dOks_mem.mp hx x0 (List.mem_cons_self ..)]; rfl
        refine w_make ok2 (.inl (.inl rfl)) ok0 (by have e : dBks [x0] = dBk x0 + 1 + 0 := rfl; have e2 : dBks (x0 :: rest) = dBk x0 + 1 + dBks rest := rfl; omega) (fun _ => ?_) fun z => absurd (of_good (Good.one r0)) z
        rw [sort1, sort1]
        refine ev_eq_ins (knD_ins (by simp)) (w_tb_eqT G ok2 okx ok0 ?_ ?_)
        · obtain ⟨a, b, c, e, _⟩ := row_shape tn.row
          rw [e]
          have e2 : dDeps [R3 a b c] = max (dDep (R3 a b c)) 0 := rfl
          have := dep_R3 a b c
          rw [e2]; omega
        · rw [eqv_tup1 tn.ok (dOks_mem.mp hx x0 (List.mem_cons_self ..)), show eqv x x0 = false by simpa using h]
          decreasing_trivial
          exact ⟨hz', _, rfl⟩
      · rw [if_neg h]
        decreasing_trivial
        exact ⟨hz', _, rfl⟩
  rintro _ _ ⟨⟨u9, rfl⟩, rfl⟩
  -- fewer rows
  have gr : Good rest := gd.sub (List.sublist_cons_self ..)
  have okr : dOks rest = true := sub_ok hx fun d hd => List.mem_cons_of_mem _ hd
  have bkr : dBks rest ≤ 2 ^ 20 := by have e2 : dBks (x0 :: rest) = dBk x0 + 1 + dBks rest := rfl; omega
  have mr : ∀ y, y ∈ rest.mergeSort leD ↔ y ∈ rest := fun y => (List.mergeSort_perm _ _).mem_iff
  have okrs : dOks (rest.mergeSort leD) = true := sub_ok okr fun d hd => (mr d).mp hd
  have dpr : dDeps (rest.mergeSort leD) ≤ 50 := by
    have a : dDeps (rest.mergeSort leD) ≤ dDeps rest := sub_dep fun d hd => (mr d).mp hd
    have e2 : dDeps (x0 :: rest) = max (dDep x0) (dDeps rest) := rfl
    omega
  have lr : (rest.mergeSort leD).length = rest.length := (List.mergeSort_perm _ _).length_eq
  rw [List.length_cons] at hlen
  refine ws_cut (fun δ M' => δ = [some (.lst (x0 :: rest)), some (.ref M.length), some (TbD hs), u3, some (.str n), some (.str t), some (.tup (vs.map .int)), some (.lst [R3 n "anothert" vs, R3 n t (List.replicate vs.length 77), R3 n t ((vs ++ [1, 1]).take 3), R3 "zz" t vs]), some (R3 n tl vl), u9, some (TbD (rest.mergeSort leD)), none] ∧ M2 = M') ?_ ?_
  · decreasing_trivial
    rw [gList_lst]
    decreasing_trivial
    rw [oCut_lst, show cutD (x0 :: rest) (some 1) none = rest from cut_from (i := 1) (by simp)]
    decreasing_trivial
    refine w_make ok2 (.inl (.inl rfl)) okr bkr (fun _ => ?_) fun z => absurd (of_good gr) z
    decreasing_trivial
    (all_goals first | done | trivial | rfl | exact ⟨rfl, rfl⟩ | exact ⟨trivial, trivial⟩ | exact ⟨rfl, [], by simp⟩ | exact ⟨[], by simp⟩)
  rintro _ _ ⟨rfl, rfl⟩
  decreasing_trivial
  (try simp only [w_binE, w_unE, w_callE, w_revM, w_addM])
  decreasing_trivial
  refine ev_ne_ins (knD_ins (by simp)) (w_tb_eqT G ok2 hh okrs hd ⟨_, rfl, ?_⟩)
  rw [eqv_tup hh okrs (by omega)]
  decreasing_trivial
  (try simp only [w_binE, w_unE, w_callE, w_revM, w_addM])
  decreasing_trivial
  refine ev_ne_ins (knD_ins (by simp)) (w_tb_eqT G ok2 okrs hh dpr ⟨_, rfl, ?_⟩)
  rw [eqv_tup okrs hh (by omega)]
  decreasing_trivial
  (try simp only [w_binE, w_unE, w_callE, w_revM, w_addM])
  decreasing_trivial
  refine ⟨by rw [sz]; decide, ?_⟩
  refine w_make ok2 (.inl (.inl rfl)) rfl (by decide) (fun _ => ?_) fun z => absurd (of_good (gd.sub (List.nil_sublist _))) z
  have en : ([] : List D).mergeSort leD = [] := by simp
  rw [en]
  decreasing_trivial
  refine ev_ne_ins (knD_ins (by simp)) (w_tb_eqT G ok2 rfl hh (by decide) ⟨_, rfl, ?_⟩)
  rw [eqv_tup rfl hh (by rw [hlen]; simp)]
  decreasing_trivial
  (try simp only [w_binE, w_unE, w_callE, w_revM, w_addM])
  decreasing_trivial
  have oxs : dOk (.lst (x0 :: rest)) = true := hx
  refine ev_ne_ins (knD_ok oxs) (w_tb_eqD G ok2 oxs ⟨_, rfl, ?_⟩)
  decreasing_trivial
  exact fin
end
end L2.MK.W_k14

end

section
set_option Elab.async false
set_option linter.all false
set_option maxRecDepth 100000
set_option maxHeartbeats 1000000
set_option autoImplicit false
set_option exponentiation.threshold 2000
namespace L2.MK.W_k14
local macro_rules
  | `(tactic| decreasing_trivial) => `(tactic| try simp only [w_bind, w_pure, w_pure', w_opt, w_var, w_C, w_bin, w_un, w_call, w_fun, w_nil, w_cons, w_tup, w_lst, w_lstM, w_dctM, w_isBl, w_bTru, w_bOf, w_and, w_or, w_not, wb_and, wb_or, wb_not, wb_yes, w_if, w_chain, w_cut, w_cutM, w_sNo, w_isI, w_sAt, w_meth, w_setd,
  ws_skip, ws_seq, ws_exp, ws_ret, ws_retN, ws_if, ws_asg, ws_gN, ws_gNils, ws_gConss, ws_gTup, ws_gSub, ws_raise, ws_try, ws_noRet, sm_some,
  startD, List.map_cons, List.map_nil, List.length_cons, List.length_nil, List.replicate, List.cons_append, List.nil_append, List.getElem?_cons_zero, List.getElem?_cons_succ, List.set_cons_zero, List.set_cons_succ, Option.join_some, Option.join_none, Nat.reduceAdd, Nat.reduceSub, Nat.add_zero, Nat.zero_add,
  sqD_lst, sqD_tup, sqD_rol, gLen_lst, gLen_tup, gInt_int, gInt_bl, gAbs_int, oAdd_int, oSub_int, oLt_int, oLe_int, oGt_int, oGe_int, oIx_lst, oIx_tup, oEq_int, oNe_int, true_and, and_true, true_implies, seqF_lst, seqF_tup, seqF_str, sqF_lst, sqF_tup, truD_bl, isStr, isTupB, isLst, ↓reduceIte, Bool.false_eq_true, Bool.not_true, Bool.not_false, setPt_nm, setPt_tp, setPts_nil, setPts_cons, wipeD_nil, wipeD_cons])
open PySem PySem.Spec PyProof.Rows PySem.W He
section
variable {K : Frag} {M : Sto} {Q : D → Sto → Prop} {X : XP} {p T : Nat} {L : Sto}
theorem eDraw : g_law_draw K = gDraw := rfl
theorem ePick : g_law_pick K = gPick := rfl
theorem eShuffle : g_law_shuffle K = gShuffle := rfl
theorem eWord : g_law_word K = gWord := rfl
theorem eSource : g_law_source K = gSource := rfl
theorem w_shapes (hM : At p T L M) (hL : Pl L) (hT : T + 20 < 1000000000) (q : ∀ ys M', ys ≠ [] → ys.length ≤ 5 → (∀ y ∈ ys, Shape y) → At p (T + 10) L M' → Q (.lst ys) M') : Wp (callT (g_law_shapes K) [.ref (p + 1)] M) Q X := by
  refine call_src hM hL ?_
  unfold g_law_shapes
  rw [w_body]
  unfold fb_law_shapes
  decreasing_trivial
  simp only [eWord, eShuffle, eDraw]
  refine ⟨by (first | omega | (rw [sz]; decide) | (rw [sz]; omega)), by (first | omega | (rw [sz]; decide) | (rw [sz]; omega)), by (first | omega | (rw [sz]; decide) | (rw [sz]; omega)), w_word (n := 4) hM hL (by omega) (by omega) fun x M1 hx a1 => ?_⟩
  decreasing_trivial
  have sh : ∀ y ∈ [D.tup [.str "e", .int 2], .tup [.str "f", .int 1], .tup [.str "g", .int 3], .tup [.str x, .int 2], .tup [.str "edgeofit", .int 2]], Shape y := by
    intro y hy
    simp only [List.mem_cons, List.not_mem_nil, or_false] at hy
    rcases hy with rfl | rfl | rfl | rfl | rfl
    · exact ⟨_, 2, rfl, by decide, by decide, by decide, by decide⟩
    · exact ⟨_, 1, rfl, by decide, by decide, by decide, by decide⟩
    · exact ⟨_, 3, rfl, by decide, by decide, by decide, by decide⟩
    · exact ⟨_, 2, rfl, word_ok hx, by rw [hx.1]; decide, by decide, by decide⟩
    · exact ⟨_, 2, rfl, by decide, by decide, by decide, by decide⟩
  refine ⟨by (first | omega | (rw [sz]; decide) | (rw [sz]; omega)), by (first | omega | (rw [sz]; decide) | (rw [sz]; omega)), by (first | omega | (rw [sz]; decide) | (rw [sz]; omega)), ?_⟩
  refine w_shuffle a1 hL ?_ rfl ?_ (shape_cl sh) fun ys M2 hp a2 => ?_
  · simp only [List.length_cons, List.length_nil]; omega
  · simp only [List.length_cons, List.length_nil]; omega
  decreasing_trivial
  refine w_draw a2 hL ?_ (by decide) (by decide) fun k M3 k0 k1 a3 => ?_
  · simp only [List.length_cons, List.length_nil]; omega
  decreasing_trivial
  rw [oCut_lst]
  decreasing_trivial
  have hl := hp.length_eq
  simp only [List.length_cons, List.length_nil] at hl
  have hy : ∀ y ∈ cutD ys none (some (1 + k)), Shape y := fun y h => sh y (hp.mem_iff.mp (cut_mem h))
  refine ⟨_, [], by rw [List.append_nil]; exact a3, shape_cl hy, fun M'' a => q _ M'' (cut_len (by omega) (fun e => by rw [e] at hl; cases hl)) (by have := cut_le ys none (some (1 + k)); omega) hy (a.mono ?_)⟩
  simp only [List.length_cons, List.length_nil]; omega
/-- whole numbers to draw from -/
def Vl (d : D) : Prop := ∃ is : List Int, d = .lst (is.map .int) ∧ is ≠ [] ∧ is.length ≤ 10 ∧ ∀ v ∈ is, -1000000000 ≤ v ∧ v ≤ 1000000000
theorem vl_dec (is : List Int) (h : (!is.isEmpty && (decide (is.length ≤ 10) && is.all fun v => decide (-1000000000 ≤ v) && decide (v ≤ 1000000000))) = true) : Vl (.lst (is.map .int)) := by
  simp only [Bool.and_eq_true, List.all_eq_true, decide_eq_true_eq, Bool.not_eq_true', List.isEmpty_eq_false_iff] at h
  exact ⟨is, rfl, h.1, h.2.1, h.2.2⟩
theorem vl_cl {xs : List D} (h : ∀ x ∈ xs, Vl x) : cls 0 xs = true := cls_mem.mpr fun d hd => by
  obtain ⟨is, rfl, _⟩ := h d hd
  exact cls_mem.mpr fun d hd => by
    obtain ⟨v, _, rfl⟩ := List.mem_map.mp hd; rfl
/-- a name that is drawn -/
def Nm (d : D) : Prop := ∃ x : Str, d = .str x ∧ dOk (.str x) = true ∧ x.cps.size ≤ 12 ∧ x ≠ "zz"
theorem nm_cl {xs : List D} (h : ∀ x ∈ xs, Nm x) : cls 0 xs = true := cls_mem.mpr fun d hd => by
  obtain ⟨x, rfl, _⟩ := h d hd; rfl
/-- a row that is drawn -/
def Rw (d : D) : Prop := ∃ (n t : Str) (vs : List Int), d = R3 n t vs ∧ dOk (.str n) = true ∧ n.cps.size ≤ 12 ∧ n ≠ "zz" ∧ dOk (.str t) = true ∧ t.cps.size ≤ 12 ∧ 1 ≤ vs.length ∧ vs.length ≤ 3 ∧ ∀ v ∈ vs, -1000000000 ≤ v ∧ v ≤ 1000000000
theorem is_cl (n : Nat) (vs : List Int) : cls n (vs.map D.int) = true := cls_mem.mpr fun d hd => by
  obtain ⟨v, _, rfl⟩ := List.mem_map.mp hd; rfl
theorem rw_cl {xs : List D} (h : ∀ x ∈ xs, Rw x) : cls 0 xs = true := cls_mem.mpr fun d hd => by
  obtain ⟨n, t, vs, rfl, _⟩ := h d hd
  show (true && (true && (cls 0 (vs.map D.int) && true))) = true
  rw [is_cl]; rfl
theorem ints_map {ys : List D} {is : List Int} (h : ∀ y ∈ ys, y ∈ is.map D.int) : ∃ vs : List Int, ys = vs.map .int ∧ ∀ v ∈ vs, v ∈ is := by
  refine ⟨ys.map toI, ?_, fun v hv => ?_⟩
  · rw [List.map_map]
    refine (List.map_id ys).symm.trans (List.map_congr_left fun x hx => ?_)
    obtain ⟨z, _, rfl⟩ := List.mem_map.mp (h x hx)
    rfl
  · obtain ⟨x, hx, rfl⟩ := List.mem_map.mp hv
    obtain ⟨z, hz, rfl⟩ := List.mem_map.mp (h x hx)
    exact hz
theorem oNotIn_lst {x : D} {ys : List D} (hx : dOk x = true) (hy : dOks ys = true) (dx : dDep x ≤ 60) : ∃ b, oNotIn x (.lst ys) M = some (.bl b) := by
  unfold oNotIn
  rw [inD_ok hx hy dx]
  exact ⟨_, rfl⟩
theorem w_database {sh : List D} (hM : At p T L M) (hL : Pl L) (hT : T + 200 < 1000000000) (h1 : sh ≠ []) (h2 : sh.length ≤ 5) (h3 : ∀ y ∈ sh, Shape y)
    (q : ∀ ys M', ys.length ≤ 7 → (∀ y ∈ ys, Rw y) → At p (T + 60) L M' → Q (.lst ys) M') : Wp (callT (g_law_database K) [.ref (p + 1), .lst sh, .int 7] M) Q X := by
  refine call_srcL hM hL ?_
  unfold g_law_database
  rw [w_body]
  unfold fb_law_database
  simp only [ePick, eDraw, eShuffle, eWord]
  (try simp only [startD, List.map_cons, List.map_nil, List.length_cons, List.length_nil, List.replicate, List.cons_append, List.nil_append, Nat.reduceAdd, Nat.reduceSub])
  refine ws_cut (fun δ M' => ∃ s, Vl s ∧ δ = [some (.ref (p + 1)), some (.lst sh), some (.int 7), some s, none, none, none, none, none, none, none, none, none] ∧ At p (T + 1) L M') ?_ ?_
  · decreasing_trivial
    try simp only [pow9, sm_some]
    decreasing_trivial
    try simp only [sz, Nat.reduceLeDiff, true_and]
    have hv : ∀ y ∈ [D.lst [.int 0, .int 1, .int 2], .lst [.int (0 - 1), .int 0, .int 1], .lst [.int 9, .int 10, .int (0 - 10)], .lst [.int (0 - 1000000000), .int 1000000000, .int 100], .lst [.int 0, .int 1]], Vl y := by
      intro y hy
      simp only [List.mem_cons, List.not_mem_nil, or_false] at hy
      rcases hy with rfl | rfl | rfl | rfl | rfl
      · exact vl_dec [0, 1, 2] (by decide)
      · exact vl_dec [0 - 1, 0, 1] (by decide)
      · exact vl_dec [9, 10, 0 - 10] (by decide)
      · exact vl_dec [0 - 1000000000, 1000000000, 100] (by decide)
      · exact vl_dec [0, 1] (by decide)
    refine w_pick hM hL (by omega) (.inl rfl) (by simp) (by simp) (vl_cl hv) fun x hx M' a => ?_
    exact ⟨x, hv x hx, rfl, a⟩
  rintro _ M1 ⟨s, hs, rfl, a1⟩
  refine ws_cut (fun δ M' => ∃ m, (∀ y ∈ m, Vl y) ∧ m ≠ [] ∧ m.length ≤ 4 ∧ δ = [some (.ref (p + 1)), some (.lst sh), some (.int 7), some s, some (.lst m), none, none, none, none, none, none, none, none] ∧ At p (T + 1) L M') ?_ ?_
  · decreasing_trivial
    try simp only [pow9, sm_some]
    decreasing_trivial
    try simp only [sz, Nat.reduceLeDiff, true_and]
    refine ⟨_, ?_, ?_, ?_, rfl, a1⟩
    · intro y hy
      simp only [List.mem_cons, List.not_mem_nil, or_false, or_self] at hy
      rcases hy with rfl | rfl | rfl
      · exact vl_dec [0, 9, 10, 0 - 1] (by decide)
      · exact vl_dec [0 - 1000000000, 0 - 10, 99, 100] (by decide)
      · exact hs
    · simp
    · simp
  rintro _ M2 ⟨m, hm, m1, m2, rfl, a2⟩
  refine ws_cut (fun δ M' => ∃ s, Vl s ∧ δ = [some (.ref (p + 1)), some (.lst sh), some (.int 7), some s, some (.lst m), none, none, none, none, none, none, none, none] ∧ At p (T + 2) L M') ?_ ?_
  · decreasing_trivial
    refine w_pick a2 hL (by omega) (.inl rfl) m1 (by omega) (vl_cl hm) fun x hx M' a => ?_
    exact ⟨x, hm x hx, rfl, a⟩
  rintro _ M3 ⟨s2, ⟨is, rfl, i1, i2, i3⟩, rfl, a3⟩
  refine ws_cut (fun δ M' => ∃ ns, ns.length = 8 ∧ (∀ y ∈ ns, Nm y) ∧ δ = [some (.ref (p + 1)), some (.lst sh), some (.int 7), some (.lst (is.map .int)), some (.lst m), some (.lst ns), none, none, none, none, none, none, none] ∧ At p (T + 15) L M') ?_ ?_
  · decreasing_trivial
    refine w_word (n := 5) a3 hL (by omega) (by omega) fun x M4 hx a4 => ?_
    decreasing_trivial
    have sh : ∀ y ∈ [D.str "r", .str "ra", .str "rb", .str "s", .str "eightrow", .str "eightros", .str "t", .str x], Nm y := by
      intro y hy
      simp only [List.mem_cons, List.not_mem_nil, or_false] at hy
      rcases hy with rfl | rfl | rfl | rfl | rfl | rfl | rfl | rfl
      · exact ⟨_, rfl, by decide, by decide, by decide⟩
      · exact ⟨_, rfl, by decide, by decide, by decide⟩
      · exact ⟨_, rfl, by decide, by decide, by decide⟩
      · exact ⟨_, rfl, by decide, by decide, by decide⟩
      · exact ⟨_, rfl, by decide, by decide, by decide⟩
      · exact ⟨_, rfl, by decide, by decide, by decide⟩
      · exact ⟨_, rfl, by decide, by decide, by decide⟩
      · exact ⟨_, rfl, word_ok hx, by rw [hx.1]; decide, fun e => by have := hx.1; rw [e] at this; revert this; decide⟩
    refine ⟨by (first | omega | (rw [sz]; decide) | (rw [sz]; omega)), ?_⟩
    refine w_shuffle a4 hL ?_ rfl ?_ (nm_cl sh) fun ys M5 hp a5 => ?_
    · simp only [List.length_cons, List.length_nil]; omega
    · simp only [List.length_cons, List.length_nil]; omega
    have hl := hp.length_eq
    simp only [List.length_cons, List.length_nil] at hl
    exact ⟨ys, hl, fun y h => sh y (hp.mem_iff.mp h), rfl, a5.mono (by simp only [List.length_cons, List.length_nil]; omega)⟩
  rintro _ M4 ⟨ns, n8, hn, rfl, a4⟩
  decreasing_trivial
  refine ⟨by (first | omega | (rw [sz]; decide) | (rw [sz]; omega)), ?_⟩
  rw [a4.length]
  have hlen := hM.length
  refine ws_for (fun zs i δ M' => zs.length ≤ 7 ∧ ∃ (u7 u8 u9 u10 u11 u12 : Option D) (ys : List D), δ = [some (.ref (p + 1)), some (.lst sh), some (.int 7), some (.lst (is.map .int)), some (.lst m), some (.lst ns), some (.ref (p + 2 + L.length)), u7, u8, u9, u10, u11, u12] ∧ ys.length ≤ i ∧ (∀ y ∈ ys, Rw y) ∧ At p (T + 16 + 4 * i) (L ++ [.lst ys]) M') ?_
  refine wi_rng1 ?_
  decreasing_trivial
  refine w_draw (a4.push _) (hL.snoc rfl) (by omega) (by decide) (by decide) fun k M5 k0 k1 a5 => ?_
  decreasing_trivial
  refine ⟨_, rfl, by omega, by omega, ⟨by rw [rngD_length]; omega, _, _, _, _, _, _, [], rfl, by simp, fun y h => (nomatch h), a5⟩, fun i x δ M6 hx ⟨l1, u7, u8, u9, u10, u11, u12, ys, ed, hl, hy, ha⟩ => ?_, fun δ M6 ⟨l1, u7, u8, u9, u10, u11, u12, ys, ed, hl, hy, ha⟩ => ?_⟩
  · subst ed
    obtain ⟨rfl, hi⟩ := rng_get hx
    rw [rngD_length] at l1
    decreasing_trivial
    refine w_pick ha (hL.snoc (rw_cl hy)) (by omega) (.inl rfl) h1 (by omega) (shape_cl h3) fun s hs M7 a7 => ?_
    obtain ⟨t, n, rfl, o1, o2, n1, n2⟩ := h3 s hs
    decreasing_trivial
    refine w_lcPick (v := .lst (is.map .int)) (xs := is.map .int) (n := n) a7 (hL.snoc (rw_cl hy)) (by omega) (by omega) (.inl (fun e => i1 (List.map_eq_nil_iff.mp e))) (by rw [List.length_map]; omega) (is_cl 0 is) ?_ (fun _ => rfl) (fun _ => rfl) (.inl rfl) fun zs M8 zl zm a8 => ?_
    · decreasing_trivial
      (all_goals first | done | trivial | rfl | exact ⟨rfl, rfl⟩ | exact ⟨trivial, trivial⟩ | exact ⟨rfl, [], by simp⟩ | exact ⟨[], by simp⟩)
    rw [gTuple_lst]
    decreasing_trivial
    obtain ⟨vs, rfl, hvs⟩ := ints_map zm
    rw [List.length_map] at zl
    have hvb : ∀ v ∈ vs, -1000000000 ≤ v ∧ v ≤ 1000000000 := fun v hv => i3 v (hvs v hv)
    refine ⟨by (first | omega | (rw [sz]; decide) | (rw [sz]; omega)), ?_⟩
    have at8 := at_last a8
    have okM := a8.ok (hL.snoc (rw_cl hy))
    refine w_lcPR (j := p + 2 + L.length) ys (fun _ => true) tlR okM at8 (by rw [sz]; omega) ?_ (fun y hy' M9 hM9 => ?_) (fun y hy' _ => ?_) ?_
    · decreasing_trivial
      (all_goals first | done | trivial | rfl | exact ⟨rfl, rfl⟩ | exact ⟨trivial, trivial⟩ | exact ⟨rfl, [], by simp⟩ | exact ⟨[], by simp⟩)
    · obtain ⟨n', t', vs', rfl, _⟩ := hy y hy'
      decreasing_trivial
      rw [cut1, tlR_3]
      decreasing_trivial
      (all_goals first | done | trivial | rfl | exact ⟨rfl, rfl⟩ | exact ⟨trivial, trivial⟩ | exact ⟨rfl, [], by simp⟩ | exact ⟨[], by simp⟩)
    · obtain ⟨n', t', vs', rfl, _, _, _, ot, _, _, _, vb'⟩ := hy y hy'
      rw [tlR_3]
      exact cl_dOk (ok_tl ot (oks_is vb'))
    · rw [filter_yes]
      have oy : dOks (ys.map tlR) = true := dOks_mem.mpr fun d hd => by
        obtain ⟨y, hy', rfl⟩ := List.mem_map.mp hd
        obtain ⟨n', t', vs', rfl, _, _, _, ot, _, _, _, vb'⟩ := hy y hy'
        rw [tlR_3]
        exact ok_tl ot (oks_is vb')
      obtain ⟨b, eb⟩ := oNotIn_lst (M := M8) (ok_tl o1 (oks_is hvb)) oy (dep_tl t vs)
      rw [eb]
      decreasing_trivial
      cases b with
      | false =>
        decreasing_trivial
        exact ⟨by rw [rngD_length]; exact l1, _, _, _, _, _, _, ys, rfl, by omega, hy, a8.mono (by omega)⟩
      | true =>
        decreasing_trivial
        refine ⟨tyOk_ref at8, ?_⟩
        obtain ⟨x, ex, hx, _⟩ := atI_at (xs := ns) (i := (i : Int)) (by omega) (by omega)
        rw [ex]
        obtain ⟨nm, rfl, on, sn, zn⟩ := hn x hx
        decreasing_trivial
        refine ⟨by (first | omega | (rw [sz]; decide) | (rw [sz]; omega)), ?_⟩
        rw [append_ref at8 (by rw [sz]; omega)]
        decreasing_trivial
        refine ⟨by rw [rngD_length]; exact l1, _, _, _, _, _, _, ys ++ [R3 nm t vs], rfl, by simp; omega, fun y hy' => ?_, (set_last a8).mono (by omega)⟩
        rcases List.mem_append.mp hy' with z | z
        · exact hy y z
        · rw [List.mem_singleton] at z; subst z
          exact ⟨nm, t, vs, rfl, on, sn, zn, o1, o2, by omega, by omega, hvb⟩
  · subst ed
    rw [rngD_length] at hl ha l1
    decreasing_trivial
    refine ⟨_, [.lst ys], 0, ys, ha, rfl, rfl, rw_cl hy, fun M'' a => q ys M'' (by omega) hy (a.mono (by omega))⟩
end
end L2.MK.W_k14

end

section
set_option Elab.async false
set_option linter.all false
set_option maxRecDepth 100000
set_option maxHeartbeats 1000000
set_option autoImplicit false
set_option exponentiation.threshold 2000
namespace L2.MK.W_k14
local macro_rules
  | `(tactic| decreasing_trivial) => `(tactic| try simp only [w_bind, w_pure, w_pure', w_opt, w_var, w_C, w_bin, w_un, w_call, w_fun, w_nil, w_cons, w_tup, w_lst, w_lstM, w_dctM, w_isBl, w_bTru, w_bOf, w_and, w_or, w_not, wb_and, wb_or, wb_not, wb_yes, w_if, w_chain, w_cut, w_cutM, w_sNo, w_isI, w_sAt, w_meth, w_setd,
  ws_skip, ws_seq, ws_exp, ws_ret, ws_retN, ws_if, ws_asg, ws_gN, ws_gNils, ws_gConss, ws_gTup, ws_gSub, ws_raise, ws_try, ws_noRet, sm_some,
  startD, List.map_cons, List.map_nil, List.length_cons, List.length_nil, List.replicate, List.cons_append, List.nil_append, List.getElem?_cons_zero, List.getElem?_cons_succ, List.set_cons_zero, List.set_cons_succ, Option.join_some, Option.join_none, Nat.reduceAdd, Nat.reduceSub, Nat.add_zero, Nat.zero_add,
  sqD_lst, sqD_tup, sqD_rol, gLen_lst, gLen_tup, gInt_int, gInt_bl, gAbs_int, oAdd_int, oSub_int, oLt_int, oLe_int, oGt_int, oGe_int, oIx_lst, oIx_tup, oEq_int, oNe_int, true_and, and_true, true_implies, seqF_lst, seqF_tup, seqF_str, sqF_lst, sqF_tup, truD_bl, isStr, isTupB, isLst, ↓reduceIte, Bool.false_eq_true, Bool.not_true, Bool.not_false, setPt_nm, setPt_tp, setPts_nil, setPts_cons, wipeD_nil, wipeD_cons])
open PySem PySem.Spec PyProof.Rows PySem.W He
/-- what may stand in rows -/
structure Rd (x : D) : Prop where
  sm : Sm9 3 200 x
  zz : rowB x = true → nmR x ≠ "zz"
structure OdS (p T : Nat) (L L' : Sto) (M : Sto) (j n : Nat) (os : List D) : Prop where
  at_ : At p T L' M
  pl : Pl L'
  ex : ∃ L2, L' = L ++ L2
  get : L'[j]? = some (.lst os)
  ge : L.length ≤ j
  od : ∀ x ∈ os, Rd x
  len : os.length ≤ n
  ne : os ≠ []
theorem rd_cl {xs : List D} (h : ∀ x ∈ xs, Rd x) : cls 0 xs = true := sm_cl fun x hx => (h x hx).sm
section
variable {K : Frag} {M : Sto} {Q : D → Sto → Prop} {X : XP} {p T : Nat} {L L' : Sto} {j n : Nat} {os : List D}
theorem OdS.add (h : OdS p T L L' M j n os) {new : List D} (hn : ∀ x ∈ new, Rd x) {n' : Nat} (hl : n + new.length ≤ n') : OdS p T L (L' ++ [.lst (os ++ new)]) (M ++ [.lst (os ++ new)]) L'.length n' (os ++ new) := by
  have od : ∀ x ∈ os ++ new, Rd x := fun x hx => by
    rcases List.mem_append.mp hx with z | z
    · exact h.od x z
    · exact hn x z
  obtain ⟨L2, e⟩ := h.ex
  refine ⟨h.at_.push _, h.pl.snoc (rd_cl od), ⟨L2 ++ [.lst (os ++ new)], by rw [e, List.append_assoc]⟩, ?_, by rw [e, List.length_append]; omega, od, by rw [List.length_append]; have := h.len; omega, by have := h.ne; simp [this]⟩
  rw [List.getElem?_append_right (Nat.le_refl _)]; simp
theorem OdS.now (h : OdS p T L L' M j n os) {T' : Nat} {M' : Sto} (a : At p T' L' M') : OdS p T' L L' M' j n os := ⟨a, h.pl, h.ex, h.get, h.ge, h.od, h.len, h.ne⟩
theorem OdS.app (h : OdS p T L L' M j n os) {x : D} (hx : Rd x) {n' : Nat} (hl : n + 1 ≤ n') : OdS p T L (L'.set j (.lst (os ++ [x]))) (M.set (p + 2 + j) (.lst (os ++ [x]))) j n' (os ++ [x]) := by
  have od : ∀ y ∈ os ++ [x], Rd y := fun y hy => by
    rcases List.mem_append.mp hy with z | z
    · exact h.od y z
    · rw [List.mem_singleton] at z; subst z; exact hx
  obtain ⟨L2, e⟩ := h.ex
  have jl : j < L'.length := (List.getElem?_eq_some_iff.mp h.get).1
  refine ⟨h.at_.set _ _, fun m hm => ?_, ⟨L2.set (j - L.length) (.lst (os ++ [x])), by rw [e, List.set_append_right _ _ h.ge]⟩, by rw [List.getElem?_set_self jl], h.ge, od, by rw [List.length_append]; have := h.len; simp; omega, by simp⟩
  rcases List.mem_or_eq_of_mem_set hm with z | z
  · exact h.pl m z
  · subst z; exact rd_cl od
theorem OdS.ref (h : OdS p T L L' M j n os) : M[p + 2 + j]? = some (.lst os) := (h.at_.at j).trans h.get
theorem w_odd (h : OdS p T L L' M j n os) {new : List D} (hl : n + new.length ≤ 1000) (q : Q (.ref (p + 2 + L'.length)) (M ++ [.lst (os ++ new)])) : Wp (evAddM (.ref (p + 2 + j)) (.lst new) M) Q X := by
  have e : lvw M (.ref (p + 2 + j)) = some os := by
    unfold lvw vw; simp only [h.ref]
  refine w_evAddM e rfl (by have := h.len; rw [sz]; omega) ?_
  rw [h.at_.length]
  exact q
/-! what is small -/
theorem vt {ws : List D} (h : ∀ w ∈ ws, Sm9 0 1 w) (hl : ws.length ≤ 15) : Sm9 1 40 (.tup ws) := (tup_sm h hl).mono (by omega) (by omega)
theorem t3 {a b c : D} (h1 : Sm9 1 40 a) (h2 : Sm9 1 40 b) (h3 : Sm9 1 40 c) : Sm9 3 200 (.tup [a, b, c]) := (tup_sm (m := 3) (smcons h1 (smcons h2 (smcons h3 smnil))) (by simp)).mono (by omega) (by omega)
theorem rd3 {s : Str} {b c : D} (hs : s ≠ "zz") (h1 : Sm9 1 40 (.str s)) (h2 : Sm9 1 40 b) (h3 : Sm9 1 40 c) : Rd (.tup [.str s, b, c]) := ⟨t3 h1 h2 h3, fun _ => hs⟩
theorem rdn {x : D} (h : Sm9 3 200 x) (z : rowB x = false) : Rd x := ⟨h, fun e => by rw [z] at e; cases e⟩
theorem rd_cons {x : D} {r : List D} (h : Rd x) (t : ∀ y ∈ r, Rd y) : ∀ y ∈ x :: r, Rd y := fun y hy => by
  rcases List.mem_cons.mp hy with z | z
  · subst z; exact h
  · exact t y z
theorem rd_nil : ∀ y ∈ ([] : List D), Rd y := fun y h => nomatch h
theorem sm_ints {vs : List Int} (h : ∀ v ∈ vs, -1000000000 ≤ v ∧ v ≤ 1000000000) : ∀ w ∈ vs.map D.int, Sm9 0 1 w := fun w hw => by
  obtain ⟨v, hv, rfl⟩ := List.mem_map.mp hw
  obtain ⟨a, b⟩ := h v hv
  refine ⟨?_, Nat.le_refl _, Nat.zero_le _⟩
  show (decide ((-999999999999 : Int) ≤ v) && decide (v ≤ 999999999999)) = true
  rw [decide_eq_true (by omega), decide_eq_true (by omega)]; rfl
theorem rw_rd {d : D} (h : Rw d) : Rd d := by
  obtain ⟨n, t, vs, rfl, on, sn, zn, ot, st, v1, v3, vb⟩ := h
  exact rd3 zn ((txt_sm ⟨n, rfl, on, sn⟩).mono (by omega) (by omega)) ((txt_sm ⟨t, rfl, ot, st⟩).mono (by omega) (by omega)) (vt (sm_ints vb) (by rw [List.length_map]; omega))
/-- a word that is none -/
structure Bd (x : D) : Prop where
  sm : Sm9 1 40 x
  nm : ∀ r, nmR (.tup (x :: r)) ≠ "zz"
theorem bd_str {s : Str} (h : s ≠ "zz") (o : Sm9 1 40 (.str s)) : Bd (.str s) := ⟨o, fun _ => h⟩
theorem words_bd : ∀ y ∈ [D.str "", .str "A", .str "aB", .str "a1", .str "1", .str "a_b", .str "a b", .str "ninechars", .non, .int 7, .lst [.str "a"], .bl true, .str "a\n", .str "a{"], Bd y := by
  intro y hy
  simp only [List.mem_cons, List.not_mem_nil, or_false] at hy
  have e : ("" : Str) ≠ "zz" := by decide
  rcases hy with rfl | rfl | rfl | rfl | rfl | rfl | rfl | rfl | rfl | rfl | rfl | rfl | rfl | rfl
  · exact bd_str (by decide) (sm_dec (by decide))
  · exact bd_str (by decide) (sm_dec (by decide))
  · exact bd_str (by decide) (sm_dec (by decide))
  · exact bd_str (by decide) (sm_dec (by decide))
  · exact bd_str (by decide) (sm_dec (by decide))
  · exact bd_str (by decide) (sm_dec (by decide))
  · exact bd_str (by decide) (sm_dec (by decide))
  · exact bd_str (by decide) (sm_dec (by decide))
  · exact ⟨sm_dec (by decide), fun _ => e⟩
  · exact ⟨sm_dec (by decide), fun _ => e⟩
  · exact ⟨sm_dec (by decide), fun _ => e⟩
  · exact ⟨sm_dec (by decide), fun _ => e⟩
  · exact bd_str (by decide) (sm_dec (by decide))
  · exact bd_str (by decide) (sm_dec (by decide))
theorem bd_cl : cls 0 [D.str "", .str "A", .str "aB", .str "a1", .str "1", .str "a_b", .str "a b", .str "ninechars", .non, .int 7, .lst [.str "a"], .bl true, .str "a\n", .str "a{"] = true := by decide
theorem smi {ws : List D} (h : ∀ w ∈ ws, Sm9 0 1 w) (a b : Option Int) : ∀ w ∈ cutD ws a b, Sm9 0 1 w := fun w hw => h w (cut_mem hw)
theorem sm1 {x : D} (h : Sm9 0 1 x) : ∀ w ∈ [x], Sm9 0 1 w := fun w hw => by
  rw [List.mem_singleton] at hw; subst hw; exact h
/-- the values that _law_changed gives -/
def VV (v : D) : Prop := (∃ xs, Sq v xs ∧ xs.length ≤ 40 ∧ ∀ x ∈ xs, Rd x) ∨ v = .non ∨ v = .int 7 ∨ v = .str "rows" ∨ v = .dct [] [] ∨ v = .str ""
theorem w_changed {sh : D} {ys : List D} (hM : At p T L M) (hL : Pl L) (hT : T + 200 < 1000000000) (y7 : ys.length ≤ 7) (hy : ∀ y ∈ ys, Rw y) (q : ∀ v M', VV v → At p (T + 30) L M' → Q v M') : Wp (callT (g_law_changed K) [.ref (p + 1), sh, .lst ys] M) Q X := by
  refine call_src hM hL ?_
  unfold g_law_changed
  rw [w_body]
  unfold fb_law_changed
  simp only [ePick, eDraw]
  (try simp only [startD, List.map_cons, List.map_nil, List.length_cons, List.length_nil, List.replicate, List.cons_append, List.nil_append, Nat.reduceAdd, Nat.reduceSub])
  have rw0 : Rw (R3 "new" "e" [1, 2]) := ⟨_, _, _, rfl, by decide, by decide, by decide, by decide, by decide, by decide, by decide, fun v hv => by
    simp only [List.mem_cons, List.not_mem_nil, or_false] at hv
    rcases hv with rfl | rfl <;> decide⟩
  have hpl : ∀ y ∈ ys ++ [R3 "new" "e" [1, 2]], Rw y := fun y h => by
    rcases List.mem_append.mp h with z | z
    · exact hy y z
    · rw [List.mem_singleton] at z; subst z; exact rw0
  refine ws_cut (fun δ M' => δ = [some (.ref (p + 1)), some sh, some (.lst ys), some (.lst (ys ++ [R3 "new" "e" [1, 2]])), none, none, none, none, none, none, none, none, none] ∧ M = M') ?_ ?_
  · decreasing_trivial
    (try simp only [sz, Nat.reduceLeDiff, true_and])
    rw [oAdd_lst (by rw [sz]; simp; omega)]
    decreasing_trivial
    (all_goals first | done | trivial | rfl | exact ⟨rfl, rfl⟩ | exact ⟨trivial, trivial⟩ | exact ⟨rfl, [], by simp⟩ | exact ⟨[], by simp⟩)
  rintro _ _ ⟨rfl, rfl⟩
  generalize hpn : ys ++ [R3 "new" "e" [1, 2]] = pn at hpl
  have pn0 : pn ≠ [] := by rw [← hpn]; simp
  have pn8 : pn.length ≤ 8 := by rw [← hpn]; simp; omega
  clear hpn
  refine ws_cut (fun δ M' => ∃ (u4 u5 u6 u7 u8 u9 u10 u11 u12 : Option D) (rs : List D) (L2 : Sto), δ = [some (.ref (p + 1)), some sh, some (.lst rs), some (.lst pn), u4, u5, u6, u7, u8, u9, u10, u11, u12] ∧ rs.length ≤ 10 ∧ (∀ y ∈ rs, Rd y) ∧ Pl (L ++ L2) ∧ At p (T + 20) (L ++ L2) M') ?_ ?_
  · refine ws_for (fun zs i δ M' => zs.length ≤ 3 ∧ ∃ (u4 u5 u6 u7 u8 u9 u10 u11 u12 : Option D) (rs : List D) (L2 : Sto), δ = [some (.ref (p + 1)), some sh, some (.lst rs), some (.lst pn), u4, u5, u6, u7, u8, u9, u10, u11, u12] ∧ rs.length ≤ 7 + i ∧ (∀ y ∈ rs, Rd y) ∧ Pl (L ++ L2) ∧ At p (T + 1 + 6 * i) (L ++ L2) M') ?_
    refine wi_rng1 ?_
    have key : Wp (aCons (eFun (callT gDraw) (aCons (eVar 0) (aCons (eC (.int 4)) aNil))) aNil [some (.ref (p + 1)), some sh, some (.lst ys), some (.lst pn), none, none, none, none, none, none, none, none, none] M) (fun ds M1 => ∃ k : Int, ds = [.int k] ∧ 0 ≤ k ∧ k < 4 ∧ At p (T + 1) L M1) X0 := by
      decreasing_trivial
      refine w_draw hM hL (by omega) (by decide) (by decide) fun k M1 k0 k1 a1 => ?_
      exact ⟨k, rfl, k0, k1, a1⟩
    refine Wp.any key fun ds M1 ⟨k, e, k0, k1, a1⟩ => ?_
    subst e
    refine ⟨_, rfl, by omega, by omega, ⟨by rw [rngD_length]; omega, _, _, _, _, _, _, _, _, _, ys, [], rfl, by omega, fun y h => rw_rd (hy y h), by rw [List.append_nil]; exact hL, by rw [List.append_nil]; exact a1⟩, fun i x δ M2 hx ⟨l1, u4, u5, u6, u7, u8, u9, u10, u11, u12, rs, L2, ed, r1, r2, pl, ha⟩ => ?_, fun δ M2 ⟨l1, u4, u5, u6, u7, u8, u9, u10, u11, u12, rs, L2, ed, r1, r2, pl, ha⟩ => ?_⟩
    rotate_left
    · subst ed
      exact ⟨_, _, _, _, _, _, _, _, _, rs, L2, rfl, by omega, r2, pl, ha.mono (by omega)⟩
    subst ed
    obtain ⟨rfl, hi⟩ := rng_get hx
    rw [rngD_length] at l1
    rw [ws_gN]
    simp only [List.set_cons_zero, List.set_cons_succ]
    -- name, table, values
    refine ws_cut (fun δ M' => ∃ (nm tb : Str) (vs : List Int), δ = [some (.ref (p + 1)), some sh, some (.lst rs), some (.lst pn), some (.int (i : Nat)), some (.str nm), some (.str tb), some (.tup (vs.map .int)), u8, u9, u10, u11, u12] ∧ Rw (R3 nm tb vs) ∧ At p (T + 1 + 6 * i + 1) (L ++ L2) M') ?_ ?_
    · decreasing_trivial
      refine w_pick ha pl (by omega) (.inl rfl) pn0 (by omega) (rw_cl hpl) fun x hx M3 a3 => ?_
      have hr := hpl x hx
      obtain ⟨nm, tb, vs, rfl, h⟩ := hr
      decreasing_trivial
      exact ⟨nm, tb, vs, rfl, ⟨nm, tb, vs, rfl, h⟩, a3⟩
    rintro _ M3 ⟨nm, tb, vs, rfl, hrw, a3⟩
    obtain ⟨nm', tb', vs', e3, on, sn, zn, ot, st, v1, v3, vb⟩ := hrw
    have en : nm = nm' := congrArg nmR e3
    have et : tb = tb' := congrArg tbR e3
    have ev : vs = vs' := by
      have := congrArg vsR e3
      rwa [vsR_3, vsR_3] at this
    subst en et ev
    have smn : Sm9 1 40 (.str nm) := (txt_sm ⟨nm, rfl, on, sn⟩).mono (by omega) (by omega)
    have smt : Sm9 1 40 (.str tb) := (txt_sm ⟨tb, rfl, ot, st⟩).mono (by omega) (by omega)
    have si := sm_ints vb
    have lv : (vs.map D.int).length ≤ 3 := by rw [List.length_map]; exact v3
    have lv1 : 1 ≤ (vs.map D.int).length := by rw [List.length_map]; exact v1
    have smv : Sm9 1 40 (.tup (vs.map .int)) := vt si (by omega)
    have smvl : Sm9 1 40 (.lst (vs.map .int)) := (lst_sm (m := 15) si (by omega)).mono (by omega) (by omega)
    have oth : ("other" : Str) ≠ "zz" := by decide
    have ano : ("another" : Str) ≠ "zz" := by decide
    have thi : ("third" : Str) ≠ "zz" := by decide
    have smo : Sm9 1 40 (.str "other") := sm_dec (by decide)
    have sma : Sm9 1 40 (.str "another") := sm_dec (by decide)
    have smh : Sm9 1 40 (.str "third") := sm_dec (by decide)
    have cl1 := cut_le (vs.map D.int)
    generalize hvi : vs.map D.int = vi at *
    have hp9 : ∀ M : Sto, oPow (.int 10) (.int 9) M = some (.int 1000000000) := pow9
    have sm0 : ∀ x ∈ [D.non, .lst [.str nm, .str tb, .tup vi], .tup [.str nm, .str tb], .tup [.str nm, .str tb, .tup vi, .int 0], .tup [.str nm, .str tb, .lst vi]], Rd x :=
      rd_cons (rdn (sm_dec (by decide)) rfl) (rd_cons (rdn ((lst_sm (m := 3) (smcons smn (smcons smt (smcons smv smnil))) (by simp)).mono (by omega) (by omega)) rfl) (rd_cons (rdn ((tup_sm (m := 2) (smcons smn (smcons smt smnil)) (by simp)).mono (by omega) (by omega)) rfl)
        (rd_cons (rdn ((tup_sm (m := 4) (smcons smn (smcons smt (smcons smv (smcons (sm_dec (by decide)) smnil)))) (by simp)).mono (by omega) (by omega)) rfl) (rd_cons (rd3 zn smn smt smvl) rd_nil))))
    refine ws_cut (fun δ M' => ∃ (L' : Sto) (j : Nat) (os : List D), δ = [some (.ref (p + 1)), some sh, some (.lst rs), some (.lst pn), some (.int (i : Nat)), some (.str nm), some (.str tb), some (.tup vi), some (.ref (p + 2 + j)), u9, u10, u11, u12] ∧ OdS p (T + 1 + 6 * i + 1) L L' M' j 5 os) ?_ ?_
    · decreasing_trivial
      (try simp only [sz, Nat.reduceLeDiff, true_and])
      rw [gList_tup]
      decreasing_trivial
      (try simp only [sz, Nat.reduceLeDiff, true_and])
      rw [a3.length]
      refine ⟨_, _, _, rfl, ⟨a3.push _, pl.snoc (rd_cl sm0), ⟨_, List.append_assoc _ _ _⟩, by rw [List.getElem?_append_right (Nat.le_refl _), Nat.sub_self]; rfl, by rw [List.length_append]; omega, sm0, by simp, by simp⟩⟩
    rintro _ M4 ⟨L', j, os, rfl, hO⟩
    refine ws_cut (fun δ M' => ∃ (L' : Sto) (j : Nat) (os : List D), δ = [some (.ref (p + 1)), some sh, some (.lst rs), some (.lst pn), some (.int (i : Nat)), some (.str nm), some (.str tb), some (.tup vi), some (.ref (p + 2 + j)), u9, u10, u11, u12] ∧ OdS p (T + 1 + 6 * i + 1) L L' M' j 9 os) ?_ ?_
    · decreasing_trivial
      (try simp only [w_binE, w_unE, w_callE, w_revM, w_addM])
      decreasing_trivial
      (try simp only [sz, Nat.reduceLeDiff, true_and])
      refine w_odd hO (by simp) ?_
      decreasing_trivial
      refine ⟨_, _, _, rfl, hO.add ?_ (by simp)⟩
      refine rd_cons (rd3 (by decide) (sm_dec (by decide)) smt smv) (rd_cons ⟨t3 (sm_dec (by decide)) smt smv, fun _ => by show ("" : Str) ≠ "zz"; decide⟩ (rd_cons (rd3 zn smn (sm_dec (by decide)) smv) (rd_cons (rd3 oth smo smt (sm_dec (by decide))) rd_nil)))
    clear hO
    rintro _ M4 ⟨L', j, os, rfl, hO⟩
    refine ws_cut (fun δ M' => ∃ (L' : Sto) (j : Nat) (os : List D), δ = [some (.ref (p + 1)), some sh, some (.lst rs), some (.lst pn), some (.int (i : Nat)), some (.str nm), some (.str tb), some (.tup vi), some (.ref (p + 2 + j)), u9, u10, u11, u12] ∧ OdS p (T + 1 + 6 * i + 1) L L' M' j 13 os) ?_ ?_
    · decreasing_trivial
      (try simp only [w_binE, w_unE, w_callE, w_revM, w_addM])
      decreasing_trivial
      (try simp only [sz, Nat.reduceLeDiff, true_and])
      try simp only [oCut_tup, hp9, sm_some]
      decreasing_trivial
      (try simp only [sz, Nat.reduceLeDiff, true_and])
      rw [oAdd_tup (by rw [sz]; simp only [List.length_cons, List.length_nil]; have := cl1 (some 1) none; omega), oAdd_tup (by rw [sz]; simp only [List.length_cons, List.length_nil]; have := cl1 (some 1) none; omega)]
      decreasing_trivial
      (try simp only [sz, Nat.reduceLeDiff, true_and])
      refine w_odd hO (by simp) ?_
      decreasing_trivial
      refine ⟨_, _, _, rfl, hO.add ?_ (by simp)⟩
      refine rd_cons (rd3 oth smo smt (vt (smcons (sm_dec (by decide)) (smi si _ _)) (by simp only [List.length_cons]; have := cl1 (some 1) none; omega))) (rd_cons (rd3 oth smo smt (vt (smcons (sm_dec (by decide)) (smi si _ _)) (by simp only [List.length_cons]; have := cl1 (some 1) none; omega))) (rd_cons (rdn (sm_dec (by decide)) rfl) (rd_cons (rdn (sm_dec (by decide)) rfl) rd_nil)))
    clear hO
    rintro _ M4 ⟨L', j, os, rfl, hO⟩
    refine ws_cut (fun δ M' => ∃ (L' : Sto) (j : Nat) (os : List D), δ = [some (.ref (p + 1)), some sh, some (.lst rs), some (.lst pn), some (.int (i : Nat)), some (.str nm), some (.str tb), some (.tup vi), some (.ref (p + 2 + j)), u9, u10, u11, u12] ∧ OdS p (T + 1 + 6 * i + 1) L L' M' j 16 os) ?_ ?_
    · decreasing_trivial
      (try simp only [w_binE, w_unE, w_callE, w_revM, w_addM])
      decreasing_trivial
      (try simp only [sz, Nat.reduceLeDiff, true_and])
      have er : oRev (.tup vi) M4 = some (.tup vi.reverse) := rfl
      rw [er, oMul_tup (.inr (by decide)) (by decide) (by decide) (by omega)]
      decreasing_trivial
      (try simp only [sz, Nat.reduceLeDiff, true_and])
      try simp only [oCut_tup, sm_some]
      decreasing_trivial
      (try simp only [sz, Nat.reduceLeDiff, true_and])
      refine w_odd hO (by simp) ?_
      decreasing_trivial
      refine ⟨_, _, _, rfl, hO.add ?_ (by simp)⟩
      refine rd_cons (rd3 oth smo smt smv) (rd_cons (rd3 zn smn smt (vt (fun w hw => si w (List.mem_reverse.mp hw)) (by rw [List.length_reverse]; omega))) (rd_cons (rd3 ano sma smt (vt (fun w hw => si w (rep_mem (cut_mem hw))) (by have := cut_le (repL (Int.toNat 4) vi) none (some 4); have h5 : (repL (Int.toNat 4) vi).length = 4 * vi.length := rep_len 4 vi; omega))) rd_nil))
    clear hO
    rintro _ M4 ⟨L', j, os, rfl, hO⟩
    refine ws_cut (fun δ M' => ∃ (L' : Sto) (j : Nat) (os : List D), δ = [some (.ref (p + 1)), some sh, some (.lst rs), some (.lst pn), some (.int (i : Nat)), some (.str nm), some (.str tb), some (.tup vi), some (.ref (p + 2 + j)), u9, u10, u11, u12] ∧ OdS p (T + 1 + 6 * i + 1) L L' M' j 18 os) ?_ ?_
    · decreasing_trivial
      (try simp only [w_binE, w_unE, w_callE, w_revM, w_addM])
      decreasing_trivial
      (try simp only [sz, Nat.reduceLeDiff, true_and])
      rw [oAdd_tup (by rw [sz]; simp only [List.length_cons, List.length_nil]; omega)]
      decreasing_trivial
      (try simp only [sz, Nat.reduceLeDiff, true_and])
      try simp only [oCut_tup, hp9, sm_some]
      decreasing_trivial
      (try simp only [sz, Nat.reduceLeDiff, true_and])
      rw [oMul_tup (.inr (by omega)) (by omega) (by omega) (by decide)]
      decreasing_trivial
      (try simp only [sz, Nat.reduceLeDiff, true_and])
      refine w_odd hO (by simp) ?_
      decreasing_trivial
      refine ⟨_, _, _, rfl, hO.add ?_ (by simp)⟩
      refine rd_cons (rd3 ano sma smt (vt (fun w hw => smapp si (sm1 (sm_dec (by decide))) w (cut_mem hw)) (by have := cut_le (vi ++ [D.int 5]) none (some 3); simp only [List.length_append, List.length_cons, List.length_nil] at this; omega))) (rd_cons (rd3 thi smh smt (vt (fun w hw => sm1 (sm_dec (by decide)) w (rep_mem hw)) (by rw [rep_len]; simp; omega))) rd_nil)
    clear hO
    rintro _ M4 ⟨L', j, os, rfl, hO⟩
    refine ws_cut (fun δ M' => ∃ (L' : Sto) (j : Nat) (os : List D), δ = [some (.ref (p + 1)), some sh, some (.lst rs), some (.lst pn), some (.int (i : Nat)), some (.str nm), some (.str tb), some (.tup vi), some (.ref (p + 2 + j)), u9, u10, u11, u12] ∧ OdS p (T + 1 + 6 * i + 1) L L' M' j 22 os) ?_ ?_
    · decreasing_trivial
      (try simp only [w_binE, w_unE, w_callE, w_revM, w_addM])
      decreasing_trivial
      (try simp only [sz, Nat.reduceLeDiff, true_and])
      refine w_odd hO (by simp) ?_
      decreasing_trivial
      refine ⟨_, _, _, rfl, hO.add ?_ (by simp)⟩
      refine rd_cons ⟨t3 (sm_dec (by decide)) smt smv, fun _ => by show ("" : Str) ≠ "zz"; decide⟩ (rd_cons (rd3 zn smn smt (sm_dec (by decide))) (rd_cons (rd3 zn smn smt (sm_dec (by decide))) (rd_cons (rd3 zn smn smt (sm_dec (by decide))) rd_nil)))
    clear hO
    rintro _ M4 ⟨L', j, os, rfl, hO⟩
    refine ws_cut (fun δ M' => δ = [some (.ref (p + 1)), some sh, some (.lst rs), some (.lst pn), some (.int (i : Nat)), some (.str nm), some (.str tb), some (.tup vi), some (.ref (p + 2 + j)), some (.lst [D.str "", .str "A", .str "aB", .str "a1", .str "1", .str "a_b", .str "a b", .str "ninechars", .non, .int 7, .lst [.str "a"], .bl true, .str "a\n", .str "a{"]), u10, u11, u12] ∧ M4 = M') ?_ ?_
    · decreasing_trivial
      (try simp only [sz, Nat.reduceLeDiff, true_and])
    rintro _ _ ⟨rfl, rfl⟩
    refine ws_cut (fun δ M' => ∃ (w9 : Option D) (bad : D), δ = [some (.ref (p + 1)), some sh, some (.lst rs), some (.lst pn), some (.int (i : Nat)), some (.str nm), some (.str tb), some (.tup vi), some (.ref (p + 2 + j)), w9, some bad, u11, u12] ∧ Bd bad ∧ At p (T + 1 + 6 * i + 1 + 1) L' M') ?_ ?_
    · decreasing_trivial
      refine w_pick hO.at_ hO.pl (by omega) (.inl rfl) (by simp) (by simp) bd_cl fun x hx M5 a5 => ?_
      exact ⟨_, x, rfl, words_bd x hx, a5⟩
    rintro _ M5 ⟨w9, bad, rfl, hbad, a5⟩
    refine ws_cut (fun δ M' => ∃ (far : D), δ = [some (.ref (p + 1)), some sh, some (.lst rs), some (.lst pn), some (.int (i : Nat)), some (.str nm), some (.str tb), some (.tup vi), some (.ref (p + 2 + j)), w9, some bad, some far, u12] ∧ Sm9 0 1 far ∧ At p (T + 1 + 6 * i + 1 + 2) L' M') ?_ ?_
    · decreasing_trivial
      try simp only [hp9, sm_some]
      decreasing_trivial
      (try simp only [sz, Nat.reduceLeDiff, true_and])
      refine w_pickS (k := 0) (n := 1) a5 hO.pl (by omega) (smcons (sm_dec (by decide)) (smcons (sm_dec (by decide)) (smcons (sm_dec (by decide)) (smcons (sm_dec (by decide)) (smcons (sm_dec (by decide)) smnil))))) (by simp) (by simp) fun x M6 hx a6 => ?_
      exact ⟨x, rfl, hx, a6⟩
    rintro _ M6 ⟨far, rfl, hfar, a6⟩
    replace hO := hO.now a6
    refine ws_cut (fun δ M' => ∃ (L' : Sto) (j : Nat) (os : List D), δ = [some (.ref (p + 1)), some sh, some (.lst rs), some (.lst pn), some (.int (i : Nat)), some (.str nm), some (.str tb), some (.tup vi), some (.ref (p + 2 + j)), w9, some bad, some far, u12] ∧ OdS p (T + 1 + 6 * i + 1 + 2) L L' M' j 25 os) ?_ ?_
    · decreasing_trivial
      (try simp only [w_binE, w_unE, w_callE, w_revM, w_addM])
      decreasing_trivial
      (try simp only [sz, Nat.reduceLeDiff, true_and])
      rw [oNeg_int]
      decreasing_trivial
      (try simp only [sz, Nat.reduceLeDiff, true_and])
      try simp only [oCut_tup, sm_some]
      decreasing_trivial
      (try simp only [sz, Nat.reduceLeDiff, true_and])
      rw [oAdd_tup (by rw [sz]; simp only [List.length_cons, List.length_nil]; have := cl1 none (some (-1)); omega)]
      decreasing_trivial
      (try simp only [sz, Nat.reduceLeDiff, true_and])
      refine w_odd hO (by simp) ?_
      decreasing_trivial
      refine ⟨_, _, _, rfl, hO.add ?_ (by simp)⟩
      refine rd_cons ⟨t3 hbad.sm smt smv, fun _ => hbad.nm _⟩ (rd_cons (rd3 zn smn hbad.sm smv) (rd_cons (rd3 oth smo smt (vt (smapp (smi si _ _) (sm1 hfar)) (by simp only [List.length_append, List.length_cons, List.length_nil]; have := cl1 none (some (-1)); omega))) rd_nil))
    clear hO
    rintro _ M7 ⟨L', j, os, rfl, hO⟩
    refine ws_cut (fun δ M' => ∃ (L' : Sto) (j : Nat) (os : List D), δ = [some (.ref (p + 1)), some sh, some (.lst rs), some (.lst pn), some (.int (i : Nat)), some (.str nm), some (.str tb), some (.tup vi), some (.ref (p + 2 + j)), w9, some bad, some far, u12] ∧ OdS p (T + 1 + 6 * i + 1 + 2) L L' M' j 26 os) ?_ ?_
    · decreasing_trivial
      refine ⟨tyOk_ref hO.ref, ?_⟩
      try simp only [hp9, sm_some]
      decreasing_trivial
      (try simp only [sz, Nat.reduceLeDiff, true_and])
      try simp only [oCut_tup, sm_some]
      decreasing_trivial
      (try simp only [sz, Nat.reduceLeDiff, true_and])
      rw [oAdd_tup (by rw [sz]; simp only [List.length_cons, List.length_nil]; have := cl1 (some 1) none; omega)]
      decreasing_trivial
      (try simp only [sz, Nat.reduceLeDiff, true_and])
      rw [append_ref hO.ref (by rw [sz]; have := hO.len; omega)]
      decreasing_trivial
      exact ⟨_, _, _, rfl, hO.app (rd3 oth smo smt (vt (smcons (sm_dec (by decide)) (smi si _ _)) (by simp only [List.length_cons]; have := cl1 (some 1) none; omega))) (by omega)⟩
    clear hO
    rintro _ M8 ⟨L', j, os, rfl, hO⟩
    refine ws_cut (fun δ M' => ∃ (L' : Sto) (j : Nat) (os : List D), δ = [some (.ref (p + 1)), some sh, some (.lst rs), some (.lst pn), some (.int (i : Nat)), some (.str nm), some (.str tb), some (.tup vi), some (.ref (p + 2 + j)), w9, some bad, some far, u12] ∧ OdS p (T + 1 + 6 * i + 1 + 2) L L' M' j 27 os) ?_ ?_
    · decreasing_trivial
      refine ⟨tyOk_ref hO.ref, ?_⟩
      try simp only [oCut_tup, sm_some]
      decreasing_trivial
      (try simp only [sz, Nat.reduceLeDiff, true_and])
      rw [oAdd_tup (by rw [sz]; simp only [List.length_cons, List.length_nil]; have := cl1 none (some 1); omega)]
      decreasing_trivial
      (try simp only [sz, Nat.reduceLeDiff, true_and])
      try simp only [oCut_tup, sm_some]
      decreasing_trivial
      rw [oAdd_tup (by rw [sz]; simp only [List.length_append, List.length_cons, List.length_nil]; have := cl1 none (some 1); have := cl1 (some 2) none; omega)]
      decreasing_trivial
      (try simp only [sz, Nat.reduceLeDiff, true_and])
      rw [append_ref hO.ref (by rw [sz]; have := hO.len; omega)]
      decreasing_trivial
      exact ⟨_, _, _, rfl, hO.app (rd3 oth smo smt (vt (smapp (smapp (smi si _ _) (sm1 hfar)) (smi si _ _)) (by simp only [List.length_append, List.length_cons, List.length_nil]; have := cl1 none (some 1); have := cl1 (some 2) none; omega))) (by omega)⟩
    clear hO
    rintro _ M9 ⟨L', j, os, rfl, hO⟩
    decreasing_trivial
    refine w_draw hO.at_ hO.pl (by omega) (by omega) (by omega) fun sp M10 sp0 sp1 a10 => ?_
    obtain ⟨jj, rfl⟩ := Int.eq_ofNat_of_zero_le sp0
    replace hO := hO.now a10
    decreasing_trivial
    rw [oCut_lst]
    decreasing_trivial
    refine w_pickR (i := j) (xs := os) hO.at_ hO.pl (by omega) hO.get hO.ne (by have := hO.len; omega) fun y hym M11 a11 => ?_
    decreasing_trivial
    (try simp only [sz, Nat.reduceLeDiff, true_and])
    have c1 := cut_to (xs := rs) (i := jj) (by omega)
    have c2 := cut_from (xs := rs) (i := jj) (by omega)
    rw [c1, oAdd_lst (by rw [sz]; simp only [List.length_cons, List.length_nil, List.length_take]; omega)]
    decreasing_trivial
    rw [oCut_lst]
    decreasing_trivial
    rw [c2, oAdd_lst (by rw [sz]; simp only [List.length_cons, List.length_nil, List.length_append, List.length_take, List.length_drop]; omega)]
    decreasing_trivial
    obtain ⟨L3, eL⟩ := hO.ex
    have plf := hO.pl
    have hoy := hO.od y hym
    clear hO
    subst eL
    refine ⟨by rw [rngD_length]; omega, _, _, _, _, _, _, _, _, _, rs.take jj ++ [y] ++ rs.drop jj, L3, rfl, by simp only [List.length_cons, List.length_nil, List.length_append, List.length_take, List.length_drop]; omega, fun z hz => ?_, plf, a11.mono (by omega)⟩
    rcases List.mem_append.mp hz with z1 | z1
    · rcases List.mem_append.mp z1 with z2 | z2
      · exact r2 z (List.mem_of_mem_take z2)
      · rw [List.mem_singleton] at z2; subst z2; exact hoy
    · exact r2 z (List.mem_of_mem_drop z1)
  rintro _ M1 ⟨u4, u5, u6, u7, u8, u9, u10, u11, u12, rs, L2, rfl, r1, r2, pl, a1⟩
  decreasing_trivial
  rw [gTuple_lst]
  decreasing_trivial
  rw [oMul_lst (by decide) (by decide) (by rw [sz]; have e : Int.toNat 4 = 4 := rfl; rw [e]; omega)]
  decreasing_trivial
  (try simp only [sz, Nat.reduceLeDiff, true_and])
  have e4 : (repL (Int.toNat 4) rs).length = 4 * rs.length := rep_len 4 rs
  have hv : ∀ y ∈ [D.lst rs, .lst rs, .lst rs, .tup rs, .non, .int 7, .lst (repL (Int.toNat 4) rs), .str "rows", .tup [], .dct [] [], .str ""], VV y ∧ cl 0 y = true := by
    have c := rd_cl r2
    have r3 : ∀ x ∈ repL (Int.toNat 4) rs, Rd x := fun x hx => r2 x (rep_mem hx)
    intro y hy
    simp only [List.mem_cons, List.not_mem_nil, or_false] at hy
    rcases hy with rfl | rfl | rfl | rfl | rfl | rfl | rfl | rfl | rfl | rfl | rfl
    · exact ⟨.inl ⟨rs, .inl rfl, by omega, r2⟩, c⟩
    · exact ⟨.inl ⟨rs, .inl rfl, by omega, r2⟩, c⟩
    · exact ⟨.inl ⟨rs, .inl rfl, by omega, r2⟩, c⟩
    · exact ⟨.inl ⟨rs, .inr rfl, by omega, r2⟩, c⟩
    · exact ⟨.inr (.inl rfl), rfl⟩
    · exact ⟨.inr (.inr (.inl rfl)), rfl⟩
    · exact ⟨.inl ⟨_, .inl rfl, by omega, r3⟩, rd_cl r3⟩
    · exact ⟨.inr (.inr (.inr (.inl rfl))), rfl⟩
    · exact ⟨.inl ⟨[], .inr rfl, by simp, rd_nil⟩, rfl⟩
    · exact ⟨.inr (.inr (.inr (.inr (.inl rfl)))), rfl⟩
    · exact ⟨.inr (.inr (.inr (.inr (.inr rfl)))), rfl⟩
  refine w_pick a1 pl (by omega) (.inl rfl) (by simp) (by simp) (cls_mem.mpr fun d hd => (hv d hd).2) fun x hx M2 a2 => ?_
  exact ⟨_, L2, a2, (hv x hx).2, fun M'' a => q x M'' (hv x hx).1 (a.mono (by omega))⟩
end
end L2.MK.W_k14

end

section
set_option Elab.async false
set_option linter.all false
set_option maxRecDepth 100000
set_option maxHeartbeats 1000000
set_option autoImplicit false
set_option exponentiation.threshold 2000
namespace L2.MK.W_k14
local macro_rules
  | `(tactic| decreasing_trivial) => `(tactic| try simp only [w_bind, w_pure, w_pure', w_opt, w_var, w_C, w_bin, w_un, w_call, w_fun, w_nil, w_cons, w_tup, w_lst, w_lstM, w_dctM, w_isBl, w_bTru, w_bOf, w_and, w_or, w_not, wb_and, wb_or, wb_not, wb_yes, w_if, w_chain, w_cut, w_cutM, w_sNo, w_isI, w_sAt, w_meth, w_setd,
  ws_skip, ws_seq, ws_exp, ws_ret, ws_retN, ws_if, ws_asg, ws_gN, ws_gNils, ws_gConss, ws_gTup, ws_gSub, ws_raise, ws_try, ws_noRet, sm_some,
  startD, List.map_cons, List.map_nil, List.length_cons, List.length_nil, List.replicate, List.cons_append, List.nil_append, List.getElem?_cons_zero, List.getElem?_cons_succ, List.set_cons_zero, List.set_cons_succ, Option.join_some, Option.join_none, Nat.reduceAdd, Nat.reduceSub, Nat.add_zero, Nat.zero_add,
  sqD_lst, sqD_tup, sqD_rol, gLen_lst, gLen_tup, gInt_int, gInt_bl, gAbs_int, oAdd_int, oSub_int, oLt_int, oLe_int, oGt_int, oGe_int, oIx_lst, oIx_tup, oEq_int, oNe_int, true_and, and_true, true_implies, seqF_lst, seqF_tup, seqF_str, sqF_lst, sqF_tup, truD_bl, isStr, isTupB, isLst, ↓reduceIte, Bool.false_eq_true, Bool.not_true, Bool.not_false, setPt_nm, setPt_tp, setPts_nil, setPts_cons, wipeD_nil, wipeD_cons])
open PySem PySem.Spec PyProof.Rows PySem.W He
section
variable {K : Frag} {M : Sto} {Q : D → Sto → Prop} {X : XP} {p T : Nat} {L : Sto}
theorem reprE_dat {d : D} (h : dOk d = true) : gReprE [d] M = gRepr [d] M := by
  cases d <;> first | rfl | (unfold dOk at h; cases h)
theorem reprE_ok {d : D} (h : dOk d = true) (hd : dDep d ≤ 60) (hb : dBk d ≤ 2 ^ 20) : ∃ s, ∀ M, gReprE [d] M = some (.str s) := by
  obtain ⟨s, _, e⟩ := repr_ok (M := []) h hd hb
  exact ⟨s, fun M => by rw [reprE_dat h]; exact e M⟩
theorem sq_sm {k n m : Nat} {v : D} {xs : List D} (hs : Sq v xs) (h : ∀ x ∈ xs, Sm9 k n x) (hl : xs.length ≤ m) : Sm9 (k + 1) (m * (n + 1)) v := by
  rcases hs with rfl | rfl
  · exact lst_sm h hl
  · exact tup_sm h hl
/-- what is so of every value that is drawn: the reason r, the text s -/
structure VA (K : Frag) (v r : D) (s : Str) : Prop where
  ok : dOk r = true
  dep : dDep r ≤ 1
  es : ∀ M, gReprE [v] M = some (.str s)
  ra : ∀ (M : Sto) (Q : D → Sto → Prop) (X : XP), Ok M → Q r M → Wp (callT (g_law_raised K) [v] M) Q X
  ex : ∀ (M : Sto) (Q : D → Sto → Prop) (X : XP), Ok M → Q r M → Wp (callT (g_law_expected K) [v] M) Q X
  no : r = .non → ∃ xs, Sq v xs ∧ terrL xs = .non ∧ dOks xs = true ∧ dBks xs ≤ 2 ^ 20 ∧ dDeps xs ≤ 50 ∧ ∀ x ∈ xs, nmR x ≠ "zz"
theorem va_key (G : Kf K) {v : D} (h1 : dOkq v = true) (h2 : (isLst v || isTupB v) = false) (h : ∃ s, ∀ M, gReprE [v] M = some (.str s)) : ∃ r s, VA K v r s := by
  obtain ⟨s, es⟩ := h
  exact ⟨rowsR, s, by decide, by decide, es, fun M Q X hM q => w_law_raisedN G hM h1 h2 q, fun M Q X hM q => w_law_expectedN hM h1 h2 q, fun e => by unfold rowsR at e; cases e⟩
theorem vv_all (G : Kf K) {v : D} (h : VV v) : ∃ r s, VA K v r s := by
  rcases h with ⟨xs, hs, hl, hr⟩ | h
  · have sm : ∀ x ∈ xs, Sm9 3 200 x := fun x hx => (hr x hx).sm
    have sv := sq_sm (m := 40) hs sm hl
    have hx := sms_ok sm
    have hb : dBks xs ≤ 2 ^ 20 := by have := sv.bk; rw [hs.bk] at this; omega
    have hd : dDeps xs ≤ 50 := by have := sms_dep sm; omega
    obtain ⟨s, es⟩ := reprE_ok sv.ok (by have := sv.dep; omega) (by have := sv.bk; omega)
    obtain ⟨o1, o2⟩ := terrL_ok xs
    exact ⟨terrL xs, s, o1, o2, es, fun M Q X hM q => w_law_raised G hM (.inl hs) hx hb q, fun M Q X hM q => w_law_expected hM hs sv.ok hb hd q, fun e => ⟨xs, hs, e, hx, hb, hd, fun x hxm => (hr x hxm).zz ((good_of e).row x hxm)⟩⟩
  · rcases h with rfl | rfl | rfl | rfl | rfl
    · exact va_key G rfl rfl (reprE_ok rfl (by decide) (by decide))
    · exact va_key G (by decide) rfl (reprE_ok (by decide) (by decide) (by decide))
    · exact va_key G (by decide) rfl (reprE_ok (by decide) (by decide) (by decide))
    · exact va_key G rfl rfl ⟨"{}", fun M => rfl⟩
    · exact va_key G (by decide) rfl (reprE_ok (by decide) (by decide) (by decide))
theorem gList_sq {v : D} {xs : List D} (h : Sq v xs) : gList [v] M = some (.lst xs) := by
  rcases h with rfl | rfl <;> rfl
theorem law_ok (G : Kf K) (ns : List Int) : ∃ M, g_law K [.rol (ns.map .int)] [] = .ok (.bl true) M := by
  refine ws_end ?_
  unfold g_law
  rw [w_body]
  unfold fb_law
  simp only [eSource]
  (try simp only [startD, List.map_cons, List.map_nil, List.length_cons, List.length_nil, List.replicate, List.cons_append, List.nil_append, Nat.reduceAdd, Nat.reduceSub])
  refine ws_cut (fun δ M' => ∃ p, δ = [some (.rol (ns.map .int)), some (.ref (p + 1)), none, none, none, none] ∧ At p 0 [] M') ?_ ?_
  · decreasing_trivial
    exact w_source fun p M' a => ⟨p, rfl, a⟩
  rintro _ M1 ⟨p, rfl, a1⟩
  have ok1 := a1.ok Pl.nil
  refine ws_cut (fun δ M' => δ = [some (.rol (ns.map .int)), some (.ref (p + 1)), none, none, none, none] ∧ M1 = M') ?_ ?_
  · decreasing_trivial
    rw [if_neg (by simp)]
    refine ⟨by rw [sz]; decide, ?_⟩
    refine w_make ok1 (.inl (.inl rfl)) rfl (by decide) (fun _ => ?_) fun h => absurd (of_good ⟨by simp, fun x h => absurd h (by simp), .nil⟩) h
    decreasing_trivial
    refine w_law_raisedT G ok1 ?_
    decreasing_trivial
    refine ⟨by rw [sz]; decide, ?_⟩
    rw [show D.tup [.str "rows"] = rowsR from rfl, oNe_same (show dOk rowsR = true by decide) (by decide)]
    decreasing_trivial
    (all_goals first | done | trivial | rfl | exact ⟨rfl, rfl⟩ | exact ⟨trivial, trivial⟩ | exact ⟨rfl, [], by simp⟩ | exact ⟨[], by simp⟩)
  rintro _ _ ⟨rfl, rfl⟩
  refine ws_cut (fun _ _ => True) ?_ (fun δ2 M2 _ => by decreasing_trivial)
  refine ws_for (fun zs i δ M' => zs.length ≤ 20 ∧ ∃ (u2 u3 u4 u5 : Option D), δ = [some (.rol (ns.map .int)), some (.ref (p + 1)), u2, u3, u4, u5] ∧ At p (200 * i) [] M') ?_
  refine wi_rng1 ?_
  rw [w_cons, w_C, w_nil]
  refine ⟨_, rfl, by decide, by decide, ⟨by rw [rngD_length]; decide, none, none, none, none, rfl, a1⟩, fun i x δ M2 hx ⟨l1, u2, u3, u4, u5, ed, ha⟩ => ?_, fun _ _ _ => trivial⟩
  subst ed
  obtain ⟨rfl, hi⟩ := rng_get hx
  have hi : i < 20 := hi
  rw [ws_gN]
  simp only [List.set_cons_zero, List.set_cons_succ]
  refine ws_cut (fun δ M' => ∃ sh : List D, δ = [some (.rol (ns.map .int)), some (.ref (p + 1)), some (.int (i : Nat)), some (.lst sh), u4, u5] ∧ sh ≠ [] ∧ sh.length ≤ 5 ∧ (∀ y ∈ sh, Shape y) ∧ At p (200 * i + 10) [] M') ?_ ?_
  · decreasing_trivial
    exact w_shapes ha Pl.nil (by omega) fun sh M3 s1 s2 s3 a3 => ⟨sh, rfl, s1, s2, s3, a3⟩
  rintro _ M3 ⟨sh, rfl, s1, s2, s3, a3⟩
  refine ws_cut (fun δ M' => ∃ ys : List D, δ = [some (.rol (ns.map .int)), some (.ref (p + 1)), some (.int (i : Nat)), some (.lst sh), some (.lst ys), u5] ∧ ys.length ≤ 7 ∧ (∀ y ∈ ys, Rw y) ∧ At p (200 * i + 70) [] M') ?_ ?_
  · decreasing_trivial
    exact w_database a3 Pl.nil (by omega) s1 s2 s3 fun ys M4 y1 y2 a4 => ⟨ys, rfl, y1, y2, a4.mono (by omega)⟩
  rintro _ M4 ⟨ys, rfl, y1, y2, a4⟩
  refine ws_cut (fun δ M' => ∃ v : D, δ = [some (.rol (ns.map .int)), some (.ref (p + 1)), some (.int (i : Nat)), some (.lst sh), some v, u5] ∧ VV v ∧ At p (200 * i + 100) [] M') ?_ ?_
  · decreasing_trivial
    rw [oMod_int (by decide)]
    decreasing_trivial
    split
    · exact w_changed a4 Pl.nil (by omega) y1 y2 fun v M5 hv a5 => ⟨v, rfl, hv, a5.mono (by omega)⟩
    · exact ⟨.lst ys, rfl, .inl ⟨ys, .inl rfl, by omega, fun y hy => rw_rd (y2 y hy)⟩, a4.mono (by omega)⟩
  rintro _ M5 ⟨v, rfl, hv, a5⟩
  have ok5 := a5.ok Pl.nil
  obtain ⟨r, s, r1, r2, es, hra, hex, hno⟩ := vv_all (K := K) G hv
  refine ws_cut (fun δ M' => δ = [some (.rol (ns.map .int)), some (.ref (p + 1)), some (.int (i : Nat)), some (.lst sh), some v, some (.str s)] ∧ M5 = M') ?_ ?_
  · decreasing_trivial
    rw [es]
    decreasing_trivial
    (all_goals first | done | trivial | rfl | exact ⟨rfl, rfl⟩ | exact ⟨trivial, trivial⟩ | exact ⟨rfl, [], by simp⟩ | exact ⟨[], by simp⟩)
  rintro _ _ ⟨rfl, rfl⟩
  refine ws_cut (fun δ M' => δ = [some (.rol (ns.map .int)), some (.ref (p + 1)), some (.int (i : Nat)), some (.lst sh), some v, some (.str s)] ∧ M5 = M') ?_ ?_
  · decreasing_trivial
    refine hra _ _ _ ok5 ?_
    refine hex _ _ _ ok5 ?_
    rw [oNe_same r1 (by omega)]
    decreasing_trivial
    rw [es]
    decreasing_trivial
    rw [oNe_str_same]
    decreasing_trivial
    (all_goals first | done | trivial | rfl | exact ⟨rfl, rfl⟩ | exact ⟨trivial, trivial⟩ | exact ⟨rfl, [], by simp⟩ | exact ⟨[], by simp⟩)
  rintro _ _ ⟨rfl, rfl⟩
  decreasing_trivial
  refine hex _ _ _ ok5 ?_
  have eN : oIs r .non M5 = some (.bl (isNon r)) := rfl
  rw [eN]
  decreasing_trivial
  by_cases h : isNon r = true
  · rw [if_pos h]
    obtain ⟨xs, hs, e, hx, hb, hd, hz⟩ := hno (isNon_iff.mp h)
    rw [gList_sq hs]
    decreasing_trivial
    refine w_parts_hold G ok5 hx hb hd e hz ?_
    decreasing_trivial
    exact ⟨l1, _, _, _, _, rfl, a5.mono (by omega)⟩
  · rw [if_neg h]
    decreasing_trivial
    exact ⟨l1, _, _, _, _, rfl, a5.mono (by omega)⟩
end
end L2.MK.W_k14

end

section
set_option Elab.async false
set_option linter.all false
set_option maxRecDepth 100000
set_option maxHeartbeats 4000000
set_option autoImplicit false
set_option exponentiation.threshold 2000
section
namespace L2.MK.W_k14
open PySem PySem.Spec PyProof.Rows PySem.W He
abbrev Pg : Program := PySem.Challenge.pw_marktables_k14_tables_errors
def top (i : Nat) : Stmt := PySem.Challenge.pw_marktables_k14_tables_errors.main.body.getD i (.Pass ⟨0, 0, 0, 0⟩)
def clsBody : Stmt → List Stmt
  | .ClassDef (body := b) .. => b
  | _ => []
abbrev s_Tables__eq : Stmt := (clsBody (top 14)).getD 6 (.Pass ⟨0, 0, 0, 0⟩)
theorem sc_Tables__eq : FnScope N_Tables__eq ["self", "other"] (defScope s_Tables__eq) := ⟨rfl, rfl, rfl, by decide +kernel, rfl, by decide +kernel, by decide +kernel⟩
abbrev s_InvalidTables__init : Stmt := (clsBody (top 2)).getD 0 (.Pass ⟨0, 0, 0, 0⟩)
theorem sc_InvalidTables__init : FnScope N_InvalidTables__init ["self", "reason"] (defScope s_InvalidTables__init) := ⟨rfl, rfl, rfl, by decide +kernel, rfl, by decide +kernel, by decide +kernel⟩
abbrev s_is_integer : Stmt := top 9
theorem sc_is_integer : FnScope N_is_integer ["value"] (defScope s_is_integer) := ⟨rfl, rfl, rfl, by decide +kernel, rfl, by decide +kernel, by decide +kernel⟩
abbrev s_is_name : Stmt := top 7
theorem sc_is_name : FnScope N_is_name ["value"] (defScope s_is_name) := ⟨rfl, rfl, rfl, by decide +kernel, rfl, by decide +kernel, by decide +kernel⟩
abbrev s_is_row : Stmt := top 12
theorem sc_is_row : FnScope N_is_row ["value"] (defScope s_is_row) := ⟨rfl, rfl, rfl, by decide +kernel, rfl, by decide +kernel, by decide +kernel⟩
abbrev s_tables_error : Stmt := top 13
theorem sc_tables_error : FnScope N_tables_error ["rows", "most"] (defScope s_tables_error) := ⟨rfl, rfl, rfl, by decide +kernel, rfl, by decide +kernel, by decide +kernel⟩
abbrev s_Tables__init : Stmt := (clsBody (top 14)).getD 1 (.Pass ⟨0, 0, 0, 0⟩)
theorem sc_Tables__init : FnScope N_Tables__init ["self", "rows"] (defScope s_Tables__init) := ⟨rfl, rfl, rfl, by decide +kernel, rfl, by decide +kernel, by decide +kernel⟩
abbrev s_Tables__contains : Stmt := (clsBody (top 14)).getD 5 (.Pass ⟨0, 0, 0, 0⟩)
theorem sc_Tables__contains : FnScope N_Tables__contains ["self", "value"] (defScope s_Tables__contains) := ⟨rfl, rfl, rfl, by decide +kernel, rfl, by decide +kernel, by decide +kernel⟩
abbrev s_Tables__len : Stmt := (clsBody (top 14)).getD 4 (.Pass ⟨0, 0, 0, 0⟩)
theorem sc_Tables__len : FnScope N_Tables__len ["self"] (defScope s_Tables__len) := ⟨rfl, rfl, rfl, by decide +kernel, rfl, by decide +kernel, by decide +kernel⟩
abbrev s_Tables_names : Stmt := (clsBody (top 14)).getD 3 (.Pass ⟨0, 0, 0, 0⟩)
theorem sc_Tables_names : FnScope N_Tables_names ["self"] (defScope s_Tables_names) := ⟨rfl, rfl, rfl, by decide +kernel, rfl, by decide +kernel, by decide +kernel⟩
abbrev s_Tables_rows : Stmt := (clsBody (top 14)).getD 2 (.Pass ⟨0, 0, 0, 0⟩)
theorem sc_Tables_rows : FnScope N_Tables_rows ["self"] (defScope s_Tables_rows) := ⟨rfl, rfl, rfl, by decide +kernel, rfl, by decide +kernel, by decide +kernel⟩
abbrev s_law_strange : Stmt := top 32
theorem sc_law_strange : FnScope N_law_strange ["rows"] (defScope s_law_strange) := ⟨rfl, rfl, rfl, by decide +kernel, rfl, by decide +kernel, by decide +kernel⟩
abbrev s_law_parts_hold : Stmt := top 33
theorem sc_law_parts_hold : FnScope N_law_parts_hold ["rows"] (defScope s_law_parts_hold) := ⟨rfl, rfl, rfl, by decide +kernel, rfl, by decide +kernel, by decide +kernel⟩
abbrev s_law_is_value : Stmt := top 27
theorem sc_law_is_value : FnScope N_law_is_value ["value"] (defScope s_law_is_value) := ⟨rfl, rfl, rfl, by decide +kernel, rfl, by decide +kernel, by decide +kernel⟩
abbrev s_law_is_word : Stmt := top 26
theorem sc_law_is_word : FnScope N_law_is_word ["value"] (defScope s_law_is_word) := ⟨rfl, rfl, rfl, by decide +kernel, rfl, by decide +kernel, by decide +kernel⟩
abbrev s_law_is_row : Stmt := top 28
theorem sc_law_is_row : FnScope N_law_is_row ["value"] (defScope s_law_is_row) := ⟨rfl, rfl, rfl, by decide +kernel, rfl, by decide +kernel, by decide +kernel⟩
abbrev s_law_expected : Stmt := top 29
theorem sc_law_expected : FnScope N_law_expected ["rows"] (defScope s_law_expected) := ⟨rfl, rfl, rfl, by decide +kernel, rfl, by decide +kernel, by decide +kernel⟩
abbrev s_law_raised : Stmt := top 30
theorem sc_law_raised : FnScope N_law_raised ["rows"] (defScope s_law_raised) := ⟨rfl, rfl, rfl, by decide +kernel, rfl, by decide +kernel, by decide +kernel⟩
abbrev s_law_draw : Stmt := top 17
theorem sc_law_draw : FnScope N_law_draw ["source", "limit"] (defScope s_law_draw) := ⟨rfl, rfl, rfl, by decide +kernel, rfl, by decide +kernel, by decide +kernel⟩
abbrev s_law_pick : Stmt := top 18
theorem sc_law_pick : FnScope N_law_pick ["source", "values"] (defScope s_law_pick) := ⟨rfl, rfl, rfl, by decide +kernel, rfl, by decide +kernel, by decide +kernel⟩
abbrev s_law_changed : Stmt := top 31
theorem sc_law_changed : FnScope N_law_changed ["source", "shapes", "rows"] (defScope s_law_changed) := ⟨rfl, rfl, rfl, by decide +kernel, rfl, by decide +kernel, by decide +kernel⟩
abbrev s_law_shuffle : Stmt := top 19
theorem sc_law_shuffle : FnScope N_law_shuffle ["source", "values"] (defScope s_law_shuffle) := ⟨rfl, rfl, rfl, by decide +kernel, rfl, by decide +kernel, by decide +kernel⟩
abbrev s_law_word : Stmt := top 20
theorem sc_law_word : FnScope N_law_word ["source", "size"] (defScope s_law_word) := ⟨rfl, rfl, rfl, by decide +kernel, rfl, by decide +kernel, by decide +kernel⟩
abbrev s_law_database : Stmt := top 25
theorem sc_law_database : FnScope N_law_database ["source", "shapes", "most"] (defScope s_law_database) := ⟨rfl, rfl, rfl, by decide +kernel, rfl, by decide +kernel, by decide +kernel⟩
abbrev s_law_shapes : Stmt := top 21
theorem sc_law_shapes : FnScope N_law_shapes ["source"] (defScope s_law_shapes) := ⟨rfl, rfl, rfl, by decide +kernel, rfl, by decide +kernel, by decide +kernel⟩
abbrev s_law_source : Stmt := top 16
theorem sc_law_source : FnScope N_law_source ["script"] (defScope s_law_source) := ⟨rfl, rfl, rfl, by decide +kernel, rfl, by decide +kernel, by decide +kernel⟩
abbrev s_law : Stmt := top 34
theorem sc_law : FnScope N_law ["script"] (defScope s_law) := ⟨rfl, rfl, rfl, by decide +kernel, rfl, by decide +kernel, by decide +kernel⟩
/-- what the layout of the heap says -/
structure Gs (K : Frag) (mg : Str → Option Value) where
  fd_Tables__eq : FuncData
  fd_InvalidTables__init : FuncData
  fd_is_integer : FuncData
  fd_is_name : FuncData
  fd_is_row : FuncData
  fd_tables_error : FuncData
  fd_Tables__init : FuncData
  fd_Tables__contains : FuncData
  fd_Tables__len : FuncData
  fd_Tables_names : FuncData
  fd_Tables_rows : FuncData
  fd_law_strange : FuncData
  fd_law_parts_hold : FuncData
  fd_law_is_value : FuncData
  fd_law_is_word : FuncData
  fd_law_is_row : FuncData
  fd_law_expected : FuncData
  fd_law_raised : FuncData
  fd_law_draw : FuncData
  fd_law_pick : FuncData
  fd_law_changed : FuncData
  fd_law_shuffle : FuncData
  fd_law_word : FuncData
  fd_law_database : FuncData
  fd_law_shapes : FuncData
  fd_law_source : FuncData
  fd_law : FuncData
  F_Tables__eq : FunD K "__eq__" "Tables.__eq__" (defArgs s_Tables__eq) (defBody s_Tables__eq) (defScope s_Tables__eq) [] [] (fAd K ("Tables", some "__eq__")) fd_Tables__eq
  F_InvalidTables__init : FunD K "__init__" "InvalidTables.__init__" (defArgs s_InvalidTables__init) (defBody s_InvalidTables__init) (defScope s_InvalidTables__init) [] [] (fAd K ("InvalidTables", some "__init__")) fd_InvalidTables__init
  F_is_integer : FunD K "is_integer" "is_integer" (defArgs s_is_integer) (defBody s_is_integer) (defScope s_is_integer) [] [] (fAd K ("is_integer", none)) fd_is_integer
  F_is_name : FunD K "is_name" "is_name" (defArgs s_is_name) (defBody s_is_name) (defScope s_is_name) [] [] (fAd K ("is_name", none)) fd_is_name
  F_is_row : FunD K "is_row" "is_row" (defArgs s_is_row) (defBody s_is_row) (defScope s_is_row) [] [] (fAd K ("is_row", none)) fd_is_row
  F_tables_error : FunD K "tables_error" "tables_error" (defArgs s_tables_error) (defBody s_tables_error) (defScope s_tables_error) [] [] (fAd K ("tables_error", none)) fd_tables_error
  F_Tables__init : FunD K "__init__" "Tables.__init__" (defArgs s_Tables__init) (defBody s_Tables__init) (defScope s_Tables__init) [] [] (fAd K ("Tables", some "__init__")) fd_Tables__init
  F_Tables__contains : FunD K "__contains__" "Tables.__contains__" (defArgs s_Tables__contains) (defBody s_Tables__contains) (defScope s_Tables__contains) [] [] (fAd K ("Tables", some "__contains__")) fd_Tables__contains
  F_Tables__len : FunD K "__len__" "Tables.__len__" (defArgs s_Tables__len) (defBody s_Tables__len) (defScope s_Tables__len) [] [] (fAd K ("Tables", some "__len__")) fd_Tables__len
  F_Tables_names : FunD K "names" "Tables.names" (defArgs s_Tables_names) (defBody s_Tables_names) (defScope s_Tables_names) [] [] (pAd K ("Tables", some "names")) fd_Tables_names
  F_Tables_rows : FunD K "rows" "Tables.rows" (defArgs s_Tables_rows) (defBody s_Tables_rows) (defScope s_Tables_rows) [] [] (pAd K ("Tables", some "rows")) fd_Tables_rows
  F_law_strange : FunD K "_law_strange" "_law_strange" (defArgs s_law_strange) (defBody s_law_strange) (defScope s_law_strange) [] [] (fAd K ("_law_strange", none)) fd_law_strange
  F_law_parts_hold : FunD K "_law_parts_hold" "_law_parts_hold" (defArgs s_law_parts_hold) (defBody s_law_parts_hold) (defScope s_law_parts_hold) [] [] (fAd K ("_law_parts_hold", none)) fd_law_parts_hold
  F_law_is_value : FunD K "_law_is_value" "_law_is_value" (defArgs s_law_is_value) (defBody s_law_is_value) (defScope s_law_is_value) [] [] (fAd K ("_law_is_value", none)) fd_law_is_value
  F_law_is_word : FunD K "_law_is_word" "_law_is_word" (defArgs s_law_is_word) (defBody s_law_is_word) (defScope s_law_is_word) [] [] (fAd K ("_law_is_word", none)) fd_law_is_word
  F_law_is_row : FunD K "_law_is_row" "_law_is_row" (defArgs s_law_is_row) (defBody s_law_is_row) (defScope s_law_is_row) [] [] (fAd K ("_law_is_row", none)) fd_law_is_row
  F_law_expected : FunD K "_law_expected" "_law_expected" (defArgs s_law_expected) (defBody s_law_expected) (defScope s_law_expected) [] [] (fAd K ("_law_expected", none)) fd_law_expected
  F_law_raised : FunD K "_law_raised" "_law_raised" (defArgs s_law_raised) (defBody s_law_raised) (defScope s_law_raised) [] [] (fAd K ("_law_raised", none)) fd_law_raised
  F_law_draw : FunD K "_law_draw" "_law_draw" (defArgs s_law_draw) (defBody s_law_draw) (defScope s_law_draw) [] [] (fAd K ("_law_draw", none)) fd_law_draw
  F_law_pick : FunD K "_law_pick" "_law_pick" (defArgs s_law_pick) (defBody s_law_pick) (defScope s_law_pick) [] [] (fAd K ("_law_pick", none)) fd_law_pick
  F_law_changed : FunD K "_law_changed" "_law_changed" (defArgs s_law_changed) (defBody s_law_changed) (defScope s_law_changed) [] [] (fAd K ("_law_changed", none)) fd_law_changed
  F_law_shuffle : FunD K "_law_shuffle" "_law_shuffle" (defArgs s_law_shuffle) (defBody s_law_shuffle) (defScope s_law_shuffle) [] [] (fAd K ("_law_shuffle", none)) fd_law_shuffle
  F_law_word : FunD K "_law_word" "_law_word" (defArgs s_law_word) (defBody s_law_word) (defScope s_law_word) [] [] (fAd K ("_law_word", none)) fd_law_word
  F_law_database : FunD K "_law_database" "_law_database" (defArgs s_law_database) (defBody s_law_database) (defScope s_law_database) [] [] (fAd K ("_law_database", none)) fd_law_database
  F_law_shapes : FunD K "_law_shapes" "_law_shapes" (defArgs s_law_shapes) (defBody s_law_shapes) (defScope s_law_shapes) [] [] (fAd K ("_law_shapes", none)) fd_law_shapes
  F_law_source : FunD K "_law_source" "_law_source" (defArgs s_law_source) (defBody s_law_source) (defScope s_law_source) [] [] (fAd K ("_law_source", none)) fd_law_source
  F_law : FunD K "law" "law" (defArgs s_law) (defBody s_law) (defScope s_law) [] [] (fAd K ("law", none)) fd_law
  b_range : mg "range" = none
  k_Tables : Cls K (ga K "Tables")
  n_Tables_held : findIn K (.ref (ga K "Tables")) "held" = some none
  m_Tables : mg "Tables" = some (.ref (ga K "Tables"))
  i_Tables : InsC K (ga K "Tables")
  x_InvalidTables : ExcC K (ga K "InvalidTables")
  x_MarkError : ExcC K (ga K "MarkError")
  b_isinstance : mg "isinstance" = none
  b_sorted : mg "sorted" = none
  b_tuple : mg "tuple" = none
  o_InvalidTables : OexC K (ga K "InvalidTables")
  h_InvalidTables : findIn K (.ref (ga K "InvalidTables")) "__init__" = some (some (.ref (fAd K ("InvalidTables", some "__init__"))))
  t_InvalidTables : typeIn K (.ref (fAd K ("InvalidTables", some "__init__"))) = some (.type "function")
  n_InvalidTables_reason : findIn K (.ref (ga K "InvalidTables")) "reason" = some none
  m_InvalidTables : mg "InvalidTables" = some (.ref (ga K "InvalidTables"))
  b_enumerate : mg "enumerate" = none
  b_any : mg "any" = none
  b_len : mg "len" = none
  c_MAX_VALUE : ∃ t, mg "MAX_VALUE" = some (.int (1000000000) t)
  b_bool : mg "bool" = none
  b_int : mg "int" = none
  m_is_integer : mg "is_integer" = some (.ref (ga K "is_integer"))
  b_all : mg "all" = none
  c_MAX_PLACES : ∃ t, mg "MAX_PLACES" = some (.int (3) t)
  c_LETTERS : ∃ t, mg "LETTERS" = some (.str "abcdefghijklmnopqrstuvwxyz" t)
  c_MAX_NAME : ∃ t, mg "MAX_NAME" = some (.int (8) t)
  b_str : mg "str" = none
  m_is_name : mg "is_name" = some (.ref (ga K "is_name"))
  m_is_row : mg "is_row" = some (.ref (ga K "is_row"))
  b_list : mg "list" = none
  cc_Tables_MOST_ROWS : ClX.CRead K (ga K "Tables") (.type "type") ∧ ∃ u, ClX.CVal K (ga K "Tables") (.type "type") "MOST_ROWS" (.int 6) u
  m_tables_error : mg "tables_error" = some (.ref (ga K "tables_error"))
  mk_Tables : Mk K (ga K "Tables") (ma K (ga K "Tables") "__init__")
  m_law_strange : mg "_law_strange" = some (.ref (ga K "_law_strange"))
  m_law_parts_hold : mg "_law_parts_hold" = some (.ref (ga K "_law_parts_hold"))
  b_abs : mg "abs" = none
  m_law_is_value : mg "_law_is_value" = some (.ref (ga K "_law_is_value"))
  m_law_is_word : mg "_law_is_word" = some (.ref (ga K "_law_is_word"))
  m_law_is_row : mg "_law_is_row" = some (.ref (ga K "_law_is_row"))
  m_law_expected : mg "_law_expected" = some (.ref (ga K "_law_expected"))
  b_repr : mg "repr" = none
  b_ValueError : mg "ValueError" = none
  xf_InvalidTables : XfC K (ga K "InvalidTables")
  m_MarkError : mg "MarkError" = some (.ref (ga K "MarkError"))
  m_law_raised : mg "_law_raised" = some (.ref (ga K "_law_raised"))
  m_law_draw : mg "_law_draw" = some (.ref (ga K "_law_draw"))
  m_law_pick : mg "_law_pick" = some (.ref (ga K "_law_pick"))
  m_law_changed : mg "_law_changed" = some (.ref (ga K "_law_changed"))
  m_law_word : mg "_law_word" = some (.ref (ga K "_law_word"))
  m_law_shuffle : mg "_law_shuffle" = some (.ref (ga K "_law_shuffle"))
  m_law_database : mg "_law_database" = some (.ref (ga K "_law_database"))
  m_law_shapes : mg "_law_shapes" = some (.ref (ga K "_law_shapes"))
  m_law_source : mg "_law_source" = some (.ref (ga K "_law_source"))
  v_MarkError : ClX.CRead K (ga K "MarkError") (.type "type") ∧ findCls K (.ref (ga K "MarkError")) (.type "type") "__init__" = some (.val (.builtin "ValueError.__init__"))
  m_law : mg "law" = some (.ref (ga K "law"))
  of_Tables_eq : findIn K (.ref (ga K "Tables")) "__eq__" = some (some (.ref (fAd K ("Tables", some "__eq__")))) ∧ isFn K (.ref (fAd K ("Tables", some "__eq__"))) = true
  nf_Tables : (∀ T ∈ seven, notFirst K (ga K "Tables") (.type T) = true) ∧ ∀ D ∈ (["Tables"] : List Str), notFirst K (ga K "Tables") (.ref (ga K D)) = true
  ne_Tables : findIn K (.ref (ga K "Tables")) "__ne__" = some (some (.builtin "object.__ne__")) ∧ mroIn K (ga K "Tables") (.type "object") = some true
  of_Tables_contains : findIn K (.ref (ga K "Tables")) "__contains__" = some (some (.ref (fAd K ("Tables", some "__contains__")))) ∧ isFn K (.ref (fAd K ("Tables", some "__contains__"))) = true
  of_Tables_len : findIn K (.ref (ga K "Tables")) "__len__" = some (some (.ref (fAd K ("Tables", some "__len__")))) ∧ isFn K (.ref (fAd K ("Tables", some "__len__"))) = true
  pr_Tables_names : PropOf K (ga K "Tables") "names" (ma K (ga K "Tables") "names") (pAd K ("Tables", some "names"))
  pr_Tables_rows : PropOf K (ga K "Tables") "rows" (ma K (ga K "Tables") "rows") (pAd K ("Tables", some "rows"))
variable {P : Program} {w : World} {K : Frag} {mg : Str → Option Value} {base : Heap}
theorem all1 {p : Str → Prop} {c0 : Str} (h0 : p c0) : ∀ C ∈ [c0], p C := by
  intro C h
  simp only [List.mem_cons, List.not_mem_nil, or_false] at h
  rcases h with rfl <;> assumption
theorem all2 {p : Str → Prop} {c0 c1 : Str} (h0 : p c0) (h1 : p c1) : ∀ C ∈ [c0, c1], p C := by
  intro C h
  simp only [List.mem_cons, List.not_mem_nil, or_false] at h
  rcases h with rfl | rfl <;> assumption
theorem all3 {p : Str → Prop} {c0 c1 c2 : Str} (h0 : p c0) (h1 : p c1) (h2 : p c2) : ∀ C ∈ [c0, c1, c2], p C := by
  intro C h
  simp only [List.mem_cons, List.not_mem_nil, or_false] at h
  rcases h with rfl | rfl | rfl <;> assumption
theorem all4 {p : Str → Prop} {c0 c1 c2 c3 : Str} (h0 : p c0) (h1 : p c1) (h2 : p c2) (h3 : p c3) : ∀ C ∈ [c0, c1, c2, c3], p C := by
  intro C h
  simp only [List.mem_cons, List.not_mem_nil, or_false] at h
  rcases h with rfl | rfl | rfl | rfl <;> assumption
theorem all5 {p : Str → Prop} {c0 c1 c2 c3 c4 : Str} (h0 : p c0) (h1 : p c1) (h2 : p c2) (h3 : p c3) (h4 : p c4) : ∀ C ∈ [c0, c1, c2, c3, c4], p C := by
  intro C h
  simp only [List.mem_cons, List.not_mem_nil, or_false] at h
  rcases h with rfl | rfl | rfl | rfl | rfl <;> assumption
theorem all6 {p : Str → Prop} {c0 c1 c2 c3 c4 c5 : Str} (h0 : p c0) (h1 : p c1) (h2 : p c2) (h3 : p c3) (h4 : p c4) (h5 : p c5) : ∀ C ∈ [c0, c1, c2, c3, c4, c5], p C := by
  intro C h
  simp only [List.mem_cons, List.not_mem_nil, or_false] at h
  rcases h with rfl | rfl | rfl | rfl | rfl | rfl <;> assumption
theorem b_Tables__eq (G : Gs K mg) : Binds K G.fd_Tables__eq ["self", "other"] [] := G.F_Tables__eq.bindsN fun _ _ _ _ _ _ us hl => match us, hl with | [_, _], _ => rfl
theorem ok_Tables__eq (G : Gs K mg) : FnG P w K mg base 1 (fAd K ("Tables", some "__eq__")) G.fd_Tables__eq ["self", "other"] (g_Tables__eq K) := okG (k := 0) G.F_Tables__eq sc_Tables__eq fun cdv A outer s H E hr hg tk po => by
  have hu := hr.units
  have hu1 : (A.deeper (envOfC "Tables.__eq__" (defScope s_Tables__eq) s.heap.objs.size (fAd K ("Tables", some "__eq__")) cdv)).units + 1 < cLine := by omega
  exact (pdss_one (pds_ret (pd_and (pd_callB (cr_isi (all1 (G.i_Tables)) (all2 (G.x_InvalidTables) (G.x_MarkError))) rfl G.b_isinstance (by decide +kernel) (pda_cons (pd_var 1) (pda_cons (pd_gcls rfl G.m_Tables) pda_nil))) (pd_one (pd_cmp (op_eq' hu) (pd_fld (all1 (⟨G.k_Tables, G.n_Tables_held⟩)) (by simp) (pd_var 0)) (pd_fld (all1 (⟨G.k_Tables, G.n_Tables_held⟩)) (by simp) (pd_var 1)) (nomark _))))))
theorem ow_eq_f {k : Nat} (G : Gs K mg) (h : 1 ≤ k) : ∀ p ∈ ([("Tables", g_Tables__eq K)] : GT), OwnF P w K mg base k p.1 "__eq__" 2 p.2 := by
  intro p h
  simp only [List.mem_cons, List.not_mem_nil, or_false] at h
  rcases h with rfl
  · exact ⟨_, _, _, G.of_Tables_eq.1, G.of_Tables_eq.2, (ok_Tables__eq G).mono (Nat.le_trans (by decide) h), b_Tables__eq G, rfl⟩
theorem ow_eq {k : Nat} (G : Gs K mg) (h : 1 ≤ k) : OwnC P w K mg base k "__eq__" 2 ["Tables"] ([("Tables", g_Tables__eq K)] : GT) := ⟨ow_eq_f G h, (all1 (G.i_Tables)), by
  intro p h
  simp only [List.mem_cons, List.not_mem_nil, or_false] at h
  rcases h with rfl
  · exact G.nf_Tables.1, by
  intro p h
  simp only [List.mem_cons, List.not_mem_nil, or_false] at h
  rcases h with rfl
  · exact G.nf_Tables.2⟩
theorem ow_ne (G : Gs K mg) : NeC K ([("Tables", g_Tables__eq K)] : GT) := by
  intro p h
  simp only [List.mem_cons, List.not_mem_nil, or_false] at h
  rcases h with rfl
  · exact G.ne_Tables
theorem b_InvalidTables__init (G : Gs K mg) : Binds K G.fd_InvalidTables__init ["self", "reason"] [] := G.F_InvalidTables__init.bindsN fun _ _ _ _ _ _ us hl => match us, hl with | [_, _], _ => rfl
theorem ok_InvalidTables__init (G : Gs K mg) : FnOk P w K mg base (CX P w) 1 (fAd K ("InvalidTables", some "__init__")) G.fd_InvalidTables__init ["self", "reason"] (spXI K (ga K "InvalidTables") "reason") := okXI (m := "invalid tables") G.F_InvalidTables__init sc_InvalidTables__init fun cdv A outer s H E hr => pss_cons (ps_expr (pe_cveinit rfl G.m_MarkError (by decide) G.v_MarkError.1 G.v_MarkError.2 (pa_cons (pv 0) (pa_cons pe_str pa_nil)))) (pss_one (ps_ost (pv 0) (pv 1)))
theorem b_is_integer (G : Gs K mg) : Binds K G.fd_is_integer ["value"] [] := G.F_is_integer.bindsN fun _ _ _ _ _ _ us hl => match us, hl with | [_], _ => rfl
theorem ok_is_integer (G : Gs K mg) : FnG P w K mg base 1 (fAd K ("is_integer", none)) G.fd_is_integer ["value"] (g_is_integer K) := okG (k := 0) G.F_is_integer sc_is_integer fun cdv A outer s H E hr hg tk po => by
  have hu := hr.units
  have hu1 : (A.deeper (envOfC "is_integer" (defScope s_is_integer) s.heap.objs.size (fAd K ("is_integer", none)) cdv)).units + 1 < cLine := by omega
  exact (pdss_one (pds_ret (pd_and (pd_callB (cr_isi (all1 (G.i_Tables)) (all2 (G.x_InvalidTables) (G.x_MarkError))) rfl G.b_isinstance (by decide +kernel) (pda_cons (pd_var 0) (pda_cons (pd_bty rfl G.b_int (by decide +kernel)) pda_nil))) (pd_one (pd_not (pd_callB (cr_isi (all1 (G.i_Tables)) (all2 (G.x_InvalidTables) (G.x_MarkError))) rfl G.b_isinstance (by decide +kernel) (pda_cons (pd_var 0) (pda_cons (pd_bty rfl G.b_bool (by decide +kernel)) pda_nil))))))))
theorem b_is_name (G : Gs K mg) : Binds K G.fd_is_name ["value"] [] := G.F_is_name.bindsN fun _ _ _ _ _ _ us hl => match us, hl with | [_], _ => rfl
theorem ok_is_name (G : Gs K mg) : FnG P w K mg base 1 (fAd K ("is_name", none)) G.fd_is_name ["value"] (g_is_name K) := okG (k := 0) G.F_is_name sc_is_name fun cdv A outer s H E hr hg tk po => by
  have hu := hr.units
  have hu1 : (A.deeper (envOfC "is_name" (defScope s_is_name) s.heap.objs.size (fAd K ("is_name", none)) cdv)).units + 1 < cLine := by omega
  exact (pdss_one (pds_ret (pd_and (pd_callB (cr_isi (all1 (G.i_Tables)) (all2 (G.x_InvalidTables) (G.x_MarkError))) rfl G.b_isinstance (by decide +kernel) (pda_cons (pd_var 0) (pda_cons (pd_bty rfl G.b_str (by decide +kernel)) pda_nil))) (pd_and (pd_chain op_le' op_le' pd_int (pd_callB cr_len rfl G.b_len (by decide +kernel) (pda_cons (pd_var 0) pda_nil)) (pd_gint rfl G.c_MAX_NAME)) (pd_one (pd_callB (cr_all rfl) rfl G.b_all (by decide +kernel) (pda_cons (pd_lc rfl sc_is_name.nd (pdi_seq (pd_var 0)) (own := [("letter", 1)]) (blkOk_by (by rfl)) (by decide) (fun _ _ _ _ _ => (pp_name sc_is_name.nd rfl (by first | exact Or.inl rfl | exact Or.inr rfl))) (fun _ _ _ _ _ => pdts_nil) (fun _ _ _ _ _ => (pd_cmp (op_in' hu) (pd_var 1) (pd_gstr rfl G.c_LETTERS) (by with_unfolding_all rfl)))) pda_nil)))))))
theorem b_is_row (G : Gs K mg) : Binds K G.fd_is_row ["value"] [] := G.F_is_row.bindsN fun _ _ _ _ _ _ us hl => match us, hl with | [_], _ => rfl
theorem ok_is_row (G : Gs K mg) : FnG P w K mg base 2 (fAd K ("is_row", none)) G.fd_is_row ["value"] (g_is_row K) := okG (k := 1) G.F_is_row sc_is_row fun cdv A outer s H E hr hg tk po => by
  have hu := hr.units
  have hu1 : (A.deeper (envOfC "is_row" (defScope s_is_row) s.heap.objs.size (fAd K ("is_row", none)) cdv)).units + 1 < cLine := by omega
  exact (pdss_cons (pds_if (pdb_w (pdw_or (pdb_not (pd_truth (pd_callB (cr_isi (all1 (G.i_Tables)) (all2 (G.x_InvalidTables) (G.x_MarkError))) rfl G.b_isinstance (by decide +kernel) (pda_cons (pd_var 0) (pda_cons (pd_bty rfl G.b_tuple (by decide +kernel)) pda_nil))))) (pdw_or (pd_cmpB (op_ne' hu) (pd_callB cr_len rfl G.b_len (by decide +kernel) (pda_cons (pd_var 0) pda_nil)) pd_int (nomark _)) (pdw_or (pdb_not (pd_truth (pd_callT ((ok_is_name G).mono (by decide)) (b_is_name G) G.F_is_name.kp G.m_is_name hr hg tk rfl (pda_cons (pd_ix (pd_var 0) pd_int) pda_nil) (alen_cons alen_nil) rfl))) (pdw_or1 (pdb_not (pd_truth (pd_callT ((ok_is_name G).mono (by decide)) (b_is_name G) G.F_is_name.kp G.m_is_name hr hg tk rfl (pda_cons (pd_ix (pd_var 0) pd_int) pda_nil) (alen_cons alen_nil) rfl)))))))) (pdss_one (pds_ret pd_bl)) pdss_nil)
    (pdss_cons (pds_set (i := 1) sc_is_row.nd rfl (by first | exact Or.inl rfl | exact Or.inr rfl) (pd_ix (pd_var 0) pd_int))
    (pdss_cons (pds_if (pdb_w (pdw_or (pdb_not (pd_truth (pd_callB (cr_isi (all1 (G.i_Tables)) (all2 (G.x_InvalidTables) (G.x_MarkError))) rfl G.b_isinstance (by decide +kernel) (pda_cons (pd_var 1) (pda_cons (pd_bty rfl G.b_tuple (by decide +kernel)) pda_nil))))) (pdw_or1 (pdb_not (pd_chainB op_le' op_le' pd_int (pd_callB cr_len rfl G.b_len (by decide +kernel) (pda_cons (pd_var 1) pda_nil)) (pd_gint rfl G.c_MAX_PLACES)))))) (pdss_one (pds_ret pd_bl)) pdss_nil)
    (pdss_one (pds_ret (pd_callB (cr_all rfl) rfl G.b_all (by decide +kernel) (pda_cons (pd_lc rfl sc_is_row.nd (pdi_seq (pd_var 1)) (own := [("one", 2)]) (blkOk_by (by rfl)) (by decide) (fun _ _ _ _ _ => (pp_name sc_is_row.nd rfl (by first | exact Or.inl rfl | exact Or.inr rfl))) (fun _ _ _ _ _ => pdts_nil) (fun _ _ _ _ _ => (pd_and (pd_callT ((ok_is_integer G).mono (by decide)) (b_is_integer G) G.F_is_integer.kp G.m_is_integer hr hg takes_W0 rfl (pda_cons (pd_var 2) pda_nil) (alen_cons alen_nil) rfl) (pd_one (pd_chain op_le' op_le' (pd_neg (pd_gint rfl G.c_MAX_VALUE)) (pd_var 2) (pd_gint rfl G.c_MAX_VALUE)))))) pda_nil)))))))
theorem b_tables_error (G : Gs K mg) : Binds K G.fd_tables_error ["rows", "most"] [] := G.F_tables_error.bindsN fun _ _ _ _ _ _ us hl => match us, hl with | [_, _], _ => rfl
theorem ok_tables_error (G : Gs K mg) : FnG P w K mg base 3 (fAd K ("tables_error", none)) G.fd_tables_error ["rows", "most"] (g_tables_error K) := okG (k := 2) G.F_tables_error sc_tables_error fun cdv A outer s H E hr hg tk po => by
  have hu := hr.units
  have hu1 : (A.deeper (envOfC "tables_error" (defScope s_tables_error) s.heap.objs.size (fAd K ("tables_error", none)) cdv)).units + 1 < cLine := by omega
  exact (pdss_cons (pds_if (pdb_w (pdw_or (pdb_not (pd_truth (pd_callB (cr_isi (all1 (G.i_Tables)) (all2 (G.x_InvalidTables) (G.x_MarkError))) rfl G.b_isinstance (by decide +kernel) (pda_cons (pd_var 0) (pda_cons (pd_tup (pda_cons (pd_bty rfl G.b_list (by decide +kernel)) (pda_cons (pd_bty rfl G.b_tuple (by decide +kernel)) pda_nil))) pda_nil))))) (pdw_or1 (pd_cmpB op_gt' (pd_callB cr_len rfl G.b_len (by decide +kernel) (pda_cons (pd_var 0) pda_nil)) (pd_var 1) (nomark _))))) (pdss_one (pds_ret (pd_tup (pda_cons pd_str pda_nil)))) pdss_nil)
    (pdss_cons (pds_for po rfl (pdi_enum rfl G.b_enumerate (pda_cons (pd_var 0) pda_nil)) (pdg_tup rfl (pdgs_cons (pdg_name (i := 2) sc_tables_error.nd rfl (by first | exact Or.inl rfl | exact Or.inr rfl)) (pdgs_cons (pdg_name (i := 3) sc_tables_error.nd rfl (by first | exact Or.inl rfl | exact Or.inr rfl)) pdgs_nil))) (pdss_cons (pds_if (pdb_not (pd_truth (pd_callT ((ok_is_row G).mono (by decide)) (b_is_row G) G.F_is_row.kp G.m_is_row hr hg tk rfl (pda_cons (pd_var 3) pda_nil) (alen_cons alen_nil) rfl))) (pdss_one (pds_ret (pd_tup (pda_cons pd_str (pda_cons (pd_var 2) pda_nil))))) pdss_nil)
    (pdss_cons (pds_asg (pd_var 3) (pdg_tup rfl (pdgs_cons (pdg_name (i := 4) sc_tables_error.nd rfl (by first | exact Or.inl rfl | exact Or.inr rfl)) (pdgs_cons (pdg_name (i := 5) sc_tables_error.nd rfl (by first | exact Or.inl rfl | exact Or.inr rfl)) (pdgs_cons (pdg_name (i := 6) sc_tables_error.nd rfl (by first | exact Or.inl rfl | exact Or.inr rfl)) pdgs_nil)))))
    (pdss_cons (pds_if (pd_truth (pd_callB (cr_any rfl) rfl G.b_any (by decide +kernel) (pda_cons (pd_lc rfl sc_tables_error.nd (pdi_seq (pd_cut (pd_var 0) pdo_none (pdo_some (pd_var 2)))) (own := [("other", 7)]) (blkOk_by (by rfl)) (by decide) (fun _ _ _ _ _ => (pp_name sc_tables_error.nd rfl (by first | exact Or.inl rfl | exact Or.inr rfl))) (fun _ _ _ _ _ => pdts_nil) (fun _ _ _ _ _ => (pd_cmp (op_eq' hu) (pd_var 4) (pd_ix (pd_var 7) pd_int) (nomark _)))) pda_nil))) (pdss_one (pds_ret (pd_tup (pda_cons pd_str (pda_cons (pd_var 2) pda_nil))))) pdss_nil)
    (pdss_cons (pds_if (pd_truth (pd_callB (cr_any rfl) rfl G.b_any (by decide +kernel) (pda_cons (pd_lc rfl sc_tables_error.nd (pdi_seq (pd_cut (pd_var 0) pdo_none (pdo_some (pd_var 2)))) (own := [("other", 7)]) (blkOk_by (by rfl)) (by decide) (fun _ _ _ _ _ => (pp_name sc_tables_error.nd rfl (by first | exact Or.inl rfl | exact Or.inr rfl))) (fun _ _ _ _ _ => pdts_nil) (fun _ _ _ _ _ => (pd_and (pd_cmp (op_eq' hu) (pd_var 5) (pd_ix (pd_var 7) pd_int) (nomark _)) (pd_one (pd_cmp (op_ne' hu) (pd_callB cr_len rfl G.b_len (by decide +kernel) (pda_cons (pd_var 6) pda_nil)) (pd_callB cr_len rfl G.b_len (by decide +kernel) (pda_cons (pd_ix (pd_var 7) pd_int) pda_nil)) (nomark _)))))) pda_nil))) (pdss_one (pds_ret (pd_tup (pda_cons pd_str (pda_cons (pd_var 2) pda_nil))))) pdss_nil)
    (pdss_one (pds_if (pd_truth (pd_callB (cr_any rfl) rfl G.b_any (by decide +kernel) (pda_cons (pd_lc rfl sc_tables_error.nd (pdi_seq (pd_cut (pd_var 0) pdo_none (pdo_some (pd_var 2)))) (own := [("other", 7)]) (blkOk_by (by rfl)) (by decide) (fun _ _ _ _ _ => (pp_name sc_tables_error.nd rfl (by first | exact Or.inl rfl | exact Or.inr rfl))) (fun _ _ _ _ _ => pdts_nil) (fun _ _ _ _ _ => (pd_cmp (op_eq' hu) (pd_cut (pd_var 3) (pdo_some pd_int) pdo_none) (pd_cut (pd_var 7) (pdo_some pd_int) pdo_none) (nomark _)))) pda_nil))) (pdss_one (pds_ret (pd_tup (pda_cons pd_str (pda_cons (pd_var 2) pda_nil))))) pdss_nil)))))))
    (pdss_one (pds_ret pd_non))))
theorem b_Tables__init (G : Gs K mg) : Binds K G.fd_Tables__init ["self", "rows"] [] := G.F_Tables__init.bindsN fun _ _ _ _ _ _ us hl => match us, hl with | [_, _], _ => rfl
theorem ok_Tables__init (G : Gs K mg) : FnG P w K mg base 4 (fAd K ("Tables", some "__init__")) G.fd_Tables__init ["self", "rows"] (g_Tables__init K) := okG (k := 3) G.F_Tables__init sc_Tables__init fun cdv A outer s H E hr hg tk po => by
  have hu := hr.units
  have hu1 : (A.deeper (envOfC "Tables.__init__" (defScope s_Tables__init) s.heap.objs.size (fAd K ("Tables", some "__init__")) cdv)).units + 1 < cLine := by omega
  exact (pdss_cons (pds_set (i := 2) sc_Tables__init.nd rfl (by first | exact Or.inl rfl | exact Or.inr rfl) (pd_callT ((ok_tables_error G).mono (by decide)) (b_tables_error G) G.F_tables_error.kp G.m_tables_error hr hg tk rfl (pda_cons (pd_var 1) (pda_cons (pd_cconI rfl G.m_Tables G.cc_Tables_MOST_ROWS) pda_nil)) (alen_cons (alen_cons alen_nil)) rfl))
    (pdss_cons (pds_if (pd_cmpB op_isNot' (pd_var 2) pd_non (nomark _)) (pdss_one (pds_raise rfl tk (pdm_x (dl := 0) G.o_InvalidTables G.n_InvalidTables_reason G.h_InvalidTables G.t_InvalidTables ((ok_InvalidTables__init G).mono (by decide)) hr (b_InvalidTables__init G) tk rfl G.m_InvalidTables (pda_cons (pd_var 2) pda_nil)))) pdss_nil)
    (pdss_one (pds_fld (all1 (⟨G.k_Tables, G.n_Tables_held⟩)) (pd_var 0) (pd_callTy cr_tuple rfl G.b_tuple (by decide +kernel) (pda_cons (pd_callB (cr_sort hu) rfl G.b_sorted (by decide +kernel) (pda_cons (pd_var 1) pda_nil)) pda_nil))))))
theorem b_Tables__contains (G : Gs K mg) : Binds K G.fd_Tables__contains ["self", "value"] [] := G.F_Tables__contains.bindsN fun _ _ _ _ _ _ us hl => match us, hl with | [_, _], _ => rfl
theorem ok_Tables__contains (G : Gs K mg) : FnG P w K mg base 3 (fAd K ("Tables", some "__contains__")) G.fd_Tables__contains ["self", "value"] (g_Tables__contains K) := okG (k := 2) G.F_Tables__contains sc_Tables__contains fun cdv A outer s H E hr hg tk po => by
  have hu := hr.units
  have hu1 : (A.deeper (envOfC "Tables.__contains__" (defScope s_Tables__contains) s.heap.objs.size (fAd K ("Tables", some "__contains__")) cdv)).units + 1 < cLine := by omega
  exact (pdss_one (pds_ret (pd_and (pd_callT ((ok_is_row G).mono (by decide)) (b_is_row G) G.F_is_row.kp G.m_is_row hr hg tk rfl (pda_cons (pd_var 1) pda_nil) (alen_cons alen_nil) rfl) (pd_one (pd_cmp (op_in' hu) (pd_var 1) (pd_fld (all1 (⟨G.k_Tables, G.n_Tables_held⟩)) (by simp) (pd_var 0)) (by with_unfolding_all rfl))))))
theorem ow_in {k : Nat} (G : Gs K mg) (h : 3 ≤ k) : ∀ p ∈ ([("Tables", g_Tables__contains K)] : GT), OwnF P w K mg base k p.1 "__contains__" 2 p.2 := by
  intro p h
  simp only [List.mem_cons, List.not_mem_nil, or_false] at h
  rcases h with rfl
  · exact ⟨_, _, _, G.of_Tables_contains.1, G.of_Tables_contains.2, (ok_Tables__contains G).mono (Nat.le_trans (by decide) h), b_Tables__contains G, rfl⟩
theorem b_Tables__len (G : Gs K mg) : Binds K G.fd_Tables__len ["self"] [] := G.F_Tables__len.bindsN fun _ _ _ _ _ _ us hl => match us, hl with | [_], _ => rfl
theorem ok_Tables__len (G : Gs K mg) : FnG P w K mg base 1 (fAd K ("Tables", some "__len__")) G.fd_Tables__len ["self"] (g_Tables__len K) := okG (k := 0) G.F_Tables__len sc_Tables__len fun cdv A outer s H E hr hg tk po => by
  have hu := hr.units
  have hu1 : (A.deeper (envOfC "Tables.__len__" (defScope s_Tables__len) s.heap.objs.size (fAd K ("Tables", some "__len__")) cdv)).units + 1 < cLine := by omega
  exact (pdss_one (pds_ret (pd_callB cr_len rfl G.b_len (by decide +kernel) (pda_cons (pd_fld (all1 (⟨G.k_Tables, G.n_Tables_held⟩)) (by simp) (pd_var 0)) pda_nil))))
theorem ow_len {k : Nat} (G : Gs K mg) (h : 1 ≤ k) : ∀ p ∈ ([("Tables", g_Tables__len K)] : GT), OwnF P w K mg base k p.1 "__len__" 1 p.2 := by
  intro p h
  simp only [List.mem_cons, List.not_mem_nil, or_false] at h
  rcases h with rfl
  · exact ⟨_, _, _, G.of_Tables_len.1, G.of_Tables_len.2, (ok_Tables__len G).mono (Nat.le_trans (by decide) h), b_Tables__len G, rfl⟩
theorem b_Tables_names (G : Gs K mg) : Binds K G.fd_Tables_names ["self"] [] := G.F_Tables_names.bindsN fun _ _ _ _ _ _ us hl => match us, hl with | [_], _ => rfl
theorem ok_Tables_names (G : Gs K mg) : FnG P w K mg base 1 (pAd K ("Tables", some "names")) G.fd_Tables_names ["self"] (g_Tables_names K) := okG (k := 0) G.F_Tables_names sc_Tables_names fun cdv A outer s H E hr hg tk po => by
  have hu := hr.units
  have hu1 : (A.deeper (envOfC "Tables.names" (defScope s_Tables_names) s.heap.objs.size (pAd K ("Tables", some "names")) cdv)).units + 1 < cLine := by omega
  exact (pdss_one (pds_ret (pd_callTy cr_tuple rfl G.b_tuple (by decide +kernel) (pda_cons (pd_lc rfl sc_Tables_names.nd (pdi_seq (pd_fld (all1 (⟨G.k_Tables, G.n_Tables_held⟩)) (by simp) (pd_var 0))) (own := [("row", 1)]) (blkOk_by (by rfl)) (by decide) (fun _ _ _ _ _ => (pp_name sc_Tables_names.nd rfl (by first | exact Or.inl rfl | exact Or.inr rfl))) (fun _ _ _ _ _ => pdts_nil) (fun _ _ _ _ _ => (pd_ix (pd_var 1) pd_int))) pda_nil))))
theorem ow_p_names {k : Nat} (G : Gs K mg) (h : 1 ≤ k) : ∀ p ∈ ([("Tables", g_Tables_names K)] : GT), OwnP P w K mg base k p.1 "names" p.2 := by
  intro p h
  simp only [List.mem_cons, List.not_mem_nil, or_false] at h
  rcases h with rfl
  · exact ⟨G.k_Tables, _, _, _, _, G.pr_Tables_names, (ok_Tables_names G).mono (Nat.le_trans (by decide) h), b_Tables_names G, rfl⟩
theorem b_Tables_rows (G : Gs K mg) : Binds K G.fd_Tables_rows ["self"] [] := G.F_Tables_rows.bindsN fun _ _ _ _ _ _ us hl => match us, hl with | [_], _ => rfl
theorem ok_Tables_rows (G : Gs K mg) : FnG P w K mg base 1 (pAd K ("Tables", some "rows")) G.fd_Tables_rows ["self"] (g_Tables_rows K) := okG (k := 0) G.F_Tables_rows sc_Tables_rows fun cdv A outer s H E hr hg tk po => by
  have hu := hr.units
  have hu1 : (A.deeper (envOfC "Tables.rows" (defScope s_Tables_rows) s.heap.objs.size (pAd K ("Tables", some "rows")) cdv)).units + 1 < cLine := by omega
  exact (pdss_one (pds_ret (pd_fld (all1 (⟨G.k_Tables, G.n_Tables_held⟩)) (by simp) (pd_var 0))))
theorem ow_p_rows {k : Nat} (G : Gs K mg) (h : 1 ≤ k) : ∀ p ∈ ([("Tables", g_Tables_rows K)] : GT), OwnP P w K mg base k p.1 "rows" p.2 := by
  intro p h
  simp only [List.mem_cons, List.not_mem_nil, or_false] at h
  rcases h with rfl
  · exact ⟨G.k_Tables, _, _, _, _, G.pr_Tables_rows, (ok_Tables_rows G).mono (Nat.le_trans (by decide) h), b_Tables_rows G, rfl⟩
theorem b_law_strange (G : Gs K mg) : Binds K G.fd_law_strange ["rows"] [] := G.F_law_strange.bindsN fun _ _ _ _ _ _ us hl => match us, hl with | [_], _ => rfl
theorem ok_law_strange (G : Gs K mg) : FnG P w K mg base 1 (fAd K ("_law_strange", none)) G.fd_law_strange ["rows"] (g_law_strange K) := okG (k := 0) G.F_law_strange sc_law_strange fun cdv A outer s H E hr hg tk po => by
  have hu := hr.units
  have hu1 : (A.deeper (envOfC "_law_strange" (defScope s_law_strange) s.heap.objs.size (fAd K ("_law_strange", none)) cdv)).units + 1 < cLine := by omega
  exact (pdss_cons (pds_set (i := 1) sc_law_strange.nd rfl (by first | exact Or.inl rfl | exact Or.inr rfl) (pd_lst (pda_cons pd_non (pda_cons pd_int (pda_cons pd_str (pda_cons (pd_tup (pda_cons pd_str (pda_cons pd_str (pda_cons (pd_tup (pda_cons pd_int (pda_cons pd_int pda_nil))) pda_nil)))) (pda_cons (pd_lst (pda_cons pd_str pda_nil)) (pda_cons (pd_tup pda_nil) (pda_cons (pd_tup (pda_cons pd_str (pda_cons pd_str (pda_cons pd_int pda_nil)))) (pda_cons (pd_tup (pda_cons pd_str (pda_cons pd_str (pda_cons (pd_dct1 (k := .inl 1) (v := .int 2) pe_int pe_int fun _ _ => .int _) pda_nil)))) pda_nil))))))))))
    (pdss_cons (pds_for po rfl (pdi_seq (pd_var 0)) (pdg_tup rfl (pdgs_cons (pdg_name (i := 2) sc_law_strange.nd rfl (by first | exact Or.inl rfl | exact Or.inr rfl)) (pdgs_cons (pdg_name (i := 3) sc_law_strange.nd rfl (by first | exact Or.inl rfl | exact Or.inr rfl)) (pdgs_cons (pdg_name (i := 4) sc_law_strange.nd rfl (by first | exact Or.inl rfl | exact Or.inr rfl)) pdgs_nil)))) (pdss_cons (pds_set (i := 1) sc_law_strange.nd rfl (by first | exact Or.inl rfl | exact Or.inr rfl) (pd_op op_add' (pd_var 1) (pd_lst (pda_cons (pd_lst (pda_cons (pd_var 2) (pda_cons (pd_var 3) (pda_cons (pd_var 4) pda_nil)))) (pda_cons (pd_tup (pda_cons (pd_var 2) (pda_cons (pd_var 3) (pda_cons (pd_op op_add' (pd_tup (pda_cons (pd_cmp (op_eq' hu) (pd_ix (pd_var 4) pd_int) pd_int (nomark _)) pda_nil)) (pd_cut (pd_var 4) (pdo_some pd_int) pdo_none)) pda_nil)))) (pda_cons (pd_tup (pda_cons (pd_var 2) (pda_cons (pd_var 3) (pda_cons pd_non pda_nil)))) pda_nil))))))
    (pdss_cons (pds_set (i := 1) sc_law_strange.nd rfl (by first | exact Or.inl rfl | exact Or.inr rfl) (pd_op op_add' (pd_var 1) (pd_lst (pda_cons (pd_tup (pda_cons (pd_var 2) (pda_cons (pd_var 3) (pda_cons (pd_op op_add' (pd_cut (pd_var 4) pdo_none (pdo_some (pd_neg pd_int))) (pd_tup (pda_cons (pd_cmp (op_eq' hu) (pd_ix (pd_var 4) (pd_neg pd_int)) pd_int (nomark _)) pda_nil))) pda_nil)))) (pda_cons (pd_tup (pda_cons (pd_var 2) (pda_cons (pd_var 3) (pda_cons (pd_callTy cr_list rfl G.b_list (by decide +kernel) (pda_cons (pd_var 4) pda_nil)) pda_nil)))) pda_nil)))))
    (pdss_one (pds_set (i := 1) sc_law_strange.nd rfl (by first | exact Or.inl rfl | exact Or.inr rfl) (pd_op op_add' (pd_var 1) (pd_lst (pda_cons (pd_tup (pda_cons (pd_lst (pda_cons (pd_var 2) pda_nil)) (pda_cons (pd_var 3) (pda_cons (pd_var 4) pda_nil)))) pda_nil))))))))
    (pdss_one (pds_ret (pd_var 1)))))
theorem b_law_parts_hold (G : Gs K mg) : Binds K G.fd_law_parts_hold ["rows"] [] := G.F_law_parts_hold.bindsN fun _ _ _ _ _ _ us hl => match us, hl with | [_], _ => rfl
theorem ok_law_parts_hold (G : Gs K mg) : FnG P w K mg base 6 (fAd K ("_law_parts_hold", none)) G.fd_law_parts_hold ["rows"] (g_law_parts_hold K) := okG (k := 5) G.F_law_parts_hold sc_law_parts_hold fun cdv A outer s H E hr hg tk po => by
  have hu := hr.units
  have hu1 : (A.deeper (envOfC "_law_parts_hold" (defScope s_law_parts_hold) s.heap.objs.size (fAd K ("_law_parts_hold", none)) cdv)).units + 1 < cLine := by omega
  exact (pdss_cons (pds_set (i := 1) sc_law_parts_hold.nd rfl (by first | exact Or.inl rfl | exact Or.inr rfl) (pd_revM (pd_callTy cr_list rfl G.b_list (by decide +kernel) (pda_cons (pd_var 0) pda_nil))))
    (pdss_cons (pds_set (i := 2) sc_law_parts_hold.nd rfl (by first | exact Or.inl rfl | exact Or.inr rfl) (pd_makeT G.mk_Tables ((ok_Tables__init G).mono (by decide)) (b_Tables__init G) G.m_Tables hr hg tk rfl (pda_cons (pd_var 1) pda_nil) (alen_cons alen_nil) rfl))
    (pdss_cons (pds_expr (pd_meth PySem.F.plainAttrs_list PySem.F.slot_list_append rfl mr_append (pd_var 1) (pda_cons pd_non pda_nil)))
    (pdss_cons (pds_if (pdb_w (pdw_or (pd_cmpEB (op_neE hu hr hg (ow_eq G (by decide)) (ow_ne G)) (pd_prop hr hg (ow_p_rows G (by decide)) (pd_var 2)) (pd_callTy cr_tuple rfl G.b_tuple (by decide +kernel) (pda_cons (pd_callB (cr_sort hu) rfl G.b_sorted (by decide +kernel) (pda_cons (pd_var 0) pda_nil)) pda_nil)) (nomark _)) (pdw_or1 (pd_cmpEB (op_neE hu hr hg (ow_eq G (by decide)) (ow_ne G)) (pd_prop hr hg (ow_p_names G (by decide)) (pd_var 2)) (pd_callTy cr_tuple rfl G.b_tuple (by decide +kernel) (pda_cons (pd_callB (cr_sort hu) rfl G.b_sorted (by decide +kernel) (pda_cons (pd_lc rfl sc_law_parts_hold.nd (pdi_seq (pd_var 0)) (own := [("row", 9)]) (blkOk_by (by rfl)) (by decide) (fun _ _ _ _ _ => (pp_name sc_law_parts_hold.nd rfl (by first | exact Or.inl rfl | exact Or.inr rfl))) (fun _ _ _ _ _ => pdts_nil) (fun _ _ _ _ _ => (pd_ix (pd_var 9) pd_int))) pda_nil)) pda_nil)) (nomark _))))) (pdss_one (pds_ret pd_bl)) pdss_nil)
    (pdss_cons (pds_if (pdb_w (pdw_or (pd_cmpEB (op_neE hu hr hg (ow_eq G (by decide)) (ow_ne G)) (pd_callBE (cr_lenE hr hg (ow_len G (by decide))) rfl G.b_len (by decide +kernel) (pda_cons (pd_var 2) pda_nil)) (pd_callBE (cr_lenE hr hg (ow_len G (by decide))) rfl G.b_len (by decide +kernel) (pda_cons (pd_var 0) pda_nil)) (nomark _)) (pdw_or (pd_cmpEB (op_neE hu hr hg (ow_eq G (by decide)) (ow_ne G)) (pd_lc rfl sc_law_parts_hold.nd (pdi_seq (pd_var 0)) (own := [("row", 9)]) (blkOk_by (by rfl)) (by decide) (fun _ _ _ _ _ => (pp_name sc_law_parts_hold.nd rfl (by first | exact Or.inl rfl | exact Or.inr rfl))) (fun _ _ _ _ _ => (pdts_one (pd_cmpEB (op_notInE hu hr hg (ow_in G (by decide))) (pd_var 9) (pd_var 2) (by with_unfolding_all rfl)))) (fun _ _ _ _ _ => (pd_var 9))) (pd_lst pda_nil) (nomark _)) (pdw_or1 (pd_cmpEB (op_neE hu hr hg (ow_eq G (by decide)) (ow_ne G)) (pd_makeT G.mk_Tables ((ok_Tables__init G).mono (by decide)) (b_Tables__init G) G.m_Tables hr hg tk rfl (pda_cons (pd_callTy cr_tuple rfl G.b_tuple (by decide +kernel) (pda_cons (pd_var 0) pda_nil)) pda_nil) (alen_cons alen_nil) rfl) (pd_var 2) (nomark _)))))) (pdss_one (pds_ret pd_bl)) pdss_nil)
    (pdss_cons (pds_if (pd_cmpEB (op_neE hu hr hg (ow_eq G (by decide)) (ow_ne G)) (pd_lc rfl sc_law_parts_hold.nd (pdi_seq (pd_callT ((ok_law_strange G).mono (by decide)) (b_law_strange G) G.F_law_strange.kp G.m_law_strange hr hg tk rfl (pda_cons (pd_var 0) pda_nil) (alen_cons alen_nil) rfl)) (own := [("value", 11)]) (blkOk_by (by rfl)) (by decide) (fun _ _ _ _ _ => (pp_name sc_law_parts_hold.nd rfl (by first | exact Or.inl rfl | exact Or.inr rfl))) (fun _ _ _ _ _ => (pdts_one (pd_cmpEB (op_inE hu hr hg (ow_in G (by decide))) (pd_var 11) (pd_var 2) (by with_unfolding_all rfl)))) (fun _ _ _ _ _ => (pd_var 11))) (pd_lst pda_nil) (nomark _)) (pdss_one (pds_ret pd_bl)) pdss_nil)
    (pdss_cons (pds_for po rfl (pdi_seq (pd_lst (pda_cons (pd_prop hr hg (ow_p_rows G (by decide)) (pd_var 2)) (pda_cons (pd_callTy cr_list rfl G.b_list (by decide +kernel) (pda_cons (pd_prop hr hg (ow_p_rows G (by decide)) (pd_var 2)) pda_nil)) (pda_cons (pd_prop hr hg (ow_p_names G (by decide)) (pd_var 2)) (pda_cons (pd_tup pda_nil) (pda_cons pd_non (pda_cons pd_int pda_nil)))))))) (pdg_name (i := 3) sc_law_parts_hold.nd rfl (by first | exact Or.inl rfl | exact Or.inr rfl)) (pdss_one (pds_if (pdb_w (pdw_or (pd_cmpEB (op_eqE hu hr hg (ow_eq G (by decide))) (pd_var 2) (pd_var 3) (nomark _)) (pdw_or1 (pdb_not (pd_cmpEB (op_neE hu hr hg (ow_eq G (by decide)) (ow_ne G)) (pd_var 2) (pd_var 3) (nomark _)))))) (pdss_one (pds_ret pd_bl)) pdss_nil)))
    (pdss_cons (pds_if (pd_cmpEB (op_eqE hu hr hg (ow_eq G (by decide))) (pd_var 0) (pd_lst pda_nil) (nomark _)) (pdss_one (pds_ret pd_bl)) pdss_nil)
    (pdss_cons (pds_asg (pd_ix (pd_var 0) pd_int) (pdg_tup rfl (pdgs_cons (pdg_name (i := 4) sc_law_parts_hold.nd rfl (by first | exact Or.inl rfl | exact Or.inr rfl)) (pdgs_cons (pdg_name (i := 5) sc_law_parts_hold.nd rfl (by first | exact Or.inl rfl | exact Or.inr rfl)) (pdgs_cons (pdg_name (i := 6) sc_law_parts_hold.nd rfl (by first | exact Or.inl rfl | exact Or.inr rfl)) pdgs_nil)))))
    (pdss_cons (pds_set (i := 7) sc_law_parts_hold.nd rfl (by first | exact Or.inl rfl | exact Or.inr rfl) (pd_lst (pda_cons (pd_tup (pda_cons (pd_var 4) (pda_cons pd_str (pda_cons (pd_var 6) pda_nil)))) (pda_cons (pd_tup (pda_cons (pd_var 4) (pda_cons (pd_var 5) (pda_cons (pd_op op_mul' (pd_tup (pda_cons pd_int pda_nil)) (pd_callBE (cr_lenE hr hg (ow_len G (by decide))) rfl G.b_len (by decide +kernel) (pda_cons (pd_var 6) pda_nil))) pda_nil)))) pda_nil))))
    (pdss_cons (pds_set (i := 7) sc_law_parts_hold.nd rfl (by first | exact Or.inl rfl | exact Or.inr rfl) (pd_op op_add' (pd_var 7) (pd_lst (pda_cons (pd_tup (pda_cons (pd_var 4) (pda_cons (pd_var 5) (pda_cons (pd_cut (pd_op op_add' (pd_var 6) (pd_tup (pda_cons pd_int (pda_cons pd_int pda_nil)))) pdo_none (pdo_some pd_int)) pda_nil)))) (pda_cons (pd_tup (pda_cons pd_str (pda_cons (pd_var 5) (pda_cons (pd_var 6) pda_nil)))) pda_nil)))))
    (pdss_cons (pds_set (i := 8) sc_law_parts_hold.nd rfl (by first | exact Or.inl rfl | exact Or.inr rfl) (pd_op op_add' (pd_tup (pda_cons (pd_var 4) pda_nil)) (pd_cut (pd_ix (pd_var 0) (pd_neg pd_int)) (pdo_some pd_int) pdo_none)))
    (pdss_cons (pds_if (pdb_w (pdw_and (pd_cmpEB (op_neE hu hr hg (ow_eq G (by decide)) (ow_ne G)) (pd_var 8) (pd_ix (pd_var 0) pd_int) (nomark _)) (pdw_and1 (pd_cmpEB (op_inE hu hr hg (ow_in G (by decide))) (pd_var 8) (pd_var 2) (by with_unfolding_all rfl))))) (pdss_one (pds_ret pd_bl)) pdss_nil)
    (pdss_cons (pds_for po rfl (pdi_seq (pd_var 7)) (pdg_name (i := 9) sc_law_parts_hold.nd rfl (by first | exact Or.inl rfl | exact Or.inr rfl)) (pdss_one (pds_if (pdb_w (pdw_and (pd_cmpEB (op_neE hu hr hg (ow_eq G (by decide)) (ow_ne G)) (pd_var 9) (pd_ix (pd_var 0) pd_int) (nomark _)) (pdw_and1 (pdb_w (pdw_or (pd_cmpEB (op_inE hu hr hg (ow_in G (by decide))) (pd_var 9) (pd_var 2) (by with_unfolding_all rfl)) (pdw_or1 (pd_cmpEB (op_eqE hu hr hg (ow_eq G (by decide))) (pd_makeT G.mk_Tables ((ok_Tables__init G).mono (by decide)) (b_Tables__init G) G.m_Tables hr hg tk rfl (pda_cons (pd_lst (pda_cons (pd_var 9) pda_nil)) pda_nil) (alen_cons alen_nil) rfl) (pd_makeT G.mk_Tables ((ok_Tables__init G).mono (by decide)) (b_Tables__init G) G.m_Tables hr hg tk rfl (pda_cons (pd_cut (pd_var 0) pdo_none (pdo_some pd_int)) pda_nil) (alen_cons alen_nil) rfl) (nomark _)))))))) (pdss_one (pds_ret pd_bl)) pdss_nil)))
    (pdss_cons (pds_set (i := 10) sc_law_parts_hold.nd rfl (by first | exact Or.inl rfl | exact Or.inr rfl) (pd_makeT G.mk_Tables ((ok_Tables__init G).mono (by decide)) (b_Tables__init G) G.m_Tables hr hg tk rfl (pda_cons (pd_cut (pd_callTy cr_list rfl G.b_list (by decide +kernel) (pda_cons (pd_var 0) pda_nil)) (pdo_some pd_int) pdo_none) pda_nil) (alen_cons alen_nil) rfl))
    (pdss_one (pds_ret (pd_and (pd_cmpE (op_neE hu hr hg (ow_eq G (by decide)) (ow_ne G)) (pd_var 2) (pd_var 10) (nomark _)) (pd_and (pd_cmpE (op_neE hu hr hg (ow_eq G (by decide)) (ow_ne G)) (pd_var 10) (pd_var 2) (nomark _)) (pd_and (pd_cmpE (op_neE hu hr hg (ow_eq G (by decide)) (ow_ne G)) (pd_makeT G.mk_Tables ((ok_Tables__init G).mono (by decide)) (b_Tables__init G) G.m_Tables hr hg tk rfl (pda_cons (pd_lst pda_nil) pda_nil) (alen_cons alen_nil) rfl) (pd_var 2) (nomark _)) (pd_one (pd_cmpE (op_neE hu hr hg (ow_eq G (by decide)) (ow_ne G)) (pd_var 2) (pd_var 0) (nomark _)))))))))))))))))))))))
theorem b_law_is_value (G : Gs K mg) : Binds K G.fd_law_is_value ["value"] [] := G.F_law_is_value.bindsN fun _ _ _ _ _ _ us hl => match us, hl with | [_], _ => rfl
theorem ok_law_is_value (G : Gs K mg) : FnG P w K mg base 1 (fAd K ("_law_is_value", none)) G.fd_law_is_value ["value"] (g_law_is_value K) := okG (k := 0) G.F_law_is_value sc_law_is_value fun cdv A outer s H E hr hg tk po => by
  have hu := hr.units
  have hu1 : (A.deeper (envOfC "_law_is_value" (defScope s_law_is_value) s.heap.objs.size (fAd K ("_law_is_value", none)) cdv)).units + 1 < cLine := by omega
  exact (pdss_one (pds_ret (pd_and (pd_callB (cr_isi (all1 (G.i_Tables)) (all2 (G.x_InvalidTables) (G.x_MarkError))) rfl G.b_isinstance (by decide +kernel) (pda_cons (pd_var 0) (pda_cons (pd_bty rfl G.b_int (by decide +kernel)) pda_nil))) (pd_and (pd_not (pd_callB (cr_isi (all1 (G.i_Tables)) (all2 (G.x_InvalidTables) (G.x_MarkError))) rfl G.b_isinstance (by decide +kernel) (pda_cons (pd_var 0) (pda_cons (pd_bty rfl G.b_bool (by decide +kernel)) pda_nil)))) (pd_one (pd_cmp op_le' (pd_callB cr_abs rfl G.b_abs (by decide +kernel) (pda_cons (pd_var 0) pda_nil)) (pd_op op_pow' pd_int pd_int) (nomark _)))))))
theorem b_law_is_word (G : Gs K mg) : Binds K G.fd_law_is_word ["value"] [] := G.F_law_is_word.bindsN fun _ _ _ _ _ _ us hl => match us, hl with | [_], _ => rfl
theorem ok_law_is_word (G : Gs K mg) : FnG P w K mg base 1 (fAd K ("_law_is_word", none)) G.fd_law_is_word ["value"] (g_law_is_word K) := okG (k := 0) G.F_law_is_word sc_law_is_word fun cdv A outer s H E hr hg tk po => by
  have hu := hr.units
  have hu1 : (A.deeper (envOfC "_law_is_word" (defScope s_law_is_word) s.heap.objs.size (fAd K ("_law_is_word", none)) cdv)).units + 1 < cLine := by omega
  exact (pdss_cons (pds_if (pdb_w (pdw_or (pdb_not (pd_truth (pd_callB (cr_isi (all1 (G.i_Tables)) (all2 (G.x_InvalidTables) (G.x_MarkError))) rfl G.b_isinstance (by decide +kernel) (pda_cons (pd_var 0) (pda_cons (pd_bty rfl G.b_str (by decide +kernel)) pda_nil))))) (pdw_or (pd_cmpB op_lt' (pd_callB cr_len rfl G.b_len (by decide +kernel) (pda_cons (pd_var 0) pda_nil)) pd_int (nomark _)) (pdw_or1 (pd_cmpB op_gt' (pd_callB cr_len rfl G.b_len (by decide +kernel) (pda_cons (pd_var 0) pda_nil)) pd_int (nomark _)))))) (pdss_one (pds_ret pd_bl)) pdss_nil)
    (pdss_one (pds_ret (pd_cmp (op_eq' hu) (pd_lc rfl sc_law_is_word.nd (pdi_seq (pd_var 0)) (own := [("letter", 1)]) (blkOk_by (by rfl)) (by decide) (fun _ _ _ _ _ => (pp_name sc_law_is_word.nd rfl (by first | exact Or.inl rfl | exact Or.inr rfl))) (fun _ _ _ _ _ => (pdts_one (pd_cmpB (op_notIn' hu) (pd_var 1) pd_str (by with_unfolding_all rfl)))) (fun _ _ _ _ _ => (pd_var 1))) (pd_lst pda_nil) (nomark _)))))
theorem b_law_is_row (G : Gs K mg) : Binds K G.fd_law_is_row ["value"] [] := G.F_law_is_row.bindsN fun _ _ _ _ _ _ us hl => match us, hl with | [_], _ => rfl
theorem ok_law_is_row (G : Gs K mg) : FnG P w K mg base 2 (fAd K ("_law_is_row", none)) G.fd_law_is_row ["value"] (g_law_is_row K) := okG (k := 1) G.F_law_is_row sc_law_is_row fun cdv A outer s H E hr hg tk po => by
  have hu := hr.units
  have hu1 : (A.deeper (envOfC "_law_is_row" (defScope s_law_is_row) s.heap.objs.size (fAd K ("_law_is_row", none)) cdv)).units + 1 < cLine := by omega
  exact (pdss_cons (pds_if (pdb_w (pdw_or (pdb_not (pd_truth (pd_callB (cr_isi (all1 (G.i_Tables)) (all2 (G.x_InvalidTables) (G.x_MarkError))) rfl G.b_isinstance (by decide +kernel) (pda_cons (pd_var 0) (pda_cons (pd_bty rfl G.b_tuple (by decide +kernel)) pda_nil))))) (pdw_or (pd_cmpB (op_ne' hu) (pd_callB cr_len rfl G.b_len (by decide +kernel) (pda_cons (pd_var 0) pda_nil)) pd_int (nomark _)) (pdw_or (pdb_not (pd_truth (pd_callT ((ok_law_is_word G).mono (by decide)) (b_law_is_word G) G.F_law_is_word.kp G.m_law_is_word hr hg tk rfl (pda_cons (pd_ix (pd_var 0) pd_int) pda_nil) (alen_cons alen_nil) rfl))) (pdw_or1 (pdb_not (pd_truth (pd_callT ((ok_law_is_word G).mono (by decide)) (b_law_is_word G) G.F_law_is_word.kp G.m_law_is_word hr hg tk rfl (pda_cons (pd_ix (pd_var 0) pd_int) pda_nil) (alen_cons alen_nil) rfl)))))))) (pdss_one (pds_ret pd_bl)) pdss_nil)
    (pdss_cons (pds_if (pdb_w (pdw_or (pdb_not (pd_truth (pd_callB (cr_isi (all1 (G.i_Tables)) (all2 (G.x_InvalidTables) (G.x_MarkError))) rfl G.b_isinstance (by decide +kernel) (pda_cons (pd_ix (pd_var 0) pd_int) (pda_cons (pd_bty rfl G.b_tuple (by decide +kernel)) pda_nil))))) (pdw_or (pd_cmpB op_lt' (pd_callB cr_len rfl G.b_len (by decide +kernel) (pda_cons (pd_ix (pd_var 0) pd_int) pda_nil)) pd_int (nomark _)) (pdw_or1 (pd_cmpB op_gt' (pd_callB cr_len rfl G.b_len (by decide +kernel) (pda_cons (pd_ix (pd_var 0) pd_int) pda_nil)) pd_int (nomark _)))))) (pdss_one (pds_ret pd_bl)) pdss_nil)
    (pdss_one (pds_ret (pd_cmp (op_eq' hu) (pd_lc rfl sc_law_is_row.nd (pdi_seq (pd_ix (pd_var 0) pd_int)) (own := [("one", 1)]) (blkOk_by (by rfl)) (by decide) (fun _ _ _ _ _ => (pp_name sc_law_is_row.nd rfl (by first | exact Or.inl rfl | exact Or.inr rfl))) (fun _ _ _ _ _ => (pdts_one (pdb_not (pd_truth (pd_callT ((ok_law_is_value G).mono (by decide)) (b_law_is_value G) G.F_law_is_value.kp G.m_law_is_value hr hg takes_W0 rfl (pda_cons (pd_var 1) pda_nil) (alen_cons alen_nil) rfl))))) (fun _ _ _ _ _ => (pd_var 1))) (pd_lst pda_nil) (nomark _))))))
theorem b_law_expected (G : Gs K mg) : Binds K G.fd_law_expected ["rows"] [] := G.F_law_expected.bindsN fun _ _ _ _ _ _ us hl => match us, hl with | [_], _ => rfl
theorem ok_law_expected (G : Gs K mg) : FnG P w K mg base 3 (fAd K ("_law_expected", none)) G.fd_law_expected ["rows"] (g_law_expected K) := okG (k := 2) G.F_law_expected sc_law_expected fun cdv A outer s H E hr hg tk po => by
  have hu := hr.units
  have hu1 : (A.deeper (envOfC "_law_expected" (defScope s_law_expected) s.heap.objs.size (fAd K ("_law_expected", none)) cdv)).units + 1 < cLine := by omega
  exact (pdss_cons (pds_if (pdb_w (pdw_or (pdb_w (pdw_and (pdb_not (pd_truth (pd_callB (cr_isi (all1 (G.i_Tables)) (all2 (G.x_InvalidTables) (G.x_MarkError))) rfl G.b_isinstance (by decide +kernel) (pda_cons (pd_var 0) (pda_cons (pd_bty rfl G.b_list (by decide +kernel)) pda_nil))))) (pdw_and1 (pdb_not (pd_truth (pd_callB (cr_isi (all1 (G.i_Tables)) (all2 (G.x_InvalidTables) (G.x_MarkError))) rfl G.b_isinstance (by decide +kernel) (pda_cons (pd_var 0) (pda_cons (pd_bty rfl G.b_tuple (by decide +kernel)) pda_nil)))))))) (pdw_or1 (pd_cmpB op_gt' (pd_callB cr_len rfl G.b_len (by decide +kernel) (pda_cons (pd_var 0) pda_nil)) pd_int (nomark _))))) (pdss_one (pds_ret (pd_tup (pda_cons pd_str pda_nil)))) pdss_nil)
    (pdss_cons (pds_for po rfl (pdi_rng1 rfl G.b_range (pda_cons (pd_callB cr_len rfl G.b_len (by decide +kernel) (pda_cons (pd_var 0) pda_nil)) pda_nil)) (pdg_name (i := 1) sc_law_expected.nd rfl (by first | exact Or.inl rfl | exact Or.inr rfl)) (pdss_cons (pds_if (pdb_not (pd_truth (pd_callT ((ok_law_is_row G).mono (by decide)) (b_law_is_row G) G.F_law_is_row.kp G.m_law_is_row hr hg tk rfl (pda_cons (pd_ix (pd_var 0) (pd_var 1)) pda_nil) (alen_cons alen_nil) rfl))) (pdss_one (pds_ret (pd_tup (pda_cons pd_str (pda_cons (pd_var 1) pda_nil))))) pdss_nil)
    (pdss_cons (pds_if (pd_cmpB (op_in' hu) (pd_ix (pd_ix (pd_var 0) (pd_var 1)) pd_int) (pd_lc rfl sc_law_expected.nd (pdi_seq (pd_cut (pd_var 0) pdo_none (pdo_some (pd_var 1)))) (own := [("row", 2)]) (blkOk_by (by rfl)) (by decide) (fun _ _ _ _ _ => (pp_name sc_law_expected.nd rfl (by first | exact Or.inl rfl | exact Or.inr rfl))) (fun _ _ _ _ _ => pdts_nil) (fun _ _ _ _ _ => (pd_ix (pd_var 2) pd_int))) (by with_unfolding_all rfl)) (pdss_one (pds_ret (pd_tup (pda_cons pd_str (pda_cons (pd_var 1) pda_nil))))) pdss_nil)
    (pdss_cons (pds_if (pd_cmpB (op_ne' hu) (pd_lc rfl sc_law_expected.nd (pdi_seq (pd_cut (pd_var 0) pdo_none (pdo_some (pd_var 1)))) (own := [("row", 2)]) (blkOk_by (by rfl)) (by decide) (fun _ _ _ _ _ => (pp_name sc_law_expected.nd rfl (by first | exact Or.inl rfl | exact Or.inr rfl))) (fun _ _ _ _ _ => (pdts_one (pdb_w (pdw_and (pd_cmpB (op_eq' hu) (pd_ix (pd_var 2) pd_int) (pd_ix (pd_ix (pd_var 0) (pd_var 1)) pd_int) (nomark _)) (pdw_and1 (pd_cmpB (op_ne' hu) (pd_callB cr_len rfl G.b_len (by decide +kernel) (pda_cons (pd_ix (pd_var 2) pd_int) pda_nil)) (pd_callB cr_len rfl G.b_len (by decide +kernel) (pda_cons (pd_ix (pd_ix (pd_var 0) (pd_var 1)) pd_int) pda_nil)) (nomark _))))))) (fun _ _ _ _ _ => (pd_var 2))) (pd_lst pda_nil) (nomark _)) (pdss_one (pds_ret (pd_tup (pda_cons pd_str (pda_cons (pd_var 1) pda_nil))))) pdss_nil)
    (pdss_one (pds_if (pd_cmpB (op_in' hu) (pd_cut (pd_ix (pd_var 0) (pd_var 1)) (pdo_some pd_int) pdo_none) (pd_lc rfl sc_law_expected.nd (pdi_seq (pd_cut (pd_var 0) pdo_none (pdo_some (pd_var 1)))) (own := [("row", 2)]) (blkOk_by (by rfl)) (by decide) (fun _ _ _ _ _ => (pp_name sc_law_expected.nd rfl (by first | exact Or.inl rfl | exact Or.inr rfl))) (fun _ _ _ _ _ => pdts_nil) (fun _ _ _ _ _ => (pd_cut (pd_var 2) (pdo_some pd_int) pdo_none))) (by with_unfolding_all rfl)) (pdss_one (pds_ret (pd_tup (pda_cons pd_str (pda_cons (pd_var 1) pda_nil))))) pdss_nil))))))
    (pdss_one (pds_ret pd_non))))
theorem b_law_raised (G : Gs K mg) : Binds K G.fd_law_raised ["rows"] [] := G.F_law_raised.bindsN fun _ _ _ _ _ _ us hl => match us, hl with | [_], _ => rfl
theorem ok_law_raised (G : Gs K mg) : FnG P w K mg base 6 (fAd K ("_law_raised", none)) G.fd_law_raised ["rows"] (g_law_raised K) := okG (k := 5) G.F_law_raised sc_law_raised fun cdv A outer s H E hr hg tk po => by
  have hu := hr.units
  have hu1 : (A.deeper (envOfC "_law_raised" (defScope s_law_raised) s.heap.objs.size (fAd K ("_law_raised", none)) cdv)).units + 1 < cLine := by omega
  exact (pdss_cons (pds_set (i := 1) sc_law_raised.nd rfl (by first | exact Or.inl rfl | exact Or.inr rfl) pd_non)
    (pdss_cons (pds_try (i := 2) rfl rfl sc_law_raised.nd rfl rfl ⟨rfl, by decide, .inl G.m_MarkError⟩ tk (fun _ _ _ _ z => nomatch z) (fun W' pn xe t1 t2 => (pdss_one (pds_expr (pd_makeT G.mk_Tables ((ok_Tables__init G).mono (by decide)) (b_Tables__init G) G.m_Tables hr hg t1 rfl (pda_cons (pd_var 0) pda_nil) (alen_cons alen_nil) rfl)))) (fun a pn => (pdss_one (pds_set (i := 1) sc_law_raised.nd rfl (by first | exact Or.inl rfl | exact Or.inr rfl) (pd_var 2)))))
    (pdss_cons (pds_if (pdb_w (pdw_and (pd_truth (pd_callB (cr_isi (all1 (G.i_Tables)) (all2 (G.x_InvalidTables) (G.x_MarkError))) rfl G.b_isinstance (by decide +kernel) (pda_cons (pd_var 1) (pda_cons (pd_gcls rfl G.m_InvalidTables) pda_nil)))) (pdw_and1 (pd_truth (pd_callB (cr_isi (all1 (G.i_Tables)) (all2 (G.x_InvalidTables) (G.x_MarkError))) rfl G.b_isinstance (by decide +kernel) (pda_cons (pd_var 1) (pda_cons (pd_bty rfl G.b_ValueError (by decide +kernel)) pda_nil))))))) (pdss_one (pds_ret (pd_fld (by simp) (all1 (⟨G.xf_InvalidTables, G.n_InvalidTables_reason⟩)) (pd_var 1)))) pdss_nil)
    (pdss_one (pds_ret (pd_var 1))))))
theorem b_law_draw (G : Gs K mg) : Binds K G.fd_law_draw ["source", "limit"] [] := G.F_law_draw.bindsN fun _ _ _ _ _ _ us hl => match us, hl with | [_, _], _ => rfl
theorem ok_law_draw (G : Gs K mg) : FnG P w K mg base 1 (fAd K ("_law_draw", none)) G.fd_law_draw ["source", "limit"] (g_law_draw K) := okG (k := 0) G.F_law_draw sc_law_draw fun cdv A outer s H E hr hg tk po => by
  have hu := hr.units
  have hu1 : (A.deeper (envOfC "_law_draw" (defScope s_law_draw) s.heap.objs.size (fAd K ("_law_draw", none)) cdv)).units + 1 < cLine := by omega
  exact (pdss_cons (pds_asg (pd_var 0) (pdg_tup rfl (pdgs_cons (pdg_name (i := 2) sc_law_draw.nd rfl (by first | exact Or.inl rfl | exact Or.inr rfl)) (pdgs_cons (pdg_name (i := 3) sc_law_draw.nd rfl (by first | exact Or.inl rfl | exact Or.inr rfl)) pdgs_nil))))
    (pdss_cons (pds_set (i := 4) sc_law_draw.nd rfl (by first | exact Or.inl rfl | exact Or.inr rfl) (pd_op op_mod' (pd_callTy cr_int rfl G.b_int (by decide +kernel) (pda_cons (pd_var 3) pda_nil)) (pd_callB cr_len rfl G.b_len (by decide +kernel) (pda_cons (pd_var 2) pda_nil))))
    (pdss_cons (pds_set (i := 5) sc_law_draw.nd rfl (by first | exact Or.inl rfl | exact Or.inr rfl) (pd_ix (pd_var 2) (pd_var 4)))
    (pdss_cons (pds_asg (pd_op op_add' (pd_var 3) pd_int) (pdg_sub hu1 (pd_var 0) pd_int))
    (pdss_cons (pds_if (pd_cmpB op_ge' (pd_var 5) (pd_op op_pow' pd_int pd_int) (nomark _)) (pdss_cons (pds_asg (pd_op op_div' (pd_var 5) (pd_var 1)) (pdg_sub hu1 (pd_var 2) (pd_var 4)))
    (pdss_one (pds_ret (pd_op op_mod' (pd_callTy cr_int rfl G.b_int (by decide +kernel) (pda_cons (pd_var 5) pda_nil)) (pd_var 1))))) pdss_nil)
    (pdss_cons (pds_set (i := 6) sc_law_draw.nd rfl (by first | exact Or.inl rfl | exact Or.inr rfl) (pd_op op_mod' (pd_callTy cr_int rfl G.b_int (by decide +kernel) (pda_cons (pd_op op_add' (pd_op op_add' (pd_op op_mul' (pd_op op_mod' (pd_callTy cr_int rfl G.b_int (by decide +kernel) (pda_cons (pd_var 5) pda_nil)) pd_int) pd_int) (pd_op op_mul' (pd_op op_mul' (pd_var 3) (pd_var 3)) pd_int)) pd_int) pda_nil)) pd_int))
    (pdss_cons (pds_set (i := 6) sc_law_draw.nd rfl (by first | exact Or.inl rfl | exact Or.inr rfl) (pd_op op_mod' (pd_callTy cr_int rfl G.b_int (by decide +kernel) (pda_cons (pd_op op_mul' (pd_var 6) (pd_var 6)) pda_nil)) pd_int))
    (pdss_cons (pds_set (i := 6) sc_law_draw.nd rfl (by first | exact Or.inl rfl | exact Or.inr rfl) (pd_op op_mod' (pd_callTy cr_int rfl G.b_int (by decide +kernel) (pda_cons (pd_op op_mul' (pd_var 6) (pd_var 6)) pda_nil)) pd_int))
    (pdss_cons (pds_if (pd_cmpB op_gt' (pd_var 1) (pd_op op_pow' pd_int pd_int) (nomark _)) (pdss_cons (pds_set (i := 7) sc_law_draw.nd rfl (by first | exact Or.inl rfl | exact Or.inr rfl) (pd_op op_mod' (pd_callTy cr_int rfl G.b_int (by decide +kernel) (pda_cons (pd_op op_add' (pd_op op_add' (pd_op op_mul' (pd_var 6) pd_int) (pd_op op_mul' (pd_var 3) pd_int)) pd_int) pda_nil)) pd_int))
    (pdss_one (pds_set (i := 6) sc_law_draw.nd rfl (by first | exact Or.inl rfl | exact Or.inr rfl) (pd_op op_mul' (pd_var 6) (pd_op op_add' (pd_op op_mul' (pd_op op_mul' (pd_var 7) (pd_var 7)) (pd_var 7)) pd_int))))) pdss_nil)
    (pdss_one (pds_ret (pd_op op_mod' (pd_callTy cr_int rfl G.b_int (by decide +kernel) (pda_cons (pd_var 6) pda_nil)) (pd_var 1)))))))))))))
theorem b_law_pick (G : Gs K mg) : Binds K G.fd_law_pick ["source", "values"] [] := G.F_law_pick.bindsN fun _ _ _ _ _ _ us hl => match us, hl with | [_, _], _ => rfl
theorem ok_law_pick (G : Gs K mg) : FnG P w K mg base 2 (fAd K ("_law_pick", none)) G.fd_law_pick ["source", "values"] (g_law_pick K) := okG (k := 1) G.F_law_pick sc_law_pick fun cdv A outer s H E hr hg tk po => by
  have hu := hr.units
  have hu1 : (A.deeper (envOfC "_law_pick" (defScope s_law_pick) s.heap.objs.size (fAd K ("_law_pick", none)) cdv)).units + 1 < cLine := by omega
  exact (pdss_one (pds_ret (pd_ix (pd_var 1) (pd_callT ((ok_law_draw G).mono (by decide)) (b_law_draw G) G.F_law_draw.kp G.m_law_draw hr hg tk rfl (pda_cons (pd_var 0) (pda_cons (pd_callB cr_len rfl G.b_len (by decide +kernel) (pda_cons (pd_var 1) pda_nil)) pda_nil)) (alen_cons (alen_cons alen_nil)) rfl))))
theorem b_law_changed (G : Gs K mg) : Binds K G.fd_law_changed ["source", "shapes", "rows"] [] := G.F_law_changed.bindsN fun _ _ _ _ _ _ us hl => match us, hl with | [_, _, _], _ => rfl
theorem ok_law_changed (G : Gs K mg) : FnG P w K mg base 3 (fAd K ("_law_changed", none)) G.fd_law_changed ["source", "shapes", "rows"] (g_law_changed K) := okG (k := 2) G.F_law_changed sc_law_changed fun cdv A outer s H E hr hg tk po => by
  have hu := hr.units
  have hu1 : (A.deeper (envOfC "_law_changed" (defScope s_law_changed) s.heap.objs.size (fAd K ("_law_changed", none)) cdv)).units + 1 < cLine := by omega
  exact (pdss_cons (pds_set (i := 3) sc_law_changed.nd rfl (by first | exact Or.inl rfl | exact Or.inr rfl) (pd_op op_add' (pd_var 2) (pd_lst (pda_cons (pd_tup (pda_cons pd_str (pda_cons pd_str (pda_cons (pd_tup (pda_cons pd_int (pda_cons pd_int pda_nil))) pda_nil)))) pda_nil))))
    (pdss_cons (pds_for po rfl (pdi_rng1 rfl G.b_range (pda_cons (pd_callT ((ok_law_draw G).mono (by decide)) (b_law_draw G) G.F_law_draw.kp G.m_law_draw hr hg tk rfl (pda_cons (pd_var 0) (pda_cons pd_int pda_nil)) (alen_cons (alen_cons alen_nil)) rfl) pda_nil)) (pdg_name (i := 4) sc_law_changed.nd rfl (by first | exact Or.inl rfl | exact Or.inr rfl)) (pdss_cons (pds_asg (pd_callT ((ok_law_pick G).mono (by decide)) (b_law_pick G) G.F_law_pick.kp G.m_law_pick hr hg tk rfl (pda_cons (pd_var 0) (pda_cons (pd_var 3) pda_nil)) (alen_cons (alen_cons alen_nil)) rfl) (pdg_tup rfl (pdgs_cons (pdg_name (i := 5) sc_law_changed.nd rfl (by first | exact Or.inl rfl | exact Or.inr rfl)) (pdgs_cons (pdg_name (i := 6) sc_law_changed.nd rfl (by first | exact Or.inl rfl | exact Or.inr rfl)) (pdgs_cons (pdg_name (i := 7) sc_law_changed.nd rfl (by first | exact Or.inl rfl | exact Or.inr rfl)) pdgs_nil)))))
    (pdss_cons (pds_set (i := 8) sc_law_changed.nd rfl (by first | exact Or.inl rfl | exact Or.inr rfl) (pd_lstM (pda_cons pd_non (pda_cons (pd_lst (pda_cons (pd_var 5) (pda_cons (pd_var 6) (pda_cons (pd_var 7) pda_nil)))) (pda_cons (pd_tup (pda_cons (pd_var 5) (pda_cons (pd_var 6) pda_nil))) (pda_cons (pd_tup (pda_cons (pd_var 5) (pda_cons (pd_var 6) (pda_cons (pd_var 7) (pda_cons pd_int pda_nil))))) (pda_cons (pd_tup (pda_cons (pd_var 5) (pda_cons (pd_var 6) (pda_cons (pd_callTy cr_list rfl G.b_list (by decide +kernel) (pda_cons (pd_var 7) pda_nil)) pda_nil)))) pda_nil)))))))
    (pdss_cons (pds_set (i := 8) sc_law_changed.nd rfl (by first | exact Or.inl rfl | exact Or.inr rfl) (pd_addM (pd_var 8) (pd_lst (pda_cons (pd_tup (pda_cons pd_str (pda_cons (pd_var 6) (pda_cons (pd_var 7) pda_nil)))) (pda_cons (pd_tup (pda_cons pd_non (pda_cons (pd_var 6) (pda_cons (pd_var 7) pda_nil)))) (pda_cons (pd_tup (pda_cons (pd_var 5) (pda_cons pd_str (pda_cons (pd_var 7) pda_nil)))) (pda_cons (pd_tup (pda_cons pd_str (pda_cons (pd_var 6) (pda_cons (pd_tup pda_nil) pda_nil)))) pda_nil)))))))
    (pdss_cons (pds_set (i := 8) sc_law_changed.nd rfl (by first | exact Or.inl rfl | exact Or.inr rfl) (pd_addM (pd_var 8) (pd_lst (pda_cons (pd_tup (pda_cons pd_str (pda_cons (pd_var 6) (pda_cons (pd_op op_add' (pd_tup (pda_cons pd_bl pda_nil)) (pd_cut (pd_var 7) (pdo_some pd_int) pdo_none)) pda_nil)))) (pda_cons (pd_tup (pda_cons pd_str (pda_cons (pd_var 6) (pda_cons (pd_op op_add' (pd_tup (pda_cons (pd_op op_add' (pd_op op_pow' pd_int pd_int) pd_int) pda_nil)) (pd_cut (pd_var 7) (pdo_some pd_int) pdo_none)) pda_nil)))) (pda_cons pd_int (pda_cons pd_str pda_nil)))))))
    (pdss_cons (pds_set (i := 8) sc_law_changed.nd rfl (by first | exact Or.inl rfl | exact Or.inr rfl) (pd_addM (pd_var 8) (pd_lst (pda_cons (pd_tup (pda_cons pd_str (pda_cons (pd_var 6) (pda_cons (pd_var 7) pda_nil)))) (pda_cons (pd_tup (pda_cons (pd_var 5) (pda_cons (pd_var 6) (pda_cons (pd_rev (pd_var 7)) pda_nil)))) (pda_cons (pd_tup (pda_cons pd_str (pda_cons (pd_var 6) (pda_cons (pd_cut (pd_op op_mul' (pd_var 7) pd_int) pdo_none (pdo_some pd_int)) pda_nil)))) pda_nil))))))
    (pdss_cons (pds_set (i := 8) sc_law_changed.nd rfl (by first | exact Or.inl rfl | exact Or.inr rfl) (pd_addM (pd_var 8) (pd_lst (pda_cons (pd_tup (pda_cons pd_str (pda_cons (pd_var 6) (pda_cons (pd_cut (pd_op op_add' (pd_var 7) (pd_tup (pda_cons pd_int pda_nil))) pdo_none (pdo_some pd_int)) pda_nil)))) (pda_cons (pd_tup (pda_cons pd_str (pda_cons (pd_var 6) (pda_cons (pd_op op_mul' (pd_tup (pda_cons (pd_op op_sub' pd_int (pd_op op_pow' pd_int pd_int)) pda_nil)) (pd_callB cr_len rfl G.b_len (by decide +kernel) (pda_cons (pd_var 7) pda_nil))) pda_nil)))) pda_nil)))))
    (pdss_cons (pds_set (i := 8) sc_law_changed.nd rfl (by first | exact Or.inl rfl | exact Or.inr rfl) (pd_addM (pd_var 8) (pd_lst (pda_cons (pd_tup (pda_cons (pd_lst (pda_cons pd_str pda_nil)) (pda_cons (pd_var 6) (pda_cons (pd_var 7) pda_nil)))) (pda_cons (pd_tup (pda_cons (pd_var 5) (pda_cons (pd_var 6) (pda_cons pd_non pda_nil)))) (pda_cons (pd_tup (pda_cons (pd_var 5) (pda_cons (pd_var 6) (pda_cons pd_int pda_nil)))) (pda_cons (pd_tup (pda_cons (pd_var 5) (pda_cons (pd_var 6) (pda_cons pd_bl pda_nil)))) pda_nil)))))))
    (pdss_cons (pds_set (i := 9) sc_law_changed.nd rfl (by first | exact Or.inl rfl | exact Or.inr rfl) (pd_lst (pda_cons pd_str (pda_cons pd_str (pda_cons pd_str (pda_cons pd_str (pda_cons pd_str (pda_cons pd_str (pda_cons pd_str (pda_cons pd_str (pda_cons pd_non (pda_cons pd_int (pda_cons (pd_lst (pda_cons pd_str pda_nil)) (pda_cons pd_bl (pda_cons pd_str (pda_cons pd_str pda_nil))))))))))))))))
    (pdss_cons (pds_set (i := 10) sc_law_changed.nd rfl (by first | exact Or.inl rfl | exact Or.inr rfl) (pd_callT ((ok_law_pick G).mono (by decide)) (b_law_pick G) G.F_law_pick.kp G.m_law_pick hr hg tk rfl (pda_cons (pd_var 0) (pda_cons (pd_var 9) pda_nil)) (alen_cons (alen_cons alen_nil)) rfl))
    (pdss_cons (pds_set (i := 11) sc_law_changed.nd rfl (by first | exact Or.inl rfl | exact Or.inr rfl) (pd_callT ((ok_law_pick G).mono (by decide)) (b_law_pick G) G.F_law_pick.kp G.m_law_pick hr hg tk rfl (pda_cons (pd_var 0) (pda_cons (pd_lst (pda_cons pd_bl (pda_cons pd_non (pda_cons pd_str (pda_cons (pd_op op_add' (pd_op op_pow' pd_int pd_int) pd_int) (pda_cons (pd_op op_sub' (pd_op op_sub' pd_int (pd_op op_pow' pd_int pd_int)) pd_int) pda_nil)))))) pda_nil)) (alen_cons (alen_cons alen_nil)) rfl))
    (pdss_cons (pds_set (i := 8) sc_law_changed.nd rfl (by first | exact Or.inl rfl | exact Or.inr rfl) (pd_addM (pd_var 8) (pd_lst (pda_cons (pd_tup (pda_cons (pd_var 10) (pda_cons (pd_var 6) (pda_cons (pd_var 7) pda_nil)))) (pda_cons (pd_tup (pda_cons (pd_var 5) (pda_cons (pd_var 10) (pda_cons (pd_var 7) pda_nil)))) (pda_cons (pd_tup (pda_cons pd_str (pda_cons (pd_var 6) (pda_cons (pd_op op_add' (pd_cut (pd_var 7) pdo_none (pdo_some (pd_neg pd_int))) (pd_tup (pda_cons (pd_var 11) pda_nil))) pda_nil)))) pda_nil))))))
    (pdss_cons (pds_expr (pd_meth PySem.F.plainAttrs_list PySem.F.slot_list_append rfl mr_append (pd_var 8) (pda_cons (pd_tup (pda_cons pd_str (pda_cons (pd_var 6) (pda_cons (pd_op op_add' (pd_tup (pda_cons (pd_op op_sub' (pd_op op_sub' pd_int (pd_op op_pow' pd_int pd_int)) pd_int) pda_nil)) (pd_cut (pd_var 7) (pdo_some pd_int) pdo_none)) pda_nil)))) pda_nil)))
    (pdss_cons (pds_expr (pd_meth PySem.F.plainAttrs_list PySem.F.slot_list_append rfl mr_append (pd_var 8) (pda_cons (pd_tup (pda_cons pd_str (pda_cons (pd_var 6) (pda_cons (pd_op op_add' (pd_op op_add' (pd_cut (pd_var 7) pdo_none (pdo_some pd_int)) (pd_tup (pda_cons (pd_var 11) pda_nil))) (pd_cut (pd_var 7) (pdo_some pd_int) pdo_none)) pda_nil)))) pda_nil)))
    (pdss_cons (pds_set (i := 12) sc_law_changed.nd rfl (by first | exact Or.inl rfl | exact Or.inr rfl) (pd_callT ((ok_law_draw G).mono (by decide)) (b_law_draw G) G.F_law_draw.kp G.m_law_draw hr hg tk rfl (pda_cons (pd_var 0) (pda_cons (pd_op op_add' (pd_callB cr_len rfl G.b_len (by decide +kernel) (pda_cons (pd_var 2) pda_nil)) pd_int) pda_nil)) (alen_cons (alen_cons alen_nil)) rfl))
    (pdss_one (pds_set (i := 2) sc_law_changed.nd rfl (by first | exact Or.inl rfl | exact Or.inr rfl) (pd_op op_add' (pd_op op_add' (pd_cut (pd_var 2) pdo_none (pdo_some (pd_var 12))) (pd_lst (pda_cons (pd_callT ((ok_law_pick G).mono (by decide)) (b_law_pick G) G.F_law_pick.kp G.m_law_pick hr hg tk rfl (pda_cons (pd_var 0) (pda_cons (pd_var 8) pda_nil)) (alen_cons (alen_cons alen_nil)) rfl) pda_nil))) (pd_cut (pd_var 2) (pdo_some (pd_var 12)) pdo_none)))))))))))))))))))
    (pdss_one (pds_ret (pd_callT ((ok_law_pick G).mono (by decide)) (b_law_pick G) G.F_law_pick.kp G.m_law_pick hr hg tk rfl (pda_cons (pd_var 0) (pda_cons (pd_lst (pda_cons (pd_var 2) (pda_cons (pd_var 2) (pda_cons (pd_var 2) (pda_cons (pd_callTy cr_tuple rfl G.b_tuple (by decide +kernel) (pda_cons (pd_var 2) pda_nil)) (pda_cons pd_non (pda_cons pd_int (pda_cons (pd_op op_mul' (pd_var 2) pd_int) (pda_cons pd_str (pda_cons (pd_tup pda_nil) (pda_cons pd_dctF (pda_cons pd_str pda_nil)))))))))))) pda_nil)) (alen_cons (alen_cons alen_nil)) rfl)))))
theorem b_law_shuffle (G : Gs K mg) : Binds K G.fd_law_shuffle ["source", "values"] [] := G.F_law_shuffle.bindsN fun _ _ _ _ _ _ us hl => match us, hl with | [_, _], _ => rfl
theorem ok_law_shuffle (G : Gs K mg) : FnG P w K mg base 2 (fAd K ("_law_shuffle", none)) G.fd_law_shuffle ["source", "values"] (g_law_shuffle K) := okG (k := 1) G.F_law_shuffle sc_law_shuffle fun cdv A outer s H E hr hg tk po => by
  have hu := hr.units
  have hu1 : (A.deeper (envOfC "_law_shuffle" (defScope s_law_shuffle) s.heap.objs.size (fAd K ("_law_shuffle", none)) cdv)).units + 1 < cLine := by omega
  exact (pdss_cons (pds_set (i := 2) sc_law_shuffle.nd rfl (by first | exact Or.inl rfl | exact Or.inr rfl) (pd_lstM pda_nil))
    (pdss_cons (pds_for po rfl (pdi_seq (pd_var 1)) (pdg_name (i := 3) sc_law_shuffle.nd rfl (by first | exact Or.inl rfl | exact Or.inr rfl)) (pdss_one (pds_expr (pd_meth PySem.F.plainAttrs_list PySem.F.slot_list_insert rfl mr_insert (pd_var 2) (pda_cons (pd_callT ((ok_law_draw G).mono (by decide)) (b_law_draw G) G.F_law_draw.kp G.m_law_draw hr hg tk rfl (pda_cons (pd_var 0) (pda_cons (pd_op op_add' (pd_callB cr_len rfl G.b_len (by decide +kernel) (pda_cons (pd_var 2) pda_nil)) pd_int) pda_nil)) (alen_cons (alen_cons alen_nil)) rfl) (pda_cons (pd_var 3) pda_nil))))))
    (pdss_one (pds_ret (pd_var 2)))))
theorem b_law_word (G : Gs K mg) : Binds K G.fd_law_word ["source", "size"] [] := G.F_law_word.bindsN fun _ _ _ _ _ _ us hl => match us, hl with | [_, _], _ => rfl
theorem ok_law_word (G : Gs K mg) : FnG P w K mg base 2 (fAd K ("_law_word", none)) G.fd_law_word ["source", "size"] (g_law_word K) := okG (k := 1) G.F_law_word sc_law_word fun cdv A outer s H E hr hg tk po => by
  have hu := hr.units
  have hu1 : (A.deeper (envOfC "_law_word" (defScope s_law_word) s.heap.objs.size (fAd K ("_law_word", none)) cdv)).units + 1 < cLine := by omega
  exact (pdss_one (pds_ret (pd_meth PySem.F.plainAttrs_str PySem.F.slot_str_join rfl mr_join pd_str (pda_cons (pd_lc rfl sc_law_word.nd (pdi_rng1 rfl G.b_range (pda_cons (pd_var 1) pda_nil)) (own := [("k", 2)]) (blkOk_by (by rfl)) (by decide) (fun _ _ _ _ _ => (pp_name sc_law_word.nd rfl (by first | exact Or.inl rfl | exact Or.inr rfl))) (fun _ _ _ _ _ => pdts_nil) (fun _ _ _ _ _ => (pd_ix pd_str (pd_callT ((ok_law_draw G).mono (by decide)) (b_law_draw G) G.F_law_draw.kp G.m_law_draw hr hg takes_W0 rfl (pda_cons (pd_var 0) (pda_cons pd_int pda_nil)) (alen_cons (alen_cons alen_nil)) rfl)))) pda_nil))))
theorem b_law_database (G : Gs K mg) : Binds K G.fd_law_database ["source", "shapes", "most"] [] := G.F_law_database.bindsN fun _ _ _ _ _ _ us hl => match us, hl with | [_, _, _], _ => rfl
theorem ok_law_database (G : Gs K mg) : FnG P w K mg base 3 (fAd K ("_law_database", none)) G.fd_law_database ["source", "shapes", "most"] (g_law_database K) := okG (k := 2) G.F_law_database sc_law_database fun cdv A outer s H E hr hg tk po => by
  have hu := hr.units
  have hu1 : (A.deeper (envOfC "_law_database" (defScope s_law_database) s.heap.objs.size (fAd K ("_law_database", none)) cdv)).units + 1 < cLine := by omega
  exact (pdss_cons (pds_set (i := 3) sc_law_database.nd rfl (by first | exact Or.inl rfl | exact Or.inr rfl) (pd_callT ((ok_law_pick G).mono (by decide)) (b_law_pick G) G.F_law_pick.kp G.m_law_pick hr hg tk rfl (pda_cons (pd_var 0) (pda_cons (pd_lst (pda_cons (pd_lst (pda_cons pd_int (pda_cons pd_int (pda_cons pd_int pda_nil)))) (pda_cons (pd_lst (pda_cons (pd_op op_sub' pd_int pd_int) (pda_cons pd_int (pda_cons pd_int pda_nil)))) (pda_cons (pd_lst (pda_cons pd_int (pda_cons pd_int (pda_cons (pd_op op_sub' pd_int pd_int) pda_nil)))) (pda_cons (pd_lst (pda_cons (pd_op op_sub' pd_int (pd_op op_pow' pd_int pd_int)) (pda_cons (pd_op op_pow' pd_int pd_int) (pda_cons pd_int pda_nil)))) (pda_cons (pd_lst (pda_cons pd_int (pda_cons pd_int pda_nil))) pda_nil)))))) pda_nil)) (alen_cons (alen_cons alen_nil)) rfl))
    (pdss_cons (pds_set (i := 4) sc_law_database.nd rfl (by first | exact Or.inl rfl | exact Or.inr rfl) (pd_lst (pda_cons (pd_lst (pda_cons pd_int (pda_cons pd_int (pda_cons pd_int (pda_cons (pd_op op_sub' pd_int pd_int) pda_nil))))) (pda_cons (pd_lst (pda_cons (pd_op op_sub' pd_int (pd_op op_pow' pd_int pd_int)) (pda_cons (pd_op op_sub' pd_int pd_int) (pda_cons pd_int (pda_cons pd_int pda_nil))))) (pda_cons (pd_var 3) (pda_cons (pd_var 3) pda_nil))))))
    (pdss_cons (pds_set (i := 3) sc_law_database.nd rfl (by first | exact Or.inl rfl | exact Or.inr rfl) (pd_callT ((ok_law_pick G).mono (by decide)) (b_law_pick G) G.F_law_pick.kp G.m_law_pick hr hg tk rfl (pda_cons (pd_var 0) (pda_cons (pd_var 4) pda_nil)) (alen_cons (alen_cons alen_nil)) rfl))
    (pdss_cons (pds_set (i := 5) sc_law_database.nd rfl (by first | exact Or.inl rfl | exact Or.inr rfl) (pd_callT ((ok_law_shuffle G).mono (by decide)) (b_law_shuffle G) G.F_law_shuffle.kp G.m_law_shuffle hr hg tk rfl (pda_cons (pd_var 0) (pda_cons (pd_lst (pda_cons pd_str (pda_cons pd_str (pda_cons pd_str (pda_cons pd_str (pda_cons pd_str (pda_cons pd_str (pda_cons pd_str (pda_cons (pd_callT ((ok_law_word G).mono (by decide)) (b_law_word G) G.F_law_word.kp G.m_law_word hr hg tk rfl (pda_cons (pd_var 0) (pda_cons pd_int pda_nil)) (alen_cons (alen_cons alen_nil)) rfl) pda_nil))))))))) pda_nil)) (alen_cons (alen_cons alen_nil)) rfl))
    (pdss_cons (pds_set (i := 6) sc_law_database.nd rfl (by first | exact Or.inl rfl | exact Or.inr rfl) (pd_lstM pda_nil))
    (pdss_cons (pds_for po rfl (pdi_rng1 rfl G.b_range (pda_cons (pd_callT ((ok_law_draw G).mono (by decide)) (b_law_draw G) G.F_law_draw.kp G.m_law_draw hr hg tk rfl (pda_cons (pd_var 0) (pda_cons (pd_op op_add' (pd_var 2) pd_int) pda_nil)) (alen_cons (alen_cons alen_nil)) rfl) pda_nil)) (pdg_name (i := 7) sc_law_database.nd rfl (by first | exact Or.inl rfl | exact Or.inr rfl)) (pdss_cons (pds_asg (pd_callT ((ok_law_pick G).mono (by decide)) (b_law_pick G) G.F_law_pick.kp G.m_law_pick hr hg tk rfl (pda_cons (pd_var 0) (pda_cons (pd_var 1) pda_nil)) (alen_cons (alen_cons alen_nil)) rfl) (pdg_tup rfl (pdgs_cons (pdg_name (i := 8) sc_law_database.nd rfl (by first | exact Or.inl rfl | exact Or.inr rfl)) (pdgs_cons (pdg_name (i := 9) sc_law_database.nd rfl (by first | exact Or.inl rfl | exact Or.inr rfl)) pdgs_nil))))
    (pdss_cons (pds_set (i := 10) sc_law_database.nd rfl (by first | exact Or.inl rfl | exact Or.inr rfl) (pd_callTy cr_tuple rfl G.b_tuple (by decide +kernel) (pda_cons (pd_lc rfl sc_law_database.nd (pdi_rng1 rfl G.b_range (pda_cons (pd_var 9) pda_nil)) (own := [("j", 11)]) (blkOk_by (by rfl)) (by decide) (fun _ _ _ _ _ => (pp_name sc_law_database.nd rfl (by first | exact Or.inl rfl | exact Or.inr rfl))) (fun _ _ _ _ _ => pdts_nil) (fun _ _ _ _ _ => (pd_callT ((ok_law_pick G).mono (by decide)) (b_law_pick G) G.F_law_pick.kp G.m_law_pick hr hg takes_W0 rfl (pda_cons (pd_var 0) (pda_cons (pd_var 3) pda_nil)) (alen_cons (alen_cons alen_nil)) rfl))) pda_nil)))
    (pdss_one (pds_if (pd_cmpB (op_notIn' hu) (pd_tup (pda_cons (pd_var 8) (pda_cons (pd_var 10) pda_nil))) (pd_lc rfl sc_law_database.nd (pdi_seq (pd_var 6)) (own := [("row", 12)]) (blkOk_by (by rfl)) (by decide) (fun _ _ _ _ _ => (pp_name sc_law_database.nd rfl (by first | exact Or.inl rfl | exact Or.inr rfl))) (fun _ _ _ _ _ => pdts_nil) (fun _ _ _ _ _ => (pd_cut (pd_var 12) (pdo_some pd_int) pdo_none))) (by with_unfolding_all rfl)) (pdss_one (pds_expr (pd_meth PySem.F.plainAttrs_list PySem.F.slot_list_append rfl mr_append (pd_var 6) (pda_cons (pd_tup (pda_cons (pd_ix (pd_var 5) (pd_var 7)) (pda_cons (pd_var 8) (pda_cons (pd_var 10) pda_nil)))) pda_nil)))) pdss_nil)))))
    (pdss_one (pds_ret (pd_var 6)))))))))
theorem b_law_shapes (G : Gs K mg) : Binds K G.fd_law_shapes ["source"] [] := G.F_law_shapes.bindsN fun _ _ _ _ _ _ us hl => match us, hl with | [_], _ => rfl
theorem ok_law_shapes (G : Gs K mg) : FnG P w K mg base 3 (fAd K ("_law_shapes", none)) G.fd_law_shapes ["source"] (g_law_shapes K) := okG (k := 2) G.F_law_shapes sc_law_shapes fun cdv A outer s H E hr hg tk po => by
  have hu := hr.units
  have hu1 : (A.deeper (envOfC "_law_shapes" (defScope s_law_shapes) s.heap.objs.size (fAd K ("_law_shapes", none)) cdv)).units + 1 < cLine := by omega
  exact (pdss_cons (pds_set (i := 1) sc_law_shapes.nd rfl (by first | exact Or.inl rfl | exact Or.inr rfl) (pd_lst (pda_cons (pd_tup (pda_cons pd_str (pda_cons pd_int pda_nil))) (pda_cons (pd_tup (pda_cons pd_str (pda_cons pd_int pda_nil))) (pda_cons (pd_tup (pda_cons pd_str (pda_cons pd_int pda_nil))) (pda_cons (pd_tup (pda_cons (pd_callT ((ok_law_word G).mono (by decide)) (b_law_word G) G.F_law_word.kp G.m_law_word hr hg tk rfl (pda_cons (pd_var 0) (pda_cons pd_int pda_nil)) (alen_cons (alen_cons alen_nil)) rfl) (pda_cons pd_int pda_nil))) (pda_cons (pd_tup (pda_cons pd_str (pda_cons pd_int pda_nil))) pda_nil)))))))
    (pdss_one (pds_ret (pd_cut (pd_callT ((ok_law_shuffle G).mono (by decide)) (b_law_shuffle G) G.F_law_shuffle.kp G.m_law_shuffle hr hg tk rfl (pda_cons (pd_var 0) (pda_cons (pd_var 1) pda_nil)) (alen_cons (alen_cons alen_nil)) rfl) pdo_none (pdo_some (pd_op op_add' pd_int (pd_callT ((ok_law_draw G).mono (by decide)) (b_law_draw G) G.F_law_draw.kp G.m_law_draw hr hg tk rfl (pda_cons (pd_var 0) (pda_cons pd_int pda_nil)) (alen_cons (alen_cons alen_nil)) rfl)))))))
theorem b_law_source (G : Gs K mg) : Binds K G.fd_law_source ["script"] [] := G.F_law_source.bindsN fun _ _ _ _ _ _ us hl => match us, hl with | [_], _ => rfl
theorem ok_law_source (G : Gs K mg) : FnG P w K mg base 1 (fAd K ("_law_source", none)) G.fd_law_source ["script"] (g_law_source K) := okG (k := 0) G.F_law_source sc_law_source fun cdv A outer s H E hr hg tk po => by
  have hu := hr.units
  have hu1 : (A.deeper (envOfC "_law_source" (defScope s_law_source) s.heap.objs.size (fAd K ("_law_source", none)) cdv)).units + 1 < cLine := by omega
  exact (pdss_cons (pds_set (i := 1) sc_law_source.nd rfl (by first | exact Or.inl rfl | exact Or.inr rfl) (pd_cutM (pd_var 0) pdo_none (pdo_some pd_int)))
    (pdss_cons (pds_for po rfl (pdi_rng1 rfl G.b_range (pda_cons (pd_callB cr_len rfl G.b_len (by decide +kernel) (pda_cons (pd_var 1) pda_nil)) pda_nil)) (pdg_name (i := 2) sc_law_source.nd rfl (by first | exact Or.inl rfl | exact Or.inr rfl)) (pdss_one (pds_if (pd_cmpB op_ge' (pd_callB cr_abs rfl G.b_abs (by decide +kernel) (pda_cons (pd_ix (pd_var 1) (pd_var 2)) pda_nil)) (pd_op op_pow' pd_int pd_int) (nomark _)) (pdss_one (pds_asg (pd_op op_mod' (pd_callTy cr_int rfl G.b_int (by decide +kernel) (pda_cons (pd_ix (pd_var 1) (pd_var 2)) pda_nil)) (pd_op op_pow' (pd_op op_pow' pd_int pd_int) pd_int)) (pdg_sub hu1 (pd_var 1) (pd_var 2)))) pdss_nil)))
    (pdss_cons (pds_if (pd_cmpB (op_eq' hu) (pd_var 1) (pd_lst pda_nil) (nomark _)) (pdss_one (pds_set (i := 1) sc_law_source.nd rfl (by first | exact Or.inl rfl | exact Or.inr rfl) (pd_lstM (pda_cons pd_int pda_nil)))) pdss_nil)
    (pdss_one (pds_ret (pd_lstM (pda_cons (pd_var 1) (pda_cons pd_int pda_nil))))))))
theorem b_law (G : Gs K mg) : Binds K G.fd_law ["script"] [] := G.F_law.bindsN fun _ _ _ _ _ _ us hl => match us, hl with | [_], _ => rfl
theorem ok_law (G : Gs K mg) : FnG P w K mg base 7 (fAd K ("law", none)) G.fd_law ["script"] (g_law K) := okG (k := 6) G.F_law sc_law fun cdv A outer s H E hr hg tk po => by
  have hu := hr.units
  have hu1 : (A.deeper (envOfC "law" (defScope s_law) s.heap.objs.size (fAd K ("law", none)) cdv)).units + 1 < cLine := by omega
  exact (pdss_cons (pds_set (i := 1) sc_law.nd rfl (by first | exact Or.inl rfl | exact Or.inr rfl) (pd_callK ((ok_law_source G).mono (by decide)) (b_law_source G) G.F_law_source.kp G.m_law_source hr hg tk rfl (pda_cons (pd_var 0) pda_nil) (alen_cons alen_nil) rfl))
    (pdss_cons (pds_if (pdb_w (pdw_or (pd_cmpB (op_ne' hu) (pd_cconI rfl G.m_Tables G.cc_Tables_MOST_ROWS) pd_int (nomark _)) (pdw_or1 (pd_cmpB (op_ne' hu) (pd_callT ((ok_law_raised G).mono (by decide)) (b_law_raised G) G.F_law_raised.kp G.m_law_raised hr hg tk rfl (pda_cons (pd_makeT G.mk_Tables ((ok_Tables__init G).mono (by decide)) (b_Tables__init G) G.m_Tables hr hg tk rfl (pda_cons (pd_lst pda_nil) pda_nil) (alen_cons alen_nil) rfl) pda_nil) (alen_cons alen_nil) rfl) (pd_tup (pda_cons pd_str pda_nil)) (nomark _))))) (pdss_one (pds_ret pd_bl)) pdss_nil)
    (pdss_cons (pds_for po rfl (pdi_rng1 rfl G.b_range (pda_cons pd_int pda_nil)) (pdg_name (i := 2) sc_law.nd rfl (by first | exact Or.inl rfl | exact Or.inr rfl)) (pdss_cons (pds_set (i := 3) sc_law.nd rfl (by first | exact Or.inl rfl | exact Or.inr rfl) (pd_callT ((ok_law_shapes G).mono (by decide)) (b_law_shapes G) G.F_law_shapes.kp G.m_law_shapes hr hg tk rfl (pda_cons (pd_var 1) pda_nil) (alen_cons alen_nil) rfl))
    (pdss_cons (pds_set (i := 4) sc_law.nd rfl (by first | exact Or.inl rfl | exact Or.inr rfl) (pd_callT ((ok_law_database G).mono (by decide)) (b_law_database G) G.F_law_database.kp G.m_law_database hr hg tk rfl (pda_cons (pd_var 1) (pda_cons (pd_var 3) (pda_cons pd_int pda_nil))) (alen_cons (alen_cons (alen_cons alen_nil))) rfl))
    (pdss_cons (pds_if (pd_cmpB op_gt' (pd_op op_mod' (pd_callTy cr_int rfl G.b_int (by decide +kernel) (pda_cons (pd_var 2) pda_nil)) pd_int) pd_int (nomark _)) (pdss_one (pds_set (i := 4) sc_law.nd rfl (by first | exact Or.inl rfl | exact Or.inr rfl) (pd_callT ((ok_law_changed G).mono (by decide)) (b_law_changed G) G.F_law_changed.kp G.m_law_changed hr hg tk rfl (pda_cons (pd_var 1) (pda_cons (pd_var 3) (pda_cons (pd_var 4) pda_nil))) (alen_cons (alen_cons (alen_cons alen_nil))) rfl))) pdss_nil)
    (pdss_cons (pds_set (i := 5) sc_law.nd rfl (by first | exact Or.inl rfl | exact Or.inr rfl) (pd_callB (cr_reprE hu hg) rfl G.b_repr (by decide +kernel) (pda_cons (pd_var 4) pda_nil)))
    (pdss_cons (pds_if (pdb_w (pdw_or (pd_cmpB (op_ne' hu) (pd_callT ((ok_law_raised G).mono (by decide)) (b_law_raised G) G.F_law_raised.kp G.m_law_raised hr hg tk rfl (pda_cons (pd_var 4) pda_nil) (alen_cons alen_nil) rfl) (pd_callT ((ok_law_expected G).mono (by decide)) (b_law_expected G) G.F_law_expected.kp G.m_law_expected hr hg tk rfl (pda_cons (pd_var 4) pda_nil) (alen_cons alen_nil) rfl) (nomark _)) (pdw_or1 (pd_cmpB (op_ne' hu) (pd_callB (cr_reprE hu hg) rfl G.b_repr (by decide +kernel) (pda_cons (pd_var 4) pda_nil)) (pd_var 5) (nomark _))))) (pdss_one (pds_ret pd_bl)) pdss_nil)
    (pdss_one (pds_if (pdb_w (pdw_and (pd_cmpB op_is' (pd_callT ((ok_law_expected G).mono (by decide)) (b_law_expected G) G.F_law_expected.kp G.m_law_expected hr hg tk rfl (pda_cons (pd_var 4) pda_nil) (alen_cons alen_nil) rfl) pd_non (nomark _)) (pdw_and1 (pdb_not (pd_truth (pd_callT ((ok_law_parts_hold G).mono (by decide)) (b_law_parts_hold G) G.F_law_parts_hold.kp G.m_law_parts_hold hr hg tk rfl (pda_cons (pd_callTy cr_list rfl G.b_list (by decide +kernel) (pda_cons (pd_var 4) pda_nil)) pda_nil) (alen_cons alen_nil) rfl)))))) (pdss_one (pds_ret pd_bl)) pdss_nil))))))))
    (pdss_one (pds_ret pd_bl)))))
/-! ### the head -/
def d_Tables__eq : DefX := ⟨⟨("Tables", some "__eq__"), "__eq__", "Tables.__eq__", defArgs s_Tables__eq, defBody s_Tables__eq, defScope s_Tables__eq, [], []⟩, false⟩
def d_InvalidTables__init : DefX := ⟨⟨("InvalidTables", some "__init__"), "__init__", "InvalidTables.__init__", defArgs s_InvalidTables__init, defBody s_InvalidTables__init, defScope s_InvalidTables__init, [], []⟩, false⟩
def d_is_integer : DefX := ⟨⟨("is_integer", none), "is_integer", "is_integer", defArgs s_is_integer, defBody s_is_integer, defScope s_is_integer, [], []⟩, false⟩
def d_is_name : DefX := ⟨⟨("is_name", none), "is_name", "is_name", defArgs s_is_name, defBody s_is_name, defScope s_is_name, [], []⟩, false⟩
def d_is_row : DefX := ⟨⟨("is_row", none), "is_row", "is_row", defArgs s_is_row, defBody s_is_row, defScope s_is_row, [], []⟩, false⟩
def d_tables_error : DefX := ⟨⟨("tables_error", none), "tables_error", "tables_error", defArgs s_tables_error, defBody s_tables_error, defScope s_tables_error, [], []⟩, false⟩
def d_Tables__init : DefX := ⟨⟨("Tables", some "__init__"), "__init__", "Tables.__init__", defArgs s_Tables__init, defBody s_Tables__init, defScope s_Tables__init, [], []⟩, false⟩
def d_Tables__contains : DefX := ⟨⟨("Tables", some "__contains__"), "__contains__", "Tables.__contains__", defArgs s_Tables__contains, defBody s_Tables__contains, defScope s_Tables__contains, [], []⟩, false⟩
def d_Tables__len : DefX := ⟨⟨("Tables", some "__len__"), "__len__", "Tables.__len__", defArgs s_Tables__len, defBody s_Tables__len, defScope s_Tables__len, [], []⟩, false⟩
def d_Tables_names : DefX := ⟨⟨("Tables", some "names"), "names", "Tables.names", defArgs s_Tables_names, defBody s_Tables_names, defScope s_Tables_names, [], []⟩, true⟩
def d_Tables_rows : DefX := ⟨⟨("Tables", some "rows"), "rows", "Tables.rows", defArgs s_Tables_rows, defBody s_Tables_rows, defScope s_Tables_rows, [], []⟩, true⟩
def d_law_strange : DefX := ⟨⟨("_law_strange", none), "_law_strange", "_law_strange", defArgs s_law_strange, defBody s_law_strange, defScope s_law_strange, [], []⟩, false⟩
def d_law_parts_hold : DefX := ⟨⟨("_law_parts_hold", none), "_law_parts_hold", "_law_parts_hold", defArgs s_law_parts_hold, defBody s_law_parts_hold, defScope s_law_parts_hold, [], []⟩, false⟩
def d_law_is_value : DefX := ⟨⟨("_law_is_value", none), "_law_is_value", "_law_is_value", defArgs s_law_is_value, defBody s_law_is_value, defScope s_law_is_value, [], []⟩, false⟩
def d_law_is_word : DefX := ⟨⟨("_law_is_word", none), "_law_is_word", "_law_is_word", defArgs s_law_is_word, defBody s_law_is_word, defScope s_law_is_word, [], []⟩, false⟩
def d_law_is_row : DefX := ⟨⟨("_law_is_row", none), "_law_is_row", "_law_is_row", defArgs s_law_is_row, defBody s_law_is_row, defScope s_law_is_row, [], []⟩, false⟩
def d_law_expected : DefX := ⟨⟨("_law_expected", none), "_law_expected", "_law_expected", defArgs s_law_expected, defBody s_law_expected, defScope s_law_expected, [], []⟩, false⟩
def d_law_raised : DefX := ⟨⟨("_law_raised", none), "_law_raised", "_law_raised", defArgs s_law_raised, defBody s_law_raised, defScope s_law_raised, [], []⟩, false⟩
def d_law_draw : DefX := ⟨⟨("_law_draw", none), "_law_draw", "_law_draw", defArgs s_law_draw, defBody s_law_draw, defScope s_law_draw, [], []⟩, false⟩
def d_law_pick : DefX := ⟨⟨("_law_pick", none), "_law_pick", "_law_pick", defArgs s_law_pick, defBody s_law_pick, defScope s_law_pick, [], []⟩, false⟩
def d_law_changed : DefX := ⟨⟨("_law_changed", none), "_law_changed", "_law_changed", defArgs s_law_changed, defBody s_law_changed, defScope s_law_changed, [], []⟩, false⟩
def d_law_shuffle : DefX := ⟨⟨("_law_shuffle", none), "_law_shuffle", "_law_shuffle", defArgs s_law_shuffle, defBody s_law_shuffle, defScope s_law_shuffle, [], []⟩, false⟩
def d_law_word : DefX := ⟨⟨("_law_word", none), "_law_word", "_law_word", defArgs s_law_word, defBody s_law_word, defScope s_law_word, [], []⟩, false⟩
def d_law_database : DefX := ⟨⟨("_law_database", none), "_law_database", "_law_database", defArgs s_law_database, defBody s_law_database, defScope s_law_database, [], []⟩, false⟩
def d_law_shapes : DefX := ⟨⟨("_law_shapes", none), "_law_shapes", "_law_shapes", defArgs s_law_shapes, defBody s_law_shapes, defScope s_law_shapes, [], []⟩, false⟩
def d_law_source : DefX := ⟨⟨("_law_source", none), "_law_source", "_law_source", defArgs s_law_source, defBody s_law_source, defScope s_law_source, [], []⟩, false⟩
def d_law : DefX := ⟨⟨("law", none), "law", "law", defArgs s_law, defBody s_law, defScope s_law, [], []⟩, false⟩
def fn : List DefX := [d_Tables__eq, d_InvalidTables__init, d_is_integer, d_is_name, d_is_row, d_tables_error, d_Tables__init, d_Tables__contains, d_Tables__len, d_Tables_names, d_Tables_rows, d_law_strange, d_law_parts_hold, d_law_is_value, d_law_is_word, d_law_is_row, d_law_expected, d_law_raised, d_law_draw, d_law_pick, d_law_changed, d_law_shuffle, d_law_word, d_law_database, d_law_shapes, d_law_source, d_law]
def fb : List (Frag → Bool) := [fun K => (Fa.free "range").ok K,
  fun K => (Fa.cls "Tables").ok K,
  fun K => (Fa.noat "Tables" "held").ok K,
  fun K => (Fa.glo "Tables").ok K,
  fun K => decide (kitOne K (.type "NoneType") (.ref (ga K "Tables")) = some false),
  fun K => decide (kitOne K (.type "bool") (.ref (ga K "Tables")) = some false),
  fun K => decide (kitOne K (.type "int") (.ref (ga K "Tables")) = some false),
  fun K => decide (kitOne K (.type "str") (.ref (ga K "Tables")) = some false),
  fun K => decide (kitOne K (.type "tuple") (.ref (ga K "Tables")) = some false),
  fun K => decide (kitOne K (.type "list") (.ref (ga K "Tables")) = some false),
  fun K => decide (kitOne K (.type "dict") (.ref (ga K "Tables")) = some false),
  fun K => decide (kitOne K (.ref (ga K "InvalidTables")) (.ref (ga K "Tables")) = some false),
  fun K => decide (kitOne K (.ref (ga K "MarkError")) (.ref (ga K "Tables")) = some false),
  fun K => insB K "Tables",
  fun K => excB K (ga K "InvalidTables"),
  fun K => excB K (ga K "MarkError"),
  fun K => (Fa.free "isinstance").ok K,
  fun K => (Fa.free "sorted").ok K,
  fun K => (Fa.free "tuple").ok K,
  fun K => oexB K (ga K "InvalidTables"),
  fun K => eqO (findIn K (.ref (ga K "InvalidTables")) "__init__") (some (some (.ref (fAd K ("InvalidTables", some "__init__"))))),
  fun K => decide (typeIn K (.ref (fAd K ("InvalidTables", some "__init__"))) = some (.type "function")),
  fun K => (Fa.noat "InvalidTables" "reason").ok K,
  fun K => (Fa.glo "InvalidTables").ok K,
  fun K => (Fa.free "enumerate").ok K,
  fun K => (Fa.free "any").ok K,
  fun K => (Fa.free "len").ok K,
  fun K => (Fa.int "MAX_VALUE" (1000000000)).ok K,
  fun K => (Fa.free "bool").ok K,
  fun K => decide (kitOne K (.ref (ga K "Tables")) (.type "bool") = some false),
  fun K => decide (kitOne K (.ref (ga K "InvalidTables")) (.type "bool") = some false),
  fun K => decide (kitOne K (.ref (ga K "MarkError")) (.type "bool") = some false),
  fun K => (Fa.free "int").ok K,
  fun K => decide (kitOne K (.ref (ga K "Tables")) (.type "int") = some false),
  fun K => decide (kitOne K (.ref (ga K "InvalidTables")) (.type "int") = some false),
  fun K => decide (kitOne K (.ref (ga K "MarkError")) (.type "int") = some false),
  fun K => (Fa.glo "is_integer").ok K,
  fun K => (Fa.free "all").ok K,
  fun K => (Fa.int "MAX_PLACES" (3)).ok K,
  fun K => decide (kitOne K (.ref (ga K "Tables")) (.type "tuple") = some false),
  fun K => decide (kitOne K (.ref (ga K "InvalidTables")) (.type "tuple") = some false),
  fun K => decide (kitOne K (.ref (ga K "MarkError")) (.type "tuple") = some false),
  fun K => (Fa.str "LETTERS" "abcdefghijklmnopqrstuvwxyz").ok K,
  fun K => (Fa.int "MAX_NAME" (8)).ok K,
  fun K => (Fa.free "str").ok K,
  fun K => decide (kitOne K (.ref (ga K "Tables")) (.type "str") = some false),
  fun K => decide (kitOne K (.ref (ga K "InvalidTables")) (.type "str") = some false),
  fun K => decide (kitOne K (.ref (ga K "MarkError")) (.type "str") = some false),
  fun K => (Fa.glo "is_name").ok K,
  fun K => (Fa.glo "is_row").ok K,
  fun K => (Fa.free "list").ok K,
  fun K => decide (kitOne K (.ref (ga K "Tables")) (.type "list") = some false),
  fun K => decide (kitOne K (.ref (ga K "InvalidTables")) (.type "list") = some false),
  fun K => decide (kitOne K (.ref (ga K "MarkError")) (.type "list") = some false),
  fun K => ccB K "Tables" "MOST_ROWS" 6,
  fun K => (Fa.glo "tables_error").ok K,
  fun K => (Fa.mkr "Tables").ok K,
  fun K => (Fa.glo "_law_strange").ok K,
  fun K => (Fa.glo "_law_parts_hold").ok K,
  fun K => (Fa.free "abs").ok K,
  fun K => (Fa.glo "_law_is_value").ok K,
  fun K => (Fa.glo "_law_is_word").ok K,
  fun K => (Fa.glo "_law_is_row").ok K,
  fun K => (Fa.glo "_law_expected").ok K,
  fun K => (Fa.free "repr").ok K,
  fun K => (Fa.free "ValueError").ok K,
  fun K => decide (kitOne K (.ref (ga K "Tables")) (.type "ValueError") = some false),
  fun K => decide (kitOne K (.ref (ga K "InvalidTables")) (.type "ValueError") = some true),
  fun K => decide (kitOne K (.ref (ga K "MarkError")) (.type "ValueError") = some true),
  fun K => decide (kitOne K (.type "NoneType") (.ref (ga K "InvalidTables")) = some false),
  fun K => decide (kitOne K (.type "bool") (.ref (ga K "InvalidTables")) = some false),
  fun K => decide (kitOne K (.type "int") (.ref (ga K "InvalidTables")) = some false),
  fun K => decide (kitOne K (.type "str") (.ref (ga K "InvalidTables")) = some false),
  fun K => decide (kitOne K (.type "tuple") (.ref (ga K "InvalidTables")) = some false),
  fun K => decide (kitOne K (.type "list") (.ref (ga K "InvalidTables")) = some false),
  fun K => decide (kitOne K (.type "dict") (.ref (ga K "InvalidTables")) = some false),
  fun K => decide (kitOne K (.ref (ga K "Tables")) (.ref (ga K "InvalidTables")) = some false),
  fun K => decide (kitOne K (.ref (ga K "MarkError")) (.ref (ga K "InvalidTables")) = some false),
  fun K => xfB K (ga K "InvalidTables"),
  fun K => decide (exmOne K (.ref (ga K "InvalidTables")) (.ref (ga K "MarkError")) = some true),
  fun K => decide (exmOne K (.ref (ga K "MarkError")) (.ref (ga K "MarkError")) = some true),
  fun K => (Fa.glo "MarkError").ok K,
  fun K => (Fa.glo "_law_raised").ok K,
  fun K => (Fa.glo "_law_draw").ok K,
  fun K => (Fa.glo "_law_pick").ok K,
  fun K => (Fa.glo "_law_changed").ok K,
  fun K => (Fa.glo "_law_word").ok K,
  fun K => (Fa.glo "_law_shuffle").ok K,
  fun K => (Fa.glo "_law_database").ok K,
  fun K => (Fa.glo "_law_shapes").ok K,
  fun K => (Fa.glo "_law_source").ok K,
  fun K => veiB K (ga K "MarkError"),
  fun K => (Fa.glo "law").ok K,
  fun K => ofB K "Tables" "__eq__",
  fun K => nfB K "Tables" ["Tables"],
  fun K => neB K "Tables",
  fun K => ofB K "Tables" "__contains__",
  fun K => ofB K "Tables" "__len__",
  fun K => prB K "Tables" "names",
  fun K => prB K "Tables" "rows"]
theorem gs {h : Heap} (X : K.In h) (N : h.Ns mainGlobals mg) (c : SaysX fb fn K) : Nonempty (Gs K mg) := by
  obtain ⟨fd0, F0⟩ := c.def_ 0 (x := d_Tables__eq) rfl
  obtain ⟨fd1, F1⟩ := c.def_ 1 (x := d_InvalidTables__init) rfl
  obtain ⟨fd2, F2⟩ := c.def_ 2 (x := d_is_integer) rfl
  obtain ⟨fd3, F3⟩ := c.def_ 3 (x := d_is_name) rfl
  obtain ⟨fd4, F4⟩ := c.def_ 4 (x := d_is_row) rfl
  obtain ⟨fd5, F5⟩ := c.def_ 5 (x := d_tables_error) rfl
  obtain ⟨fd6, F6⟩ := c.def_ 6 (x := d_Tables__init) rfl
  obtain ⟨fd7, F7⟩ := c.def_ 7 (x := d_Tables__contains) rfl
  obtain ⟨fd8, F8⟩ := c.def_ 8 (x := d_Tables__len) rfl
  obtain ⟨fd9, F9⟩ := c.def_ 9 (x := d_Tables_names) rfl
  obtain ⟨fd10, F10⟩ := c.def_ 10 (x := d_Tables_rows) rfl
  obtain ⟨fd11, F11⟩ := c.def_ 11 (x := d_law_strange) rfl
  obtain ⟨fd12, F12⟩ := c.def_ 12 (x := d_law_parts_hold) rfl
  obtain ⟨fd13, F13⟩ := c.def_ 13 (x := d_law_is_value) rfl
  obtain ⟨fd14, F14⟩ := c.def_ 14 (x := d_law_is_word) rfl
  obtain ⟨fd15, F15⟩ := c.def_ 15 (x := d_law_is_row) rfl
  obtain ⟨fd16, F16⟩ := c.def_ 16 (x := d_law_expected) rfl
  obtain ⟨fd17, F17⟩ := c.def_ 17 (x := d_law_raised) rfl
  obtain ⟨fd18, F18⟩ := c.def_ 18 (x := d_law_draw) rfl
  obtain ⟨fd19, F19⟩ := c.def_ 19 (x := d_law_pick) rfl
  obtain ⟨fd20, F20⟩ := c.def_ 20 (x := d_law_changed) rfl
  obtain ⟨fd21, F21⟩ := c.def_ 21 (x := d_law_shuffle) rfl
  obtain ⟨fd22, F22⟩ := c.def_ 22 (x := d_law_word) rfl
  obtain ⟨fd23, F23⟩ := c.def_ 23 (x := d_law_database) rfl
  obtain ⟨fd24, F24⟩ := c.def_ 24 (x := d_law_shapes) rfl
  obtain ⟨fd25, F25⟩ := c.def_ 25 (x := d_law_source) rfl
  obtain ⟨fd26, F26⟩ := c.def_ 26 (x := d_law) rfl
  exact ⟨⟨fd0, fd1, fd2, fd3, fd4, fd5, fd6, fd7, fd8, fd9, fd10, fd11, fd12, fd13, fd14, fd15, fd16, fd17, fd18, fd19, fd20, fd21, fd22, fd23, fd24, fd25, fd26, F0, F1, F2, F3, F4, F5, F6, F7, F8, F9, F10, F11, F12, F13, F14, F15, F16, F17, F18, F19, F20, F21, F22, F23, F24, F25, F26, free_ok X N (c.fact 0),
    cls_ok (c.fact 1),
    eqO_ok (c.fact 2),
    glo_ok X N (c.fact 3),
    insB_ok (c.fact 13),
    excB_ok (c.fact 14),
    excB_ok (c.fact 15),
    free_ok X N (c.fact 16),
    free_ok X N (c.fact 17),
    free_ok X N (c.fact 18),
    oexB_ok (c.fact 19),
    eqO_ok (c.fact 20),
    of_decide_eq_true (c.fact 21),
    eqO_ok (c.fact 22),
    glo_ok X N (c.fact 23),
    free_ok X N (c.fact 24),
    free_ok X N (c.fact 25),
    free_ok X N (c.fact 26),
    int_ok X N (c.fact 27),
    free_ok X N (c.fact 28),
    free_ok X N (c.fact 32),
    glo_ok X N (c.fact 36),
    free_ok X N (c.fact 37),
    int_ok X N (c.fact 38),
    str_ok X N (c.fact 42),
    int_ok X N (c.fact 43),
    free_ok X N (c.fact 44),
    glo_ok X N (c.fact 48),
    glo_ok X N (c.fact 49),
    free_ok X N (c.fact 50),
    ccB_ok (c.fact 54),
    glo_ok X N (c.fact 55),
    mkr_ok (c.fact 56),
    glo_ok X N (c.fact 57),
    glo_ok X N (c.fact 58),
    free_ok X N (c.fact 59),
    glo_ok X N (c.fact 60),
    glo_ok X N (c.fact 61),
    glo_ok X N (c.fact 62),
    glo_ok X N (c.fact 63),
    free_ok X N (c.fact 64),
    free_ok X N (c.fact 65),
    xfB_ok (c.fact 78),
    glo_ok X N (c.fact 81),
    glo_ok X N (c.fact 82),
    glo_ok X N (c.fact 83),
    glo_ok X N (c.fact 84),
    glo_ok X N (c.fact 85),
    glo_ok X N (c.fact 86),
    glo_ok X N (c.fact 87),
    glo_ok X N (c.fact 88),
    glo_ok X N (c.fact 89),
    glo_ok X N (c.fact 90),
    veiB_ok (c.fact 91),
    glo_ok X N (c.fact 92),
    ofB_ok (c.fact 93),
    nfB_ok (c.fact 94),
    neB_ok (c.fact 95),
    ofB_ok (c.fact 96),
    ofB_ok (c.fact 97),
    prB_ok (c.fact 98),
    prB_ok (c.fact 99)⟩⟩
theorem kf (c : SaysX fb fn K) : Kf K := ⟨of_decide_eq_true (c.fact 4), of_decide_eq_true (c.fact 5), of_decide_eq_true (c.fact 6), of_decide_eq_true (c.fact 7), of_decide_eq_true (c.fact 8), of_decide_eq_true (c.fact 9), of_decide_eq_true (c.fact 10), of_decide_eq_true (c.fact 11), of_decide_eq_true (c.fact 12), of_decide_eq_true (c.fact 29), of_decide_eq_true (c.fact 30), of_decide_eq_true (c.fact 31), of_decide_eq_true (c.fact 33), of_decide_eq_true (c.fact 34), of_decide_eq_true (c.fact 35), of_decide_eq_true (c.fact 39), of_decide_eq_true (c.fact 40), of_decide_eq_true (c.fact 41), of_decide_eq_true (c.fact 45), of_decide_eq_true (c.fact 46), of_decide_eq_true (c.fact 47), of_decide_eq_true (c.fact 51), of_decide_eq_true (c.fact 52), of_decide_eq_true (c.fact 53), of_decide_eq_true (c.fact 66), of_decide_eq_true (c.fact 67), of_decide_eq_true (c.fact 68), of_decide_eq_true (c.fact 69), of_decide_eq_true (c.fact 70), of_decide_eq_true (c.fact 71), of_decide_eq_true (c.fact 72), of_decide_eq_true (c.fact 73), of_decide_eq_true (c.fact 74), of_decide_eq_true (c.fact 75), of_decide_eq_true (c.fact 76), of_decide_eq_true (c.fact 77), of_decide_eq_true (c.fact 79), of_decide_eq_true (c.fact 80), trivial⟩
end L2.MK.W_k14
end

end

section
set_option Elab.async false
set_option linter.all false
set_option maxRecDepth 100000
set_option maxHeartbeats 0
set_option autoImplicit false
namespace L2.MK.W_k14
open PySem PySem.Spec PyProof.Rows L2
abbrev Rr : PySem.W.OpenRow := PySem.W.OpenLaw.row PySem.Challenge.rw_marktables_k14_tables_errors
abbrev hk : PySem.W.Hook := hookX 6 fb fn
def ob (s : PySem.W.SharedT) : He.AlD := obsXG 6 fb fn (HandSHeadRun.getT s)
theorem ob_eq (s : PySem.W.SharedT) : ob s = hk.obs s.abs := obsXG_eq (HandSHeadRun.getT_eq s)
def loose : List PySem.Str := [("_wall" : PySem.Str), ("MarkError" : PySem.Str), ("InvalidTables" : PySem.Str), ("LETTERS" : PySem.Str), ("MAX_NAME" : PySem.Str), ("MAX_PLACES" : PySem.Str), ("is_name" : PySem.Str), ("is_integer" : PySem.Str), ("MAX_VALUE" : PySem.Str), ("is_row" : PySem.Str), ("tables_error" : PySem.Str), ("Tables" : PySem.Str), ("_law_source" : PySem.Str), ("_law_draw" : PySem.Str), ("_law_pick" : PySem.Str), ("_law_shuffle" : PySem.Str), ("_law_word" : PySem.Str), ("_law_shapes" : PySem.Str), ("_law_atoms" : PySem.Str), ("_law_variables" : PySem.Str), ("_law_parts" : PySem.Str), ("_law_database" : PySem.Str), ("_law_is_word" : PySem.Str), ("_law_is_value" : PySem.Str), ("_law_is_row" : PySem.Str), ("_law_expected" : PySem.Str), ("_law_raised" : PySem.Str), ("_law_changed" : PySem.Str), ("_law_strange" : PySem.Str), ("_law_parts_hold" : PySem.Str)]
theorem run (w : World) : HandSHeadRun.RunEq Rr (PySem.W.view Rr.prog [34]) hk ob 4000 loose w := by
  intro os
  kernel_rfl
theorem facts {P : Program} {w : World} {K : PySem.W.Frag} {h : Heap} {mg : Str → Option Value} {f : Addr} (X : K.In h) (N : h.Ns mainGlobals mg) (hfa : mg ("law" : Str) = some (.ref f)) (c : SaysX fb fn K) :
    ∃ (fd : FuncData) (g : List D → Ev D), (∀ (s : Shared) (v : Value), BindsTo s fd ⟨[v], []⟩ [("script", v)]) ∧ (∀ ns : List Int, ns.length ≤ 63 → ∃ M, g [.rol (ns.map .int)] [] = .ok (.bl true) M) ∧
      ∀ base : Heap, K.In base → base.Ns mainGlobals mg → FnG P w K mg base 7 f fd ["script"] g := by
  obtain ⟨G⟩ := gs (mg := mg) X N c
  have e := hfa.symm.trans G.m_law
  cases e
  have b := FunD.bindsA (ps := ["script"]) G.F_law fun _ _ _ _ _ _ us hl => match us, hl with | [_], _ => rfl
  exact ⟨G.fd_law, g_law K, fun s v => b s [v] rfl, fun ns _ => law_ok (kf c) ns, fun base _ _ => ok_law G⟩
end L2.MK.W_k14
open PySem PySem.W PySem.Calls PyProof.Rows
theorem PySem.Challenge.cw_marktables_k14_tables_errors_holds : PySem.Challenge.rw_marktables_k14_tables_errors.Holds := by
  w_on; o_law
  refine HandSHeadRun.head_any (r := OpenLaw.row PySem.Challenge.rw_marktables_k14_tables_errors) (q := view (OpenLaw.row PySem.Challenge.rw_marktables_k14_tables_errors).prog [34]) (H := L2.MK.W_k14.hk) (ob := L2.MK.W_k14.ob) (M := 4000) (loose := L2.MK.W_k14.loose) (d := HandSHeadRun.topDef (OpenLaw.row PySem.Challenge.rw_marktables_k14_tables_errors).prog 34) (kwd := []) L2.MK.W_k14.ob_eq
    (by kernel_rfl) (fun s => by kernel_rfl) L2.MK.W_k14.run (by kernel_rfl) (by kernel_rfl) (by kernel_rfl) (by rfl) (by first | assumption | decide +kernel) (by decide +kernel) ⟨rfl, rfl, rfl, rfl, rfl, by decide +kernel⟩ ?hw ?hc
  case hw => w_witness2
  case hc =>
    refine L2.MK.walk_ofG (l := PySem.Challenge.rw_marktables_k14_tables_errors) (n := 63) (k := 7) (x := "script") rfl (by decide) (by kernel_rfl) ⟨rfl, by decide, by decide⟩ ?F
    intro w mg fa h Y N hmg0
    obtain ⟨K, KX, c⟩ := Y
    have hmg : mg ("law" : PySem.Str) = some (.ref fa) := by
      have e : (HandSHeadRun.topDef (OpenLaw.row PySem.Challenge.rw_marktables_k14_tables_errors).prog 34).name = ("law" : PySem.Str) := by kernel_rfl
      rw [← e]
      exact hmg0
    obtain ⟨fd, g, hb, hlaw, hF⟩ := L2.MK.W_k14.facts (P := (PySem.Challenge.rw_marktables_k14_tables_errors).prog) (w := w) KX N hmg c
    exact ⟨K, fd, g, KX, hb, hlaw, hF⟩

end
