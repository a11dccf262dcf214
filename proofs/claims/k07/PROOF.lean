import PyProof.Rows.All
import Wide.All
import OpenK.AllK
import Wide.FinOn
import PySem.Challenge.RW_marktables_k07_union_errors
import HandS.ForMost
import HandS.More
import HandS.Exc
import HandS.ExcInit
import HandS.ExcOwn
import HandS.Defaults
import HandS.Conv
import HandS.Wide
import HandS.HeadHook2
import HandS.Flow
import HandS.TupAny
import HandS.TupMul
import HandS.IsInst
import HandS.WideBits
import HandS.ExcIs
import HandS.ExcField
import KE.DataEq
import KE.DataFind
import KE.SortData
import KE.DataIsa
import HandS.Set
import KE.DataAny
import PyProof.TupleOfSeq
import PyProof.ReprReads
import HandS.ClsMeth
import HandS.SetBool
import HandS.TupSets
import HandS.Comp
import HandS.Iter
import KE.GoesEnum
import HandS.Text
import HandS.SetKeys
import HandS.NoneIn
import HandS.TryOnly
import HandS.Small
import HandS.Zip
import HandS.Ends
import HandS.Property
import HandS.RaiseMore
import HandS.HeadEnd
import HandS.Head2
import HandS.SlotsOwn
import HandS.Style
import HandS.Dict
import KE.KRevSl
import PyProof.ReprDict
import HandS.Star
import HandS.DictComp
import PyProof.DictUpdate
import PyProof.NeKinds
import HandS.Codes
import KE.SortLaws
import KE.LtData
import KE.KStateDown
section
set_option Elab.async false
set_option linter.all false
set_option maxRecDepth 100000
set_option maxHeartbeats 1000000
set_option autoImplicit false
/-! Data by structure, a store of what changes, and readings by functions. -/
namespace L2.MK
open PySem PySem.Spec PyProof.Rows

/-- at a: an exception of the class cls, its dict d -/
def exk (a : Addr) (cls : Value) (d : Option Addr) : HO := .ext fun h => ∃ o vs, h.get? a = some o ∧ o.cls = cls ∧ o.dict = d ∧ o.data = .fields vs
/-- a value, by its structure; ref i: the i-th thing that changes -/
inductive D where
  | non | bl (b : Bool) | int (i : Int) | str (x : Str) | ty (T : String) | cls (C : Str)
  | tup (xs : List D) | lst (xs : List D)
  | rol (xs : List D)
  | dct (ks : List Key) (xs : List D)
  | ref (i : Nat)
  | ins (C : Str) (fs : List (Str × D))
  | exc (C : Str) (fs : List (Str × D))
  deriving Inhabited

/-- what changes -/
inductive MO where
  | lst (xs : List D)
  | dK (kvs : List (Key × D))
  | ins (C : Str) (fs : List (Str × D))
  | opq
  | dead

abbrev Sto := List MO

/-- the abstract heap without what changes -/
def frz (ρ : List (Option Addr)) (H : Hp) : Hp := fun a => if some a ∈ ρ then none else H a
theorem frz_of {ρ : List (Option Addr)} {H : Hp} {a : Addr} {o : HO} (h : frz ρ H a = some o) : some a ∉ ρ ∧ H a = some o := by
  unfold frz at h
  split at h
  · cases h
  · exact ⟨by assumption, h⟩
theorem frz_at {ρ : List (Option Addr)} {H : Hp} {a : Addr} {o : HO} (n : some a ∉ ρ) (h : H a = some o) : frz ρ H a = some o := by
  unfold frz
  rw [if_neg n]
  exact h
theorem frz_same (ρ : List (Option Addr)) (H : Hp) : Same (frz ρ H) H := fun _ _ h => (frz_of h).2

section
variable (K : PySem.W.Frag) (ρ : List (Option Addr)) (Φ : Hp)
mutual
inductive Den : D → V → Prop
  | non : Den .non .non
  | bl (b : Bool) : Den (.bl b) (.bl b)
  | int (i : Int) : Den (.int i) (.int i)
  | str (x : Str) : Den (.str x) (.str x)
  | ty (T : String) : Den (.ty T) (.ty T)
  | cls (C : Str) : Den (.cls C) (.ref (He.ga K C))
  | tup {ds : List D} {a : Addr} {vs : List V} : SqT K Φ a vs → Dens ds vs → Den (.tup ds) (.ref a)
  | lst {ds : List D} {a : Addr} {vs : List V} : Φ a = some (.lst vs) → Dens ds vs → Den (.lst ds) (.ref a)
  | rol {ds : List D} {a : Addr} {vs : List V} : SqL K Φ a vs → Dens ds vs → Den (.rol ds) (.ref a)
  | dct {ks : List Key} {ds : List D} {a : Addr} {vs : List (Key × V)} : Φ a = some (.dK vs) → vs.map (·.1) = ks → Dens ds (vs.map (·.2)) → Den (.dct ks ds) (.ref a)
  | ref {i : Nat} {a : Addr} : ρ[i]? = some (some a) → Den (.ref i) (.ref a)
  | ins {C : Str} {fs : List (Str × D)} {a dx : Addr} {vfs : List (Str × V)} : Φ a = some (.ins (He.ga K C) dx vfs) → Denf fs vfs → Den (.ins C fs) (.ref a)
  | exc {C : Str} {fs : List (Str × D)} {a : Addr} {d : Option Addr} {vfs : List (Str × V)} : Φ a = some (exk a (.ref (He.ga K C)) d) → (∀ dd, d = some dd → Φ dd = some (.xd vfs)) → (d = none → fs = []) → Denf fs vfs → Den (.exc C fs) (.ref a)
inductive Dens : List D → List V → Prop
  | nil : Dens [] []
  | cons {d : D} {v : V} {ds : List D} {vs : List V} : Den d v → Dens ds vs → Dens (d :: ds) (v :: vs)
inductive Denf : List (Str × D) → List (Str × V) → Prop
  | nil : Denf [] []
  | cons {f : Str} {d : D} {v : V} {ds : List (Str × D)} {vs : List (Str × V)} : Den d v → Denf ds vs → Denf ((f, d) :: ds) ((f, v) :: vs)
end
end

theorem same_sqT {K : PySem.W.Frag} {H H' : Hp} {a : Addr} {xs : List V} (e : Same H H') (h : SqT K H a xs) : SqT K H' a xs := by
  rcases h with (h | ⟨o, h⟩) | h
  · exact .inl (.inl (e _ _ h))
  · exact .inl (.inr ⟨o, e _ _ h⟩)
  · exact .inr h

section
variable {K : PySem.W.Frag} {ρ ρ' : List (Option Addr)} {Φ Φ' : Hp}
/-- what was known stays known -/
structure Ext (ρ ρ' : List (Option Addr)) (Φ Φ' : Hp) : Prop where
  refs : ∀ (i : Nat) (a : Addr), ρ[i]? = some (some a) → ρ'[i]? = some (some a)
  same : Same Φ Φ'
mutual
theorem Den.mono (x : Ext ρ ρ' Φ Φ') : ∀ {d : D} {v : V}, Den K ρ Φ d v → Den K ρ' Φ' d v
  | _, _, .non => .non
  | _, _, .bl b => .bl b
  | _, _, .int i => .int i
  | _, _, .str s => .str s
  | _, _, .ty T => .ty T
  | _, _, .cls C => .cls C
  | _, _, .tup h r => .tup (same_sqT x.same h) (Dens.mono x r)
  | _, _, .lst h r => .lst (x.same _ _ h) (Dens.mono x r)
  | _, _, .rol h r => .rol (x.same.seq h) (Dens.mono x r)
  | _, _, .dct h h2 r => .dct (x.same _ _ h) h2 (Dens.mono x r)
  | _, _, .ref h => .ref (x.refs _ _ h)
  | _, _, .ins h r => .ins (x.same _ _ h) (Denf.mono x r)
  | _, _, .exc h1 h2 h3 r => .exc (x.same _ _ h1) (fun dd e => x.same _ _ (h2 dd e)) h3 (Denf.mono x r)
theorem Dens.mono (x : Ext ρ ρ' Φ Φ') : ∀ {ds : List D} {vs : List V}, Dens K ρ Φ ds vs → Dens K ρ' Φ' ds vs
  | _, _, .nil => .nil
  | _, _, .cons h r => .cons (Den.mono x h) (Dens.mono x r)
theorem Denf.mono (x : Ext ρ ρ' Φ Φ') : ∀ {ds : List (Str × D)} {vs : List (Str × V)}, Denf K ρ Φ ds vs → Denf K ρ' Φ' ds vs
  | _, _, .nil => .nil
  | _, _, .cons h r => .cons (Den.mono x h) (Denf.mono x r)
end
theorem Dens.length : ∀ {ds : List D} {vs : List V}, Dens K ρ Φ ds vs → ds.length = vs.length
  | _, _, .nil => rfl
  | _, _, .cons _ r => congrArg (· + 1) (Dens.length r)
theorem Dens.get : ∀ {ds : List D} {vs : List V} {i : Nat} {d : D}, Dens K ρ Φ ds vs → ds[i]? = some d → ∃ v, vs[i]? = some v ∧ Den K ρ Φ d v
  | _, _, _, _, .nil, e => by simp at e
  | _, _, 0, _, .cons h _, e => by simp at e; subst e; exact ⟨_, rfl, h⟩
  | _, _, i + 1, _, .cons _ r, e => by simpa using Dens.get (i := i) r (by simpa using e)
theorem Dens.get' : ∀ {ds : List D} {vs : List V} {i : Nat} {v : V}, Dens K ρ Φ ds vs → vs[i]? = some v → ∃ d, ds[i]? = some d ∧ Den K ρ Φ d v
  | _, _, _, _, .nil, e => by simp at e
  | _, _, 0, _, .cons h _, e => by simp at e; subst e; exact ⟨_, rfl, h⟩
  | _, _, i + 1, _, .cons _ r, e => by simpa using Dens.get' (i := i) r (by simpa using e)
theorem Dens.append : ∀ {ds es : List D} {vs ws : List V}, Dens K ρ Φ ds vs → Dens K ρ Φ es ws → Dens K ρ Φ (ds ++ es) (vs ++ ws)
  | _, _, _, _, .nil, s => s
  | _, _, _, _, .cons h r, s => .cons h (Dens.append r s)
theorem Dens.take : ∀ {ds : List D} {vs : List V} (n : Nat), Dens K ρ Φ ds vs → Dens K ρ Φ (ds.take n) (vs.take n)
  | _, _, 0, _ => .nil
  | _, _, _ + 1, .nil => .nil
  | _, _, n + 1, .cons h r => .cons h (Dens.take n r)
theorem Dens.drop : ∀ {ds : List D} {vs : List V} (n : Nat), Dens K ρ Φ ds vs → Dens K ρ Φ (ds.drop n) (vs.drop n)
  | _, _, 0, h => h
  | _, _, _ + 1, .nil => .nil
  | _, _, n + 1, .cons _ r => Dens.drop n r
theorem Dens.set {d : D} {v : V} (h : Den K ρ Φ d v) : ∀ {ds : List D} {vs : List V} (i : Nat), Dens K ρ Φ ds vs → Dens K ρ Φ (ds.set i d) (vs.set i v)
  | _, _, _, .nil => .nil
  | _, _, 0, .cons _ r => .cons h r
  | _, _, i + 1, .cons q r => .cons q (Dens.set h i r)
theorem Denf.look : ∀ {fs : List (Str × D)} {vs : List (Str × V)} {f : Str} {d : D}, Denf K ρ Φ fs vs → fs.lookup f = some d → ∃ v, vs.lookup f = some v ∧ Den K ρ Φ d v
  | _, _, _, _, .nil, e => by simp at e
  | _, _, f, d, .cons (f := g) h r, e => by
    rw [List.lookup_cons] at e
    rw [List.lookup_cons]
    cases q : f == g with
    | true => rw [q] at e; simp at e; subst e; exact ⟨_, rfl, h⟩
    | false => rw [q] at e; exact Denf.look r (by simpa using e)
theorem Denf.look_none : ∀ {fs : List (Str × D)} {vs : List (Str × V)} {f : Str}, Denf K ρ Φ fs vs → fs.lookup f = none → vs.lookup f = none
  | _, _, _, .nil, _ => rfl
  | _, _, f, .cons (f := g) h r, e => by
    rw [List.lookup_cons] at e
    rw [List.lookup_cons]
    cases q : f == g with
    | true => rw [q] at e; simp at e
    | false => rw [q] at e; exact Denf.look_none r (by simpa using e)
end

/-- attributes stored -/
def putD (f : Str) (v : D) : List (Str × D) → List (Str × D)
  | [] => [(f, v)]
  | (g, x) :: r => if g = f then (g, v) :: r else (g, x) :: putD f v r
theorem Denf.put {K : PySem.W.Frag} {ρ : List (Option Addr)} {Φ : Hp} {f : Str} {d : D} {v : V} (h : Den K ρ Φ d v) : ∀ {fs : List (Str × D)} {vs : List (Str × V)}, Denf K ρ Φ fs vs → Denf K ρ Φ (putD f d fs) (putF f v vs)
  | _, _, .nil => .cons h .nil
  | _, _, .cons (f := g) q r => by
    unfold putD putF
    by_cases e : g = f
    · rw [if_pos e, if_pos e]; exact .cons h r
    · rw [if_neg e, if_neg e]; exact .cons q (Denf.put h r)
theorem Denf.length {K : PySem.W.Frag} {ρ : List (Option Addr)} {Φ : Hp} : ∀ {fs : List (Str × D)} {vs : List (Str × V)}, Denf K ρ Φ fs vs → fs.length = vs.length
  | _, _, .nil => rfl
  | _, _, .cons _ r => congrArg (· + 1) (Denf.length r)

/-- the pairs of a dict -/
def DenK (K : PySem.W.Frag) (ρ : List (Option Addr)) (Φ : Hp) : List (Key × D) → List (Key × V) → Prop
  | [], [] => True
  | (k, d) :: r, (j, v) :: s => k = j ∧ Den K ρ Φ d v ∧ DenK K ρ Φ r s
  | _, _ => False
theorem DenK.mono {K : PySem.W.Frag} {ρ ρ' : List (Option Addr)} {Φ Φ' : Hp} (x : Ext ρ ρ' Φ Φ') : ∀ {ds : List (Key × D)} {vs : List (Key × V)}, DenK K ρ Φ ds vs → DenK K ρ' Φ' ds vs
  | [], [], _ => trivial
  | (_, _) :: _, (_, _) :: _, ⟨a, b, c⟩ => ⟨a, b.mono x, DenK.mono x c⟩
  | [], _ :: _, h => h.elim
  | _ :: _, [], h => h.elim

/-- the store's i-th thing stands at a -/
def MOk (K : PySem.W.Frag) (ρ : List (Option Addr)) (H : Hp) (a : Addr) : MO → Prop
  | .lst ds => ∃ vs, H a = some (.lst vs) ∧ Dens K ρ (frz ρ H) ds vs
  | .dK kvs => ∃ ws, H a = some (.dK ws) ∧ DenK K ρ (frz ρ H) kvs ws
  | .ins C fs => ∃ dx vfs, H a = some (.ins (He.ga K C) dx vfs) ∧ Denf K ρ (frz ρ H) fs vfs
  | .opq => ∃ o, H a = some o
  | .dead => False
structure StOk (K : PySem.W.Frag) (ρ : List (Option Addr)) (M : Sto) (H : Hp) : Prop where
  len : ρ.length = M.length
  inj : ∀ (i j : Nat) (a : Addr), ρ[i]? = some (some a) → ρ[j]? = some (some a) → i = j
  at_ : ∀ (i : Nat) (a : Addr), ρ[i]? = some (some a) → ∃ m, M[i]? = some m ∧ MOk K ρ H a m
  dead : ∀ (i : Nat), ρ[i]? = some none → M[i]? = some .dead
/-- from one state to a later one -/
structure Nx (ρ : List (Option Addr)) (H : Hp) (ρ' : List (Option Addr)) (H' : Hp) : Prop where
  refs : ∀ (i : Nat) (a : Addr), ρ[i]? = some (some a) → ρ'[i]? = some (some a)
  same : Same (frz ρ H) (frz ρ' H')
  len : ρ.length ≤ ρ'.length
  exts : ∀ (a : Addr) (φ : Heap → Prop), some a ∈ ρ → H a = some (.ext φ) → H' a = some (.ext φ)
theorem Nx.refl {ρ : List (Option Addr)} {H : Hp} : Nx ρ H ρ H := ⟨fun _ _ h => h, fun _ _ h => h, Nat.le_refl _, fun _ _ _ h => h⟩
theorem Nx.mem {ρ ρ' : List (Option Addr)} {H H' : Hp} (refs : ∀ (i : Nat) (a : Addr), ρ[i]? = some (some a) → ρ'[i]? = some (some a)) {a : Addr} (h : some a ∈ ρ) : some a ∈ ρ' := by
  obtain ⟨i, hi, e⟩ := List.mem_iff_getElem.mp h
  exact List.mem_of_getElem? (refs i a (by rw [List.getElem?_eq_getElem hi, e]))
theorem Nx.trans {ρ ρ1 ρ2 : List (Option Addr)} {H H1 H2 : Hp} (a : Nx ρ H ρ1 H1) (b : Nx ρ1 H1 ρ2 H2) : Nx ρ H ρ2 H2 := ⟨fun i x h => b.refs i x (a.refs i x h), fun c o h => b.same c o (a.same c o h), Nat.le_trans a.len b.len, fun c φ m h => b.exts c φ (Nx.mem (H := H) (H' := H) a.refs m) (a.exts c φ m h)⟩
theorem Nx.ext {ρ ρ' : List (Option Addr)} {H H' : Hp} (a : Nx ρ H ρ' H') : Ext ρ ρ' (frz ρ H) (frz ρ' H') := ⟨a.refs, a.same⟩

/-- the names -/
abbrev Env := List (Option D)
def DenE (K : PySem.W.Frag) (ρ : List (Option Addr)) (Φ : Hp) : Env → St → Prop
  | [], [] => True
  | none :: r, _ :: s => DenE K ρ Φ r s
  | some d :: r, some v :: s => Den K ρ Φ d v ∧ DenE K ρ Φ r s
  | _, _ => False
section
variable {K : PySem.W.Frag} {ρ ρ' : List (Option Addr)} {Φ Φ' : Hp}
theorem DenE.mono (x : Ext ρ ρ' Φ Φ') : ∀ {δ : Env} {σ : St}, DenE K ρ Φ δ σ → DenE K ρ' Φ' δ σ
  | [], [], _ => trivial
  | none :: r, _ :: s, h => DenE.mono (δ := r) (σ := s) x h
  | some _ :: _, some _ :: _, h => ⟨h.1.mono x, DenE.mono x h.2⟩
  | [], _ :: _, h => h.elim
  | none :: _, [], h => h.elim
  | some _ :: _, none :: _, h => h.elim
  | some _ :: _, [], h => h.elim
theorem DenE.length : ∀ {δ : Env} {σ : St}, DenE K ρ Φ δ σ → δ.length = σ.length
  | [], [], _ => rfl
  | none :: r, _ :: s, h => congrArg (· + 1) (DenE.length (δ := r) (σ := s) h)
  | some _ :: _, some _ :: _, h => congrArg (· + 1) (DenE.length h.2)
  | [], _ :: _, h => h.elim
  | none :: _, [], h => h.elim
  | some _ :: _, none :: _, h => h.elim
  | some _ :: _, [], h => h.elim
theorem DenE.get : ∀ {δ : Env} {σ : St} {i : Nat} {d : D}, DenE K ρ Φ δ σ → δ[i]? = some (some d) → ∃ v, σ[i]? = some (some v) ∧ Den K ρ Φ d v
  | [], _, _, _, _, e => by simp at e
  | none :: _, _ :: _, 0, _, _, e => by simp at e
  | none :: r, _ :: s, i + 1, _, h, e => by simpa using DenE.get (δ := r) (σ := s) (i := i) h (by simpa using e)
  | some _ :: _, some _ :: _, 0, _, h, e => by simp at e; subst e; exact ⟨_, rfl, h.1⟩
  | some _ :: _, some _ :: _, i + 1, _, h, e => by simpa using DenE.get (i := i) h.2 (by simpa using e)
  | none :: _, [], _, _, h, _ => h.elim
  | some _ :: _, none :: _, _, _, h, _ => h.elim
  | some _ :: _, [], _, _, h, _ => h.elim
theorem DenE.set {d : D} {v : V} (q : Den K ρ Φ d v) : ∀ {δ : Env} {σ : St} (i : Nat), DenE K ρ Φ δ σ → DenE K ρ Φ (δ.set i (some d)) (σ.set i (some v))
  | [], [], _, _ => trivial
  | none :: _, _ :: _, 0, h => ⟨q, h⟩
  | none :: r, _ :: s, i + 1, h => DenE.set (δ := r) (σ := s) q i h
  | some _ :: _, some _ :: _, 0, h => ⟨q, h.2⟩
  | some _ :: _, some _ :: _, i + 1, h => ⟨h.1, DenE.set q i h.2⟩
  | [], _ :: _, _, h => h.elim
  | none :: _, [], _, h => h.elim
  | some _ :: _, none :: _, _, h => h.elim
  | some _ :: _, [], _, h => h.elim
theorem DenE.unset : ∀ {δ : Env} {σ : St} (i : Nat), DenE K ρ Φ δ σ → DenE K ρ Φ (δ.set i none) (σ.set i none)
  | [], [], _, _ => trivial
  | none :: _, _ :: _, 0, h => h
  | none :: r, _ :: s, i + 1, h => DenE.unset (δ := r) (σ := s) i h
  | some _ :: _, some _ :: _, 0, h => h.2
  | some _ :: _, some _ :: _, i + 1, h => ⟨h.1, DenE.unset i h.2⟩
  | [], _ :: _, _, h => h.elim
  | none :: _, [], _, h => h.elim
  | some _ :: _, none :: _, _, h => h.elim
  | some _ :: _, [], _, h => h.elim
end
def wipeD (δ : Env) : List Nat → Env
  | [] => δ
  | v :: vs => (wipeD δ vs).set v none
theorem DenE.wipe {K : PySem.W.Frag} {ρ : List (Option Addr)} {Φ : Hp} {δ : Env} {σ : St} (h : DenE K ρ Φ δ σ) : ∀ vs : List Nat, DenE K ρ Φ (wipeD δ vs) (L2.wipe σ vs)
  | [] => h
  | v :: vs => by unfold wipeD L2.wipe; exact DenE.unset v (DenE.wipe h vs)

/-! ### outcomes -/
inductive Out (α : Type) where
  | ok (a : α) (M : Sto)
  | exc (C : Str) (fs : List (Str × D)) (M : Sto)
  | stuck
def Ev (α : Type) := Sto → Out α
def Ev.pure {α : Type} (a : α) : Ev α := fun M => .ok a M
def Ev.bind {α β : Type} (x : Ev α) (f : α → Ev β) : Ev β := fun M => match x M with
  | .ok a M' => f a M'
  | .exc C fs M' => .exc C fs M'
  | .stuck => .stuck
instance : Monad Ev where
  pure := Ev.pure
  bind := Ev.bind
def Ev.fail {α : Type} : Ev α := fun _ => .stuck
def Ev.get {α : Type} (o : Option α) : Ev α := fun M => match o with
  | some a => .ok a M
  | none => .stuck
@[simp] theorem Ev.pure_run {α : Type} (a : α) (M : Sto) : (Pure.pure a : Ev α) M = .ok a M := rfl
theorem Ev.bind_run {α β : Type} (x : Ev α) (f : α → Ev β) (M : Sto) : (x >>= f) M = (match x M with
  | .ok a M' => f a M'
  | .exc C fs M' => .exc C fs M'
  | .stuck => .stuck) := rfl
@[simp] theorem Ev.bind_ok {α β : Type} {x : Ev α} {f : α → Ev β} {M M' : Sto} {a : α} (h : x M = .ok a M') : (x >>= f) M = f a M' := by
  rw [Ev.bind_run, h]
@[simp] theorem Ev.get_some {α : Type} (a : α) (M : Sto) : Ev.get (some a) M = .ok a M := rfl
@[simp] theorem Ev.get_none {α : Type} (M : Sto) : Ev.get (none : Option α) M = .stuck := rfl

/-- the fields of an exception's dict -/
def ExD (K : PySem.W.Frag) (ρ : List (Option Addr)) (Φ : Hp) (fs : List (Str × D)) (d : Option Addr) : Prop :=
  (fs = [] ∧ d = none) ∨ ∃ dd vfs, d = some dd ∧ Φ dd = some (.xd vfs) ∧ Denf K ρ Φ fs vfs
theorem ExD.mono {K : PySem.W.Frag} {ρ ρ' : List (Option Addr)} {Φ Φ' : Hp} {fs : List (Str × D)} {d : Option Addr} (x : Ext ρ ρ' Φ Φ') (h : ExD K ρ Φ fs d) : ExD K ρ' Φ' fs d := by
  rcases h with h | ⟨dd, vfs, e, h, r⟩
  · exact .inl h
  · exact .inr ⟨dd, vfs, e, x.same _ _ h, r.mono x⟩

/-- what is wished behind an expression -/
def Res (K : PySem.W.Frag) (W : Value → Option Addr → Hp → Prop) (ρ : List (Option Addr)) (H : Hp) (Q : VK) : Out D → Prop
  | .ok d M' => ∀ ρ' v H', Nx ρ H ρ' H' → StOk K ρ' M' H' → Den K ρ' (frz ρ' H') d v → Q v H'
  | .exc C fs M' => ∀ ρ' d H', Nx ρ H ρ' H' → StOk K ρ' M' H' → ExD K ρ' (frz ρ' H') fs d → W (.ref (He.ga K C)) d H'
  | .stuck => False
def ResB (K : PySem.W.Frag) (W : Value → Option Addr → Hp → Prop) (ρ : List (Option Addr)) (H : Hp) (Q : Bool → Hp → Prop) : Out Bool → Prop
  | .ok d M' => ∀ ρ' H', Nx ρ H ρ' H' → StOk K ρ' M' H' → Q d H'
  | .exc C fs M' => ∀ ρ' d H', Nx ρ H ρ' H' → StOk K ρ' M' H' → ExD K ρ' (frz ρ' H') fs d → W (.ref (He.ga K C)) d H'
  | .stuck => False
def ResL (K : PySem.W.Frag) (W : Value → Option Addr → Hp → Prop) (ρ : List (Option Addr)) (H : Hp) (Q : List V → Hp → Prop) : Out (List D) → Prop
  | .ok ds M' => ∀ ρ' vs H', Nx ρ H ρ' H' → StOk K ρ' M' H' → Dens K ρ' (frz ρ' H') ds vs → Q vs H'
  | .exc C fs M' => ∀ ρ' d H', Nx ρ H ρ' H' → StOk K ρ' M' H' → ExD K ρ' (frz ρ' H') fs d → W (.ref (He.ga K C)) d H'
  | .stuck => False
abbrev EF := Env → Ev D
abbrev BF := Env → Ev Bool
abbrev AF := Env → Ev (List D)
def rd (K : PySem.W.Frag) (W : WX) (f : EF) : TE := fun σ H Q => ∃ ρ δ M, DenE K ρ (frz ρ H) δ σ ∧ StOk K ρ M H ∧ Res K (fun c d H' => W c d σ H') ρ H Q (f δ M)
def rdB (K : PySem.W.Frag) (W : WX) (f : BF) : TT := fun σ H Q => ∃ ρ δ M, DenE K ρ (frz ρ H) δ σ ∧ StOk K ρ M H ∧ ResB K (fun c d H' => W c d σ H') ρ H Q (f δ M)
def rdA (K : PySem.W.Frag) (W : WX) (f : AF) : TA := fun σ H Q => ∃ ρ δ M, DenE K ρ (frz ρ H) δ σ ∧ StOk K ρ M H ∧ ResL K (fun c d H' => W c d σ H') ρ H Q (f δ M)
/-- how a statement ends -/
inductive SO where
  | nx (δ : Env) (M : Sto)
  | ret (d : D) (M : Sto)
  | exc (C : Str) (fs : List (Str × D)) (δ : Env) (M : Sto)
  | stuck
abbrev SF := Env → Sto → SO
def ResS (K : PySem.W.Frag) (W : WX) (ρ : List (Option Addr)) (H : Hp) (E : Ends) : SO → Prop
  | .nx δ M' => ∀ ρ' σ' H', Nx ρ H ρ' H' → StOk K ρ' M' H' → DenE K ρ' (frz ρ' H') δ σ' → E.nx σ' H'
  | .ret d M' => ∀ ρ' v H', Nx ρ H ρ' H' → StOk K ρ' M' H' → Den K ρ' (frz ρ' H') d v → E.rt v H'
  | .exc C fs δ M' => ∀ ρ' d σ' H', Nx ρ H ρ' H' → StOk K ρ' M' H' → DenE K ρ' (frz ρ' H') δ σ' → ExD K ρ' (frz ρ' H') fs d → W (.ref (He.ga K C)) d σ' H'
  | .stuck => False
def rdS (K : PySem.W.Frag) (W : WX) (f : SF) : TS := fun E σ H => ∃ ρ δ M, DenE K ρ (frz ρ H) δ σ ∧ StOk K ρ M H ∧ ResS K W ρ H E (f δ M)

/-! ### the judgements -/
abbrev PD (X : Cx) (W : WX) (e : Expr) (f : EF) : Prop := PE X e (rd X.K W f)
abbrev PDB (X : Cx) (W : WX) (e : Expr) (f : BF) : Prop := PT X e (rdB X.K W f)
abbrev PDA (X : Cx) (W : WX) (es : List Expr) (f : AF) : Prop := PA X es (rdA X.K W f)
abbrev PDS (X : Cx) (W : WX) (st : Stmt) (f : SF) : Prop := PS X st (rdS X.K W f)
abbrev PDSs (X : Cx) (W : WX) (st : List Stmt) (f : SF) : Prop := PSs X st (rdS X.K W f)

theorem pe_mono {X : Cx} {e : Expr} {t t' : TE} (h : PE X e t) (m : ∀ σ H Q, t' σ H Q → t σ H Q) : PE X e t' := ⟨fun pins s σ H Q I q => h.run pins s σ H Q I (m σ H Q q)⟩
theorem pt_mono {X : Cx} {e : Expr} {t t' : TT} (h : PT X e t) (m : ∀ σ H Q, t' σ H Q → t σ H Q) : PT X e t' := ⟨fun pins s σ H Q I q => h.run pins s σ H Q I (m σ H Q q)⟩
theorem pa_mono {X : Cx} {es : List Expr} {t t' : TA} (h : PA X es t) (m : ∀ σ H Q, t' σ H Q → t σ H Q) : PA X es t' := ⟨fun pos pins s σ H Q I q => h.run pos pins s σ H Q I (m σ H Q q)⟩
theorem ps_mono {X : Cx} {e : Stmt} {t t' : TS} (h : PS X e t) (m : ∀ σ H Q, t' Q σ H → t Q σ H) : PS X e t' := ⟨fun pins s σ H Q I q => h.run pins s σ H Q I (m σ H Q q)⟩
theorem pss_mono {X : Cx} {e : List Stmt} {t t' : TS} (h : PSs X e t) (m : ∀ σ H Q, t' Q σ H → t Q σ H) : PSs X e t' := ⟨fun pins s σ H Q I q => h.run pins s σ H Q I (m σ H Q q)⟩

section
variable {K : PySem.W.Frag} {W : WX} {W' : Value → Option Addr → Hp → Prop} {ρ ρ1 : List (Option Addr)} {H H1 : Hp} {σ : St} {δ : Env} {M M1 : Sto}
theorem Res.nx {Q : VK} {o : Out D} (n : Nx ρ H ρ1 H1) (h : Res K W' ρ H Q o) : Res K W' ρ1 H1 Q o := by
  cases o with
  | ok d M' => exact fun ρ' v H' a b c => h ρ' v H' (n.trans a) b c
  | exc C fs M' => exact fun ρ' d H' a b c => h ρ' d H' (n.trans a) b c
  | stuck => exact h
theorem ResB.nx {Q : Bool → Hp → Prop} {o : Out Bool} (n : Nx ρ H ρ1 H1) (h : ResB K W' ρ H Q o) : ResB K W' ρ1 H1 Q o := by
  cases o with
  | ok d M' => exact fun ρ' H' a b => h ρ' H' (n.trans a) b
  | exc C fs M' => exact fun ρ' d H' a b c => h ρ' d H' (n.trans a) b c
  | stuck => exact h
theorem ResL.nx {Q : List V → Hp → Prop} {o : Out (List D)} (n : Nx ρ H ρ1 H1) (h : ResL K W' ρ H Q o) : ResL K W' ρ1 H1 Q o := by
  cases o with
  | ok d M' => exact fun ρ' v H' a b c => h ρ' v H' (n.trans a) b c
  | exc C fs M' => exact fun ρ' d H' a b c => h ρ' d H' (n.trans a) b c
  | stuck => exact h
theorem ResS.nx {E : Ends} {o : SO} (n : Nx ρ H ρ1 H1) (h : ResS K W ρ H E o) : ResS K W ρ1 H1 E o := by
  cases o with
  | nx δ M' => exact fun ρ' v H' a b c => h ρ' v H' (n.trans a) b c
  | ret d M' => exact fun ρ' v H' a b c => h ρ' v H' (n.trans a) b c
  | exc C fs δ M' => exact fun ρ' d σ H' a b c e => h ρ' d σ H' (n.trans a) b c e
  | stuck => exact h
/-- one expression behind another -/
theorem rd_bind {f : EF} {g : D → Ev D} {Q : VK} (hE : DenE K ρ (frz ρ H) δ σ) (hS : StOk K ρ M H)
    (h : Res K (fun c d H' => W c d σ H') ρ H Q ((f δ >>= g) M)) :
    rd K W f σ H fun x H1 => ∃ ρ1 d M1, Nx ρ H ρ1 H1 ∧ DenE K ρ1 (frz ρ1 H1) δ σ ∧ StOk K ρ1 M1 H1 ∧ Den K ρ1 (frz ρ1 H1) d x ∧ Res K (fun c d H' => W c d σ H') ρ1 H1 Q (g d M1) := by
  refine ⟨ρ, δ, M, hE, hS, ?_⟩
  rw [Ev.bind_run] at h
  cases e : f δ M with
  | ok d M' =>
    rw [e] at h
    exact fun ρ' v H' n s r => ⟨ρ', d, M', n, hE.mono n.ext, s, r, Res.nx n h⟩
  | exc C fs M' =>
    rw [e] at h
    exact fun ρ' d H' n s r => h ρ' d H' n s r
  | stuck => rw [e] at h; exact h
theorem rd_bindB {f : EF} {g : D → Ev Bool} {Q : Bool → Hp → Prop} (hE : DenE K ρ (frz ρ H) δ σ) (hS : StOk K ρ M H)
    (h : ResB K (fun c d H' => W c d σ H') ρ H Q ((f δ >>= g) M)) :
    rd K W f σ H fun x H1 => ∃ ρ1 d M1, Nx ρ H ρ1 H1 ∧ DenE K ρ1 (frz ρ1 H1) δ σ ∧ StOk K ρ1 M1 H1 ∧ Den K ρ1 (frz ρ1 H1) d x ∧ ResB K (fun c d H' => W c d σ H') ρ1 H1 Q (g d M1) := by
  refine ⟨ρ, δ, M, hE, hS, ?_⟩
  rw [Ev.bind_run] at h
  cases e : f δ M with
  | ok d M' =>
    rw [e] at h
    exact fun ρ' v H' n s r => ⟨ρ', d, M', n, hE.mono n.ext, s, r, ResB.nx n h⟩
  | exc C fs M' =>
    rw [e] at h
    exact fun ρ' d H' n s r => h ρ' d H' n s r
  | stuck => rw [e] at h; exact h
theorem rd_bindL {f : EF} {g : D → Ev (List D)} {Q : List V → Hp → Prop} (hE : DenE K ρ (frz ρ H) δ σ) (hS : StOk K ρ M H)
    (h : ResL K (fun c d H' => W c d σ H') ρ H Q ((f δ >>= g) M)) :
    rd K W f σ H fun x H1 => ∃ ρ1 d M1, Nx ρ H ρ1 H1 ∧ DenE K ρ1 (frz ρ1 H1) δ σ ∧ StOk K ρ1 M1 H1 ∧ Den K ρ1 (frz ρ1 H1) d x ∧ ResL K (fun c d H' => W c d σ H') ρ1 H1 Q (g d M1) := by
  refine ⟨ρ, δ, M, hE, hS, ?_⟩
  rw [Ev.bind_run] at h
  cases e : f δ M with
  | ok d M' =>
    rw [e] at h
    exact fun ρ' v H' n s r => ⟨ρ', d, M', n, hE.mono n.ext, s, r, ResL.nx n h⟩
  | exc C fs M' =>
    rw [e] at h
    exact fun ρ' d H' n s r => h ρ' d H' n s r
  | stuck => rw [e] at h; exact h
theorem rdA_bind {f : AF} {g : List D → Ev D} {Q : VK} (hE : DenE K ρ (frz ρ H) δ σ) (hS : StOk K ρ M H)
    (h : Res K (fun c d H' => W c d σ H') ρ H Q ((f δ >>= g) M)) :
    rdA K W f σ H fun xs H1 => ∃ ρ1 ds M1, Nx ρ H ρ1 H1 ∧ DenE K ρ1 (frz ρ1 H1) δ σ ∧ StOk K ρ1 M1 H1 ∧ Dens K ρ1 (frz ρ1 H1) ds xs ∧ Res K (fun c d H' => W c d σ H') ρ1 H1 Q (g ds M1) := by
  refine ⟨ρ, δ, M, hE, hS, ?_⟩
  rw [Ev.bind_run] at h
  cases e : f δ M with
  | ok d M' =>
    rw [e] at h
    exact fun ρ' v H' n s r => ⟨ρ', d, M', n, hE.mono n.ext, s, r, Res.nx n h⟩
  | exc C fs M' =>
    rw [e] at h
    exact fun ρ' d H' n s r => h ρ' d H' n s r
  | stuck => rw [e] at h; exact h
theorem rdB_bind {f : BF} {g : Bool → Ev D} {Q : VK} (hE : DenE K ρ (frz ρ H) δ σ) (hS : StOk K ρ M H)
    (h : Res K (fun c d H' => W c d σ H') ρ H Q ((f δ >>= g) M)) :
    rdB K W f σ H fun b H1 => ∃ ρ1 M1, Nx ρ H ρ1 H1 ∧ DenE K ρ1 (frz ρ1 H1) δ σ ∧ StOk K ρ1 M1 H1 ∧ Res K (fun c d H' => W c d σ H') ρ1 H1 Q (g b M1) := by
  refine ⟨ρ, δ, M, hE, hS, ?_⟩
  rw [Ev.bind_run] at h
  cases e : f δ M with
  | ok d M' =>
    rw [e] at h
    exact fun ρ' H' n s => ⟨ρ', M', n, hE.mono n.ext, s, Res.nx n h⟩
  | exc C fs M' =>
    rw [e] at h
    exact fun ρ' d H' n s r => h ρ' d H' n s r
  | stuck => rw [e] at h; exact h
theorem rdB_bindB {f : BF} {g : Bool → Ev Bool} {Q : Bool → Hp → Prop} (hE : DenE K ρ (frz ρ H) δ σ) (hS : StOk K ρ M H)
    (h : ResB K (fun c d H' => W c d σ H') ρ H Q ((f δ >>= g) M)) :
    rdB K W f σ H fun b H1 => ∃ ρ1 M1, Nx ρ H ρ1 H1 ∧ DenE K ρ1 (frz ρ1 H1) δ σ ∧ StOk K ρ1 M1 H1 ∧ ResB K (fun c d H' => W c d σ H') ρ1 H1 Q (g b M1) := by
  refine ⟨ρ, δ, M, hE, hS, ?_⟩
  rw [Ev.bind_run] at h
  cases e : f δ M with
  | ok d M' =>
    rw [e] at h
    exact fun ρ' H' n s => ⟨ρ', M', n, hE.mono n.ext, s, ResB.nx n h⟩
  | exc C fs M' =>
    rw [e] at h
    exact fun ρ' d H' n s r => h ρ' d H' n s r
  | stuck => rw [e] at h; exact h
end
end L2.MK

end

section
set_option Elab.async false
set_option linter.all false
set_option maxRecDepth 100000
set_option maxHeartbeats 1000000
set_option autoImplicit false
/-! Expressions. -/
namespace L2.MK
open PySem PySem.Spec PyProof.Rows

section
variable {K : PySem.W.Frag} {ρ : List (Option Addr)} {H H' : Hp} {M : Sto} {a p : Addr} {o : HO}
theorem Nx.new (hp : H p = none) : Nx ρ H ρ (upd H p o) := ⟨fun _ _ h => h, fun b u h => by
  obtain ⟨n, e⟩ := frz_of h
  exact frz_at n (by rw [upd_ne (ne_of_none e hp)]; exact e), Nat.le_refl _, fun a φ _ h => by rw [upd_ne (ne_of_none h hp)]; exact h⟩
theorem Nx.of_same (e : Same H H') : Nx ρ H ρ H' := ⟨fun _ _ h => h, fun b u h => by
  obtain ⟨n, q⟩ := frz_of h
  exact frz_at n (e _ _ q), Nat.le_refl _, fun a φ _ h => e _ _ h⟩
theorem same_new (hp : H p = none) : Same H (upd H p o) := fun b u h => by rw [upd_ne (ne_of_none h hp)]; exact h
theorem MOk.same (e : Same H H') {m : MO} (h : MOk K ρ H a m) : MOk K ρ H' a m := by
  have x := (Nx.of_same (ρ := ρ) e).ext
  cases m with
  | lst ds => obtain ⟨vs, h1, h2⟩ := h; exact ⟨vs, e _ _ h1, h2.mono x⟩
  | dK ds => obtain ⟨vs, h1, h2⟩ := h; exact ⟨vs, e _ _ h1, h2.mono x⟩
  | ins C fs => obtain ⟨dx, vs, h1, h2⟩ := h; exact ⟨dx, vs, e _ _ h1, h2.mono x⟩
  | opq => obtain ⟨o, h1⟩ := h; exact ⟨o, e _ _ h1⟩
  | dead => exact h
theorem StOk.same (e : Same H H') (S : StOk K ρ M H) : StOk K ρ M H' := ⟨S.len, S.inj, fun i a h => by
  obtain ⟨m, h1, h2⟩ := S.at_ i a h
  exact ⟨m, h1, h2.same e⟩, S.dead⟩
theorem StOk.new (hp : H p = none) (S : StOk K ρ M H) : StOk K ρ M (upd H p o) := S.same (same_new hp)
theorem MOk.there {m : MO} (h : MOk K ρ H a m) : ∃ o, H a = some o := by
  cases m with
  | lst ds => obtain ⟨vs, h1, _⟩ := h; exact ⟨_, h1⟩
  | dK ds => obtain ⟨vs, h1, _⟩ := h; exact ⟨_, h1⟩
  | ins C fs => obtain ⟨dx, vs, h1, _⟩ := h; exact ⟨_, h1⟩
  | opq => exact h
  | dead => exact h.elim
theorem StOk.notin (S : StOk K ρ M H) (hp : H p = none) : some p ∉ ρ := fun h => by
  obtain ⟨i, hi, e⟩ := List.mem_iff_getElem.mp h
  obtain ⟨m, _, h2⟩ := S.at_ i p (by rw [List.getElem?_eq_getElem hi, e])
  obtain ⟨o, h3⟩ := h2.there
  rw [hp] at h3
  cases h3
end

/-- a result that is at hand -/
theorem Res.here {K : PySem.W.Frag} {W' : Value → Option Addr → Hp → Prop} {ρ : List (Option Addr)} {H : Hp} {Q : VK} {d : D} {M : Sto} {v : V} (h : Res K W' ρ H Q (.ok d M)) (S : StOk K ρ M H) (r : Den K ρ (frz ρ H) d v) : Q v H := h ρ v H Nx.refl S r
/-- a result that is new -/
theorem Res.made {K : PySem.W.Frag} {W' : Value → Option Addr → Hp → Prop} {ρ : List (Option Addr)} {H : Hp} {Q : VK} {d : D} {M : Sto} {p : Addr} {o : HO} (h : Res K W' ρ H Q (.ok d M)) (S : StOk K ρ M H) (hp : H p = none)
    (r : Den K ρ (frz ρ (upd H p o)) d (.ref p)) : Q (.ref p) (upd H p o) := h ρ (.ref p) _ (Nx.new hp) (S.new hp) r

section
variable {X : Cx} {W : WX}
theorem rd_mono {K : PySem.W.Frag} {f : EF} {σ : St} {H : Hp} {Q Q' : VK} (h : rd K W f σ H Q) (m : ∀ v H', Q v H' → Q' v H') : rd K W f σ H Q' := by
  obtain ⟨ρ, δ, M, hE, hS, h⟩ := h
  refine ⟨ρ, δ, M, hE, hS, ?_⟩
  revert h
  generalize f δ M = r
  intro h
  cases r with
  | ok d M' => exact fun ρ' v H' n s r => m _ _ (h ρ' v H' n s r)
  | exc C fs M' => exact h
  | stuck => exact h
theorem rdA_mono {K : PySem.W.Frag} {f : AF} {σ : St} {H : Hp} {Q Q' : List V → Hp → Prop} (h : rdA K W f σ H Q) (m : ∀ v H', Q v H' → Q' v H') : rdA K W f σ H Q' := by
  obtain ⟨ρ, δ, M, hE, hS, h⟩ := h
  refine ⟨ρ, δ, M, hE, hS, ?_⟩
  revert h
  generalize f δ M = r
  intro h
  cases r with
  | ok d M' => exact fun ρ' v H' n s r => m _ _ (h ρ' v H' n s r)
  | exc C fs M' => exact h
  | stuck => exact h
theorem rdB_mono {K : PySem.W.Frag} {f : BF} {σ : St} {H : Hp} {Q Q' : Bool → Hp → Prop} (h : rdB K W f σ H Q) (m : ∀ v H', Q v H' → Q' v H') : rdB K W f σ H Q' := by
  obtain ⟨ρ, δ, M, hE, hS, h⟩ := h
  refine ⟨ρ, δ, M, hE, hS, ?_⟩
  revert h
  generalize f δ M = r
  intro h
  cases r with
  | ok d M' => exact fun ρ' H' n s => m _ _ (h ρ' H' n s)
  | exc C fs M' => exact h
  | stuck => exact h
theorem rdS_mono {K : PySem.W.Frag} {f : SF} {σ : St} {H : Hp} {E E' : Ends} (h : rdS K W f E σ H) (m : ∀ σ' H', E.nx σ' H' → E'.nx σ' H') (mr : ∀ v H', E.rt v H' → E'.rt v H') : rdS K W f E' σ H := by
  obtain ⟨ρ, δ, M, hE, hS, h⟩ := h
  refine ⟨ρ, δ, M, hE, hS, ?_⟩
  revert h
  generalize f δ M = r
  intro h
  cases r with
  | nx d M' => exact fun ρ' v H' n s r => m _ _ (h ρ' v H' n s r)
  | ret d M' => exact fun ρ' v H' n s r => mr _ _ (h ρ' v H' n s r)
  | exc C fs δ M' => exact h
  | stuck => exact h
/-! ### names, constants -/
def eVar (i : Nat) : EF := fun δ => Ev.get (δ[i]?.join)
theorem join_some {δ : Env} {i : Nat} {d : D} (h : δ[i]?.join = some d) : δ[i]? = some (some d) := by
  cases e : δ[i]? with
  | none => rw [e] at h; cases h
  | some o => rw [e] at h; cases o with
    | none => cases h
    | some d' => cases h; rfl
theorem pd_var (i : Nat) {x : Str} {pos : Pos} (hN : X.N[i]? = some x := by rfl) (hv : Vis X.env.scope x := by first | exact Or.inl rfl | exact Or.inr (Or.inl rfl) | exact Or.inr (Or.inr rfl)) (hd : (x == ("__debug__" : Str)) = false := by decide)
    (hcd : (x == ("__classdict__" : Str)) = false := by decide) : PD X W (.Name x pos) (eVar i) := pe_mono (pe_var hN hv hd hcd) fun σ H Q ⟨ρ, δ, M, hE, hS, h⟩ => by
  unfold eVar at h
  cases e : δ[i]?.join with
  | none => rw [e] at h; exact h.elim
  | some d =>
    rw [e] at h
    obtain ⟨v, h1, h2⟩ := hE.get (join_some e)
    exact ⟨v, h1, h.here hS h2⟩
def eC (d : D) : EF := fun _ => Ev.pure d
theorem pd_con {e : Expr} {v : V} {d : D} (h : PE X e (tC v)) (r : ∀ ρ Φ, Den X.K ρ Φ d v) : PD X W e (eC d) := pe_mono h fun σ H Q ⟨ρ, δ, M, hE, hS, q⟩ => Res.here (W' := fun c d H' => W c d σ H') (show Res X.K _ ρ H Q (.ok d M) from q) hS (r _ _)
theorem pd_int {i : Int} {j : Nat} {pos : Pos} : PD X W (.Constant (.int i) j pos) (eC (.int i)) := pd_con pe_int fun _ _ => .int _
theorem pd_bl {b : Bool} {j : Nat} {pos : Pos} : PD X W (.Constant (.bool b) j pos) (eC (.bl b)) := pd_con pe_bl fun _ _ => .bl _
theorem pd_non {j : Nat} {pos : Pos} : PD X W (.Constant .none j pos) (eC .non) := pd_con pe_non fun _ _ => .non
theorem pd_str {x : Str} {j : Nat} {pos : Pos} : PD X W (.Constant (.str x) j pos) (eC (.str x)) := pd_con pe_str fun _ _ => .str _
/-- a constant of the module -/
theorem pd_gint {x : Str} {i : Int} {pos : Pos} (hg : Gl X x) (h : ∃ t, X.mg x = some (.int i t)) (hd : (x == ("__debug__" : Str)) = false := by decide) : PD X W (.Name x pos) (eC (.int i)) := by
  obtain ⟨t, h⟩ := h
  exact pd_con (pe_glob (v := .int i) hg h ⟨t, rfl⟩ hd) fun _ _ => .int _
theorem pd_gstr {x z : Str} {pos : Pos} (hg : Gl X x) (h : ∃ t, X.mg x = some (.str z t)) (hd : (x == ("__debug__" : Str)) = false := by decide) : PD X W (.Name x pos) (eC (.str z)) := by
  obtain ⟨t, h⟩ := h
  exact pd_con (pe_glob (v := .str z) hg h ⟨t, rfl⟩ hd) fun _ _ => .str _
theorem pd_gcls {x : Str} {pos : Pos} (hg : Gl X x) (h : X.mg x = some (.ref (He.ga X.K x))) (hd : (x == ("__debug__" : Str)) = false := by decide) : PD X W (.Name x pos) (eC (.cls x)) := pd_con (pe_glob (v := .ref (He.ga X.K x)) hg h rfl hd) fun _ _ => .cls _
theorem pd_bty {x : Str} {T : String} {pos : Pos} (hg : Gl X x) (hm : X.mg x = none) (hv : bootBuiltins x = some (.type T)) (hn : x ≠ "__name__" := by decide) (hd : (x == ("__debug__" : Str)) = false := by decide) : PD X W (.Name x pos) (eC (.ty T)) := pd_con (pe_bltn (v := .ty T) hg hm hv rfl hn hd) fun _ _ => .ty _

/-! ### two-place operations -/
abbrev OF := D → D → Sto → Option D
def rO (K : PySem.W.Frag) (g : OF) : R2 := fun x y H Q => ∃ ρ M a b d, StOk K ρ M H ∧ Den K ρ (frz ρ H) a x ∧ Den K ρ (frz ρ H) b y ∧ g a b M = some d ∧
  ∀ v H', Nx ρ H ρ H' → StOk K ρ M H' → Den K ρ (frz ρ H') d v → Q v H'
def opt (o : Sto → Option D) : Ev D := fun M => match o M with
  | some d => .ok d M
  | none => .stuck
theorem opt_of {K : PySem.W.Frag} {W' : Value → Option Addr → Hp → Prop} {ρ : List (Option Addr)} {H : Hp} {Q : VK} {o : Sto → Option D} {M : Sto} (h : Res K W' ρ H Q (opt o M)) :
    ∃ d, o M = some d ∧ ∀ v H', Nx ρ H ρ H' → StOk K ρ M H' → Den K ρ (frz ρ H') d v → Q v H' := by
  unfold opt at h
  cases e : o M with
  | none => rw [e] at h; exact h.elim
  | some d => rw [e] at h; exact ⟨d, rfl, fun v H' n s r => h ρ v H' n s r⟩
def eBin (g : OF) (fa fb : EF) : EF := fun δ => fa δ >>= fun x => fb δ >>= fun y => opt (g x y)
theorem bin_of {K : PySem.W.Frag} {g : OF} {fa fb : EF} {σ : St} {H : Hp} {Q : VK} (h : rd K W (eBin g fa fb) σ H Q) : tOp (rO K g) (rd K W fa) (rd K W fb) σ H Q := by
  obtain ⟨ρ, δ, M, hE, hS, h⟩ := h
  exact rd_mono (rd_bind (f := fa) (g := fun x => fb δ >>= fun y => opt (g x y)) hE hS h) fun x H1 ⟨ρ1, d1, M1, n1, e1, s1, r1, h1⟩ =>
    rd_mono (rd_bind (f := fb) (g := fun y => opt (g d1 y)) e1 s1 h1) fun y H2 ⟨ρ2, d2, M2, n2, e2, s2, r2, h2⟩ => by
      obtain ⟨z, ez, hz⟩ := opt_of h2
      exact ⟨ρ2, M2, d1, d2, z, s2, r1.mono n2.ext, r2, ez, hz⟩
theorem pd_op {op : Operator} {g : OF} {a b : Expr} {fa fb : EF} {pos : Pos} (ho : OpR X (binaryOp op) (rO X.K g)) (ha : PD X W a fa) (hb : PD X W b fb) : PD X W (.BinOp a op b pos) (eBin g fa fb) := pe_mono (pe_op ho ha hb) fun _ _ _ h => bin_of h
theorem pd_cmp {op : CmpOp} {g : OF} {a b : Expr} {fa fb : EF} {pos : Pos} (ho : OpR X (compareOp op) (rO X.K g)) (ha : PD X W a fa) (hb : PD X W b fb) (hm : behindInMarks op b = false) : PD X W (.Compare a [op] [b] pos) (eBin g fa fb) := pe_mono (pe_cmpR ho ha hb hm) fun _ _ _ h => bin_of h
/-- its truth, a bool -/
def isBl : D → Ev Bool
  | .bl b => Ev.pure b
  | _ => Ev.fail
def bOf (f : EF) : BF := fun δ => f δ >>= isBl
theorem tst_of {K : PySem.W.Frag} {f : EF} {σ : St} {H : Hp} {Q : Bool → Hp → Prop} (h : rdB K W (bOf f) σ H Q) : tTest (rd K W f) σ H Q := by
  obtain ⟨ρ, δ, M, hE, hS, h⟩ := h
  refine rd_mono (rd_bindB (f := f) (g := isBl) hE hS h) fun x H1 ⟨ρ1, d1, M1, n1, e1, s1, r1, h1⟩ => ?_
  cases r1 with
  | bl b => exact ⟨b, rfl, h1 ρ1 H1 Nx.refl s1⟩
  | _ => exact h1.elim
theorem bin_ofB {K : PySem.W.Frag} {g : OF} {fa fb : EF} {σ : St} {H : Hp} {Q : Bool → Hp → Prop} (h : rdB K W (bOf (eBin g fa fb)) σ H Q) : tTest (tOp (rO K g) (rd K W fa) (rd K W fb)) σ H Q := by
  have q := tst_of h
  unfold tTest at q ⊢
  exact bin_of q
theorem pd_cmpB {op : CmpOp} {g : OF} {a b : Expr} {fa fb : EF} {pos : Pos} (ho : OpR X (compareOp op) (rO X.K g)) (ha : PD X W a fa) (hb : PD X W b fb) (hm : behindInMarks op b = false) : PDB X W (.Compare a [op] [b] pos) (bOf (eBin g fa fb)) := pt_mono (pt_cmpR ho ha hb hm) fun _ _ _ h => bin_ofB h
end
end L2.MK

end

section
set_option Elab.async false
set_option linter.all false
set_option maxRecDepth 100000
set_option maxHeartbeats 4000000
set_option autoImplicit false
/-! t * k where the tuple stays: k is 1, or t is empty. -/
namespace L2.MK
open PySem PySem.Spec PyProof.Rows PySem.W
theorem tuple_mul1 (l : Addr) (items : Array Value) (n : Nat) (dd : Option Addr) (sl : Array (Option Value)) (x : Int) (u : Tok) (c0 : (decide (x < -(2 ^ 63)) || decide (x ≥ 2 ^ 63)) = false) (c1 : (items.isEmpty || x == 1) = true) :
    Meets (Builtin.«tuple.__mul__» ⟨[.ref l, .int x u], []⟩) (fun _ R s => s.heap.get? l = some { cls := .type "tuple", dict := dd, data := .seq items n, slots := sl } ∧ R (.ok (.ret (.ref l))) s) :=
  .of_wp fun prog w A R s h => by
    obtain ⟨hp, g, d, tk, os⟩ := s
    obtain ⟨hl, h⟩ := h
    have f1 := AutoSeq1.idx_int
    wp_walk using wpAny_loadPart' hl
    repeat (first
      | (refine wpAny_ite_false (decide_eq_false (by rw [c0]; exact Bool.false_ne_true)) ?_; wp_walk using wpAny_loadPart' hl)
      | (refine wpAny_ite_true (decide_eq_true c1) ?_; wp_walk using wpAny_loadPart' hl))
    exact ⟨_, rfl, h⟩
def rRep1 (K : PySem.W.Frag) : R2 := fun x y H Q => ∃ l k xs, x = .ref l ∧ y = .int k ∧ SqT K H l xs ∧ (xs = [] ∨ k = 1) ∧ -1000 ≤ k ∧ k ≤ 1000 ∧ Q (.ref l) H
theorem op_rep1 {X : Cx} : OpR X (binaryOp .Mult) (rRep1 X.K) := by
  intro pins s σ H x y v u Q I rx ry h
  obtain ⟨l, k, xs, rfl, rfl, hT, hne, h1, h2, q⟩ := h
  cases rx
  obtain ⟨t, rfl⟩ := ry
  obtain ⟨its, r, ⟨⟨cls, dd, data, sl⟩, ho, hc, n, hd⟩, hs⟩ := I.tuple hT
  simp only at hc hd
  subst hc hd
  have c0 : (decide (k < -(2 ^ 63)) || decide (k ≥ 2 ^ 63)) = false := by
    rw [decide_eq_false (by omega), decide_eq_false (by omega)] <;> rfl
  have c1 : (its.toArray.isEmpty || k == 1) = true := by
    rcases hne with e | e
    · subst e
      cases r
      rfl
    · subst e
      exact Bool.or_true _
  exact wpAny_binaryOp_repeat_ref (T := "tuple") (U := "int") (by decide) ⟨_, ho, rfl⟩ (fun s' => typeIs_int s' k t) noFill_tuple_mul F.fills_int_mul F.slot_int_rmul repeat_tuple F.slot_int_index.lookup
    (call_meets F.slot_int_rmul (typeIs_int s k t) F.entry_int_rmul (F.args_int_rmul_2 _ _) (int_rmul_tuple k t l its.toArray n dd sl)
      ⟨ho, rfl, ⟨_, ho, rfl⟩, call_meets F.slot_tuple_mul ⟨_, ho, rfl⟩ F.entry_tuple_mul (F.args_tuple_mul_2 _ _) (tuple_mul1 l its.toArray n dd sl k t c0 c1) ⟨ho, ⟨.ref l, H, I, rfl, q⟩⟩⟩)
theorem tuple_mul0 (l : Addr) (items : Array Value) (n : Nat) (dd : Option Addr) (sl : Array (Option Value)) (x : Int) (u : Tok) (c0 : (decide (x < -(2 ^ 63)) || decide (x ≥ 2 ^ 63)) = false) (c1 : (items.isEmpty || x == 1) = false) (c2 : (decide (x ≤ 0) || items.isEmpty) = true) :
    Meets (Builtin.«tuple.__mul__» ⟨[.ref l, .int x u], []⟩) (fun _ R s => s.heap.get? l = some { cls := .type "tuple", dict := dd, data := .seq items n, slots := sl } ∧
      R (.ok (.ret (Value.ref s.heap.objs.size))) { s with heap := s.heap.push { cls := Value.type "tuple", data := Data.seq #[] }, toks := s.toks }) :=
  .of_wp fun prog w A R s h => by
    obtain ⟨hp, g, d, tk, os⟩ := s
    obtain ⟨hl, h⟩ := h
    have f1 := AutoSeq1.idx_int
    wp_walk using wpAny_loadPart' hl
    repeat (first
      | (refine wpAny_ite_false (decide_eq_false (by rw [c0]; exact Bool.false_ne_true)) ?_; wp_walk using wpAny_loadPart' hl)
      | (refine wpAny_ite_false (decide_eq_false (by rw [c1]; exact Bool.false_ne_true)) ?_; wp_walk using wpAny_loadPart' hl)
      | (refine wpAny_ite_true (decide_eq_true c2) ?_; wp_walk using wpAny_loadPart' hl))
    exact ⟨_, rfl, h⟩
def rRep0 (K : PySem.W.Frag) : R2 := fun x y H Q => ∃ l k xs, x = .ref l ∧ y = .int k ∧ SqT K H l xs ∧ xs ≠ [] ∧ k ≤ 0 ∧ -1000 ≤ k ∧ ∀ p, H p = none → Q (.ref p) (upd H p (.tup []))
theorem op_rep0 {X : Cx} : OpR X (binaryOp .Mult) (rRep0 X.K) := by
  intro pins s σ H x y v u Q I rx ry h
  obtain ⟨l, k, xs, rfl, rfl, hT, hne, h1, h2, q⟩ := h
  cases rx
  obtain ⟨t, rfl⟩ := ry
  obtain ⟨its, r, ⟨⟨cls, dd, data, sl⟩, ho, hc, n, hd⟩, hs⟩ := I.tuple hT
  simp only at hc hd
  subst hc hd
  have hle : its.length = xs.length := r.length.symm
  have hn : its ≠ [] := fun e => hne (by
    rw [e] at hle
    exact List.eq_nil_of_length_eq_zero hle.symm)
  have hi : its.toArray.isEmpty = false := by
    cases its with
    | nil => exact absurd rfl hn
    | cons a b => rfl
  have c0 : (decide (k < -(2 ^ 63)) || decide (k ≥ 2 ^ 63)) = false := by
    rw [decide_eq_false (by omega), decide_eq_false (by omega)] <;> rfl
  have c1 : (its.toArray.isEmpty || k == 1) = false := by
    rw [hi, Bool.false_or]
    exact beq_eq_false_iff_ne.mpr (by omega)
  have c2 : (decide (k ≤ 0) || its.toArray.isEmpty) = true := by
    rw [hi, Bool.or_false]
    exact decide_eq_true h1
  refine wpAny_binaryOp_repeat_ref (T := "tuple") (U := "int") (by decide) ⟨_, ho, rfl⟩ (fun s' => typeIs_int s' k t) noFill_tuple_mul F.fills_int_mul F.slot_int_rmul repeat_tuple F.slot_int_index.lookup
    (call_meets F.slot_int_rmul (typeIs_int s k t) F.entry_int_rmul (F.args_int_rmul_2 _ _) (int_rmul_tuple k t l its.toArray n dd sl)
      ⟨ho, rfl, ⟨_, ho, rfl⟩, call_meets F.slot_tuple_mul ⟨_, ho, rfl⟩ F.entry_tuple_mul (F.args_tuple_mul_2 _ _) (tuple_mul0 l its.toArray n dd sl k t c0 c1 c2) ⟨ho, ?_⟩⟩)
  refine ⟨.ref s.heap.objs.size, _, I.laid (t' := s.toks) (o := .tup []) (fun b ob q => Heap.get?_push_of_some _ q) (Nat.le_refl _) ?_, rfl, q _ (I.hok.fresh (Nat.le_refl _))⟩
  exact ⟨Nat.zero_le _, [], .nil, IsTup.new _ #[]⟩
end L2.MK

end

section
set_option Elab.async false
set_option linter.all false
set_option maxRecDepth 100000
set_option maxHeartbeats 2000000
set_option autoImplicit false
/-! Exceptions that are kept behind the suite. -/
namespace L2.MK
open PySem PySem.Spec PyProof.Rows

theorem exk_ok {P : Program} {w : World} {H : Hp} {h : Heap} {a : Addr} {cls : Value} {d : Option Addr} {o : Obj} {vs : Array Value} (e : h.get? a = some o) (c : o.cls = cls) (hd : o.dict = d) (hv : o.data = .fields vs) : ObjOk P w H h a (exk a cls d) :=
  ⟨⟨o, vs, e, c, hd, hv⟩, ⟨o, e⟩, fun h1 h2 ⟨o1, v1, e1, r⟩ k => ⟨o1, v1, k _ e1, r⟩⟩
theorem exk_at {P : Program} {w : World} {H : Hp} {h : Heap} {a : Addr} {cls : Value} {d : Option Addr} (hok : HOk P w H h) (e : H a = some (exk a cls d)) : ∃ o vs, h.get? a = some o ∧ o.cls = cls ∧ o.dict = d ∧ o.data = .fields vs := by
  have x : ObjOk P w H h a (.ext fun h => ∃ o vs, h.get? a = some o ∧ o.cls = cls ∧ o.dict = d ∧ o.data = .fields vs) := hok a _ e
  exact x.1
section
variable {X : Cx} {pins : List (Addr × Obj)} {σ : St} {H : Hp} {s : Shared}
/-- a thing that stands is tracked from now on -/
theorem track {a : Addr} {oe : Obj} {vs : Array Value} {cls : Value} {d : Option Addr} (I : Inv X pins σ H s) (he : s.heap.get? a = some oe) (hz : Zc cls d oe) (hd : oe.data = .fields vs) (na : H a = none) {sI : Shared} (h0 : ∀ o, sI.heap.get? a = some o → False) (nL : a ≠ X.env.locals) (nF : a ∉ X.fs)
    (hp : ∀ p ∈ X.pn ++ pins, p.1 ≠ a) (hn : ∀ o, X.s_0.heap.get? a = some o → X.H_0 a = none → False) : Inv X pins σ (upd H a (exk a cls d)) s := by
  have new : ObjOk X.prog X.w (upd H a (exk a cls d)) s.heap a (exk a cls d) := exk_ok he hz.1 hz.2 hd
  have hok : HOk X.prog X.w (upd H a (exk a cls d)) s.heap := fun b u e => by
    by_cases hb : b = a
    · subst hb; rw [upd_same] at e; cases e; exact new
    · rw [upd_ne hb] at e
      exact (I.hok b u e).stay (fun c v _ q => q) (fun c q => by rw [upd_ne (ne_of_none q na)]; exact q) fun c xs q => by rw [upd_ne (ne_of_none q na)]; exact q
  refine ⟨I.ok, I.os, I.bare, ⟨I.base.keep, I.base.slot, fun b o e n hx => ?_, I.base.there, fun b xs q => ?_, fun b o u q => ?_, fun b ps q => ?_⟩, I.loc, I.cell, ?_, fun x c e => ?_, fun p hp' => ?_, hok, I.len⟩
  · by_cases hb : b = a
    · subst hb; exact (hn o e n).elim
    · rw [upd_ne hb]; exact I.base.free b o e n hx
  · have q2 := I.base.tups b xs q
    rw [upd_ne (ne_of_none q2 na)]; exact q2
  · have q2 := I.base.frzs b o u q
    rw [upd_ne (ne_of_none q2 na)]; exact q2
  · obtain ⟨more, q2⟩ := I.base.tbls b ps q
    exact ⟨more, by rw [upd_ne (ne_of_none q2 na)]; exact q2⟩
  · rw [upd_ne (Ne.symm nL)]; exact I.free
  · have q : c ≠ a := fun z => by
      obtain ⟨v, o, ho, hdc⟩ := I.cell x c e
      rw [z, he] at ho
      cases ho
      rw [hd] at hdc
      cases hdc
    rw [upd_ne q]; exact I.freeC x c e
  · obtain ⟨q1, q2, q3⟩ := I.pin p hp'
    exact ⟨q1, by rw [upd_ne (hp p hp')]; exact q2, q3⟩
theorem suite_of {a : Addr} (I : Inv X pins σ H s) : Inv (X.suite a (X.pn ++ pins)) [] σ H s :=
  ⟨I.ok.suite _ _, I.os, I.bare, I.base, I.loc, I.cell, I.free, I.freeC, fun p hp => I.pin p (by rw [List.append_nil] at hp; exact hp), I.hok, I.len⟩
theorem unsuite_of {a : Addr} {pn' : List (Addr × Obj)} (I : Inv (X.suite a (X.pn ++ pins)) pn' σ H s) (ok : X.Ok) : Inv X pins σ H s :=
  ⟨ok, I.os, I.bare, I.base, I.loc, I.cell, I.free, I.freeC, fun p hp => I.pin p (List.mem_append_left _ hp), I.hok, I.len⟩
end
/-- what 'except x as n' wishes of an exception of the body: the exception is tracked -/
def wKeep (K : PySem.W.Frag) (c : Value) (i : Nat) (ts : Addr → Value → Option Addr → TS) (Wout : WX) (D : Ends) : WX := fun cls d σ H =>
  ∃ b, PySem.W.exmOne K cls c = some b ∧ (b = true → ∀ a, H a = none → ts a cls d { nx := fun σ' H' => D.nx (σ'.set i none) H', rt := D.rt, bk := fun σ' H' => D.bk (σ'.set i none) H', ct := fun σ' H' => D.ct (σ'.set i none) H' } (σ.set i (some (.ref a))) (upd H a (exk a cls d))) ∧
    (b = false → Wout cls d σ H)
section
variable {X : Cx} {x n : Str} {c : Value} {i : Nat} {body suite : List Stmt} {b₀ : Stmt} {np pos pos' : Pos} {tb : WX → TS} {ts : Addr → Value → Option Addr → TS} {Wout : WX}
theorem ps_try_keep (hs : X.stack = X.env :: X.outer) (hf : X.env.frame = some X.env.locals) (hN : X.N.Nodup) (hi : X.N[i]? = some n) (hln : X.env.kindOf n = some .local) (hc : Names X x c) (tk : Takes X Wout) (hex : ∀ b o, X.s_0.heap.get? b = some o → X.H_0 b = none → b ∈ X.ex → False)
    (hb : ∀ (W : WX) (pn : List (Addr × Obj)) (xe : Value → Shared → Prop), Takes (X.tr pn xe) W → PassesOwn (model X.prog X.w) X.A X.env xe → PSs (X.tr pn xe) body (tb W))
    (hsu : ∀ (a : Addr) (cls : Value) (d : Option Addr) (pn : List (Addr × Obj)), PSs (X.suite a pn) (b₀ :: suite) (ts a cls d)) :
    PS X (.Try body [.ExceptHandler (some (.Name x np)) (some n) (b₀ :: suite) pos'] [] [] pos) (fun D σ H => tb (wKeep X.K c i ts Wout D) D σ H) := by
  refine ⟨fun pins s σ H D I h => ?_⟩
  have ok := I.ok
  have hfr : X.A.frames = some (X.env :: X.outer) := by rw [ok.frames, hs]
  have hloc : Loc X.env.scope n := .inl hln
  refine wpAny_Try_except ?_
  refine wpAny_mono ((hb (wKeep X.K c i ts Wout D) (X.pn ++ pins) (fun e s₁ => wpAny (model X.prog X.w) X.A (noteFrame e X.env) (fun _ s₂ => wpAny (model X.prog X.w) X.A (setFlight e none) (fun _ s₃ =>
    wpAny (model X.prog X.w) X.A (handleBy e X.env [.ExceptHandler (some (.Name x np)) (some n) (b₀ :: suite) pos']) (SP X pins D) X.xe s₃) X.xe s₂) X.xe s₁) (fun u s' xx => ?_) PassesOwn.looking).run [] s σ H D (I.toTry _) h) (fun f s1 hsp => ?_) (fun e s1 he => he)
  · -- the catch
    obtain ⟨a, B, sI, pins', σ', H', cls, d, rfl, J', nb, up, sky, na, os, ag, b, hb1, hyes, hno⟩ := xx
    have J : Inv X pins σ' H' sI := J'.ofTry ok
    have sky' : Sky B (X.env :: X.outer) a (Zc cls d) X.env.locals s'.heap := by rw [← hs]; exact sky
    show wpAny (model X.prog X.w) X.A (noteFrame (.ref a) X.env) _ _ _
    refine Sky.land Zc.steady hfr hf sky' fun h3 fl3 up3 => ?_
    have J3 : Inv X pins σ' H' { s' with heap := h3 } := J.landed nb fl3.1 (up.trans up3) os ag
    obtain ⟨oe3, vs3, he3, hz3, hd3⟩ := fl3.there
    have notFr : ∀ {h : Heap} {o : Obj} {vs : Array Value}, h.FunFrames B (X.env :: X.outer) → h.get? a = some o → o.data = .fields vs → a ∉ frs (X.env :: X.outer) := fun {h o vs} ff e dd hm => by
      obtain ⟨_, o', e', hnf⟩ := ff.mem hm
      rw [e] at e'; cases e'
      exact hnf _ dd
    have nfr := notFr fl3.2.2.1 he3 hd3
    have nL : a ≠ X.env.locals := fun z => nfr (List.mem_filterMap.mpr ⟨X.env, List.mem_cons_self, by rw [hf, z]⟩)
    have nF : a ∉ X.fs := fun hm => by
      obtain ⟨e, he, q⟩ := List.mem_filterMap.mp hm
      exact nfr (List.mem_filterMap.mpr ⟨e, List.mem_cons_of_mem _ he, q⟩)
    have S3 := J3.suite he3 hd3 na nL nF
    refine wpAny_handleBy_cons (codeAny_handlers_test ?_) (by intro q; cases q)
    have LT : PySem.W.Looks (model X.prog X.w) h3 (typeOf (.ref a)) cls := fun A Q E s k q => wpAny_typeOf_ref (k _ _ he3) (by rw [hz3.1]; exact q)
    have LM := PySem.W.exm_one (M := model X.prog X.w) (J3.kIn) LT hb1
    have test : ∀ {Q : Value → Shared → Prop} {E : Value → Shared → Prop}, Q c { s' with heap := h3 } → wpAny (model X.prog X.w) (X.A.mark (some (.ref a))) (eval (.Name x np) X.env) Q E { s' with heap := h3 } := fun {Q E} q => by
      obtain ⟨hg, hdbg, hm | ⟨hm, hv, hnn⟩⟩ := hc
      · exact ld_glob (X := X.suite a ((a, oe3) :: (X.pn ++ pins))) S3 hg hm q hdbg
      · exact ld_blt (X := X.suite a ((a, oe3) :: (X.pn ++ pins))) S3 hg hm hv q hnn hdbg
    refine test (LM.here ?_)
    cases b with
    | true =>
      refine codeAny_handlers_suite_as ?_
      refine HandSPX.lands_againZ fl3 fun h4 fl4 up4 => ?_
      have J4 : Inv X pins σ' H' { s' with heap := h4 } := J.landed nb fl4.1 ((up.trans up3).trans up4) os ag
      obtain ⟨oe4, vs4, he4, hz4, hd4⟩ := fl4.there
      have notB : ∀ b o, sI.heap.get? b = some o → b ∉ frs X.stack → b ≠ a := fun b o e hb z => by
        have q := nb b o e hb
        rw [z, fl3.2.1] at q; cases q
      have nfrS : a ∉ frs X.stack := by rw [hs]; exact nfr
      have J5 := track J4 he4 hz4 hd4 na (fun o e => notB a o e nfrS rfl) nL nF (fun p hp z => by
        obtain ⟨e1, _, e3, e4, _⟩ := J.pin p hp
        refine notB p.1 p.2 e1 (fun hm => ?_) z
        rw [hs] at hm
        obtain ⟨e, he, q⟩ := List.mem_filterMap.mp hm
        rcases List.mem_cons.mp he with z2 | z2
        · rw [z2, hf] at q; exact e3 (Option.some.inj q).symm
        · exact e4 (List.mem_filterMap.mpr ⟨e, z2, q⟩)) (fun o e n => notB a o (J.base.keep a o e n nF (fun q => hex a o e n q)) nfrS rfl)
      have S4 := suite_of (a := a) J5
      refine store_ok (X := X.suite a (X.pn ++ pins)) (v := .ref a) S4 hN hi hloc rfl (fun s5 S5 => ?_) (.inr hln)
      refine wpAny_mono ((hsu a cls d (X.pn ++ pins)).run [] s5 _ _ _ S5 (hyes rfl a na)) (fun f s6 hsp => ?_) (fun _ _ z => False.elim z)
      have end_ : ∀ {σ6 : St} {H6 : Hp} {Q : Shared → Prop}, Inv (X.suite a (X.pn ++ pins)) [] σ6 H6 s6 → (∀ s7, Inv X pins (σ6.set i none) H6 s7 → Q s7) →
          wpAny (model X.prog X.w) X.A (do bindName X.env n .none; unbindBehindTheSuite X.env n pos') (fun _ s7 => Q s7) X.xe s6 := fun {σ6 H6 Q} S6 hq => gone_ok (unsuite_of S6 ok) hN hi hln hq
      cases f with
      | next =>
        obtain ⟨σ6, H6, S6, q6⟩ := hsp
        exact end_ S6 fun s7 J7 => ⟨_, _, J7, q6⟩
      | brk =>
        obtain ⟨σ6, H6, S6, q6⟩ := hsp
        exact end_ S6 fun s7 J7 => ⟨_, _, J7, q6⟩
      | cont =>
        obtain ⟨σ6, H6, S6, q6⟩ := hsp
        exact end_ S6 fun s7 J7 => ⟨_, _, J7, q6⟩
      | ret u =>
        obtain ⟨v6, σ6, H6, S6, r6, q6⟩ := hsp
        exact end_ S6 fun s7 J7 => ⟨_, _, _, J7, r6, q6⟩
    | false =>
      show wpAny _ X.A (handleBy (.ref a) X.env []) _ _ _
      refine wpAny_handleBy_nil ?_
      obtain ⟨k1, k2, k3, oe, vs, T, oT, ts', he, hz, hd, h1, hr⟩ := id fl3
      unfold PySem.passOn
      refine wpAny_bind (wpAny_field he hd h1 ?_)
      rw [if_neg (show ¬ ((Value.ref T == Value.none) = true) from by simp)]
      have fin : wpAny (model X.prog X.w) X.A (setFlight (.ref a) X.env.frame) (fun _ s4 => wpAny (model X.prog X.w) X.A (throw (.ref a) : Sem Flow) (SP X pins D) X.xe s4) X.xe { s' with heap := h3 } := by
        rw [hf]
        refine HandSPX.setFlight_upZ fl3 fun h4 hh4 up4 => wpAny_throw (tk _ _ ?_)
        exact ⟨a, B, sI, pins, σ', H', cls, d, rfl, J, nb, (up.trans up3).trans up4, .inr (.inr (by rw [hs]; exact hh4)), na, os, ag, hno rfl⟩
      first
        | exact wpAny_bind (wpAny_pure (wpAny_bind fin))
        | exact wpAny_bind fin
  · cases f with
    | next =>
      obtain ⟨σ', H', J', q⟩ := hsp
      exact wpAny_execs_nil ⟨σ', H', J'.ofTry ok, q⟩
    | brk =>
      obtain ⟨σ', H', J', q⟩ := hsp
      exact ⟨σ', H', J'.ofTry ok, q⟩
    | cont =>
      obtain ⟨σ', H', J', q⟩ := hsp
      exact ⟨σ', H', J'.ofTry ok, q⟩
    | ret u =>
      obtain ⟨v, σ', H', J', r, q⟩ := hsp
      exact ⟨v, σ', H', J'.ofTry ok, r, q⟩
end
end L2.MK

end

section
set_option Elab.async false
set_option linter.all false
set_option maxRecDepth 100000
set_option maxHeartbeats 1000000
set_option autoImplicit false
/-! Operations on data. -/
namespace L2.MK
open PySem PySem.Spec PyProof.Rows

mutual
/-- as data -/
def D.py : D → Option PyData
  | .non => some .none
  | .bl b => some (.bool b)
  | .int i => some (.int i)
  | .str x => some (.str x)
  | .tup xs => (D.pys xs).map .tuple
  | .lst xs => (D.pys xs).map .list
  | .rol xs => (D.pys xs).map .list
  | _ => none
def D.pys : List D → Option (List PyData)
  | [] => some []
  | d :: ds => match D.py d, D.pys ds with
    | some p, some ps => some (p :: ps)
    | _, _ => none
end
/-- a list of the store, as a list -/
def vw (M : Sto) : D → D
  | .ref i => match M[i]? with
    | some (.lst xs) => .lst xs
    | _ => .ref i
  | d => d
def lvw (M : Sto) (d : D) : Option (List D) := match vw M d with
  | .lst xs => some xs
  | _ => none
/-- .. lists that are only read, too -/
def rvw (M : Sto) (d : D) : Option (List D) := match vw M d with
  | .lst xs => some xs
  | .rol xs => some xs
  | _ => none

section
variable {K : PySem.W.Frag} {ρ : List (Option Addr)} {H : Hp} {M : Sto} {Φ : Hp}
mutual
theorem den_dp : ∀ {d : D} {v : V} {p : PyData}, Den K ρ Φ d v → d.py = some p → Dp K Φ v p
  | _, _, _, .non, e => by cases e; exact .non
  | _, _, _, .bl b, e => by cases e; exact .bl b
  | _, _, _, .int i, e => by cases e; exact .int i
  | _, _, _, .str x, e => by cases e; exact .str x
  | _, _, _, .ty T, e => by simp [D.py] at e
  | _, _, _, .cls C, e => by simp [D.py] at e
  | _, _, _, .dct h h2 r, e => by simp [D.py] at e
  | _, _, _, .ref h, e => by simp [D.py] at e
  | _, _, _, .ins h r, e => by simp [D.py] at e
  | _, _, _, .exc h h2 h3 r, e => by simp [D.py] at e
  | .tup ds, _, p, .tup h r, e => by
    unfold D.py at e
    cases q : D.pys ds with
    | none => rw [q] at e; cases e
    | some ps => rw [q] at e; cases e; exact .tup h (dens_dp r q)
  | .lst ds, _, p, .lst h r, e => by
    unfold D.py at e
    cases q : D.pys ds with
    | none => rw [q] at e; cases e
    | some ps => rw [q] at e; cases e; exact .lst (.of h) (dens_dp r q)
  | .rol ds, _, p, .rol h r, e => by
    unfold D.py at e
    cases q : D.pys ds with
    | none => rw [q] at e; cases e
    | some ps => rw [q] at e; cases e; exact .lst h (dens_dp r q)
theorem dens_dp : ∀ {ds : List D} {vs : List V} {ps : List PyData}, Dens K ρ Φ ds vs → D.pys ds = some ps → DpAll K Φ vs ps
  | _, _, _, .nil, e => by cases e; exact .nil
  | d :: ds, _, _, .cons h r, e => by
    unfold D.pys at e
    cases q : d.py with
    | none => rw [q] at e; cases e
    | some p =>
      cases q2 : D.pys ds with
      | none => rw [q, q2] at e; cases e
      | some ps => rw [q, q2] at e; cases e; exact .cons (den_dp h q) (dens_dp r q2)
end
mutual
theorem dp_same {Φ' : Hp} (e : Same Φ Φ') : ∀ {v : V} {p : PyData}, Dp K Φ v p → Dp K Φ' v p
  | _, _, .non => .non
  | _, _, .bl b => .bl b
  | _, _, .int i => .int i
  | _, _, .str x => .str x
  | _, _, .lst h r => .lst (e.seq h) (dpAll_same e r)
  | _, _, .tup h r => .tup (same_sqT e h) (dpAll_same e r)
theorem dpAll_same {Φ' : Hp} (e : Same Φ Φ') : ∀ {vs : List V} {ps : List PyData}, DpAll K Φ vs ps → DpAll K Φ' vs ps
  | _, _, .nil => .nil
  | _, _, .cons h r => .cons (dp_same e h) (dpAll_same e r)
end
/-- what a value is, read in full -/
inductive Seen (K : PySem.W.Frag) (ρ : List (Option Addr)) (H : Hp) : D → V → Prop
  | den {d : D} {v : V} : Den K ρ (frz ρ H) d v → Seen K ρ H d v
  | lst {ds : List D} {a : Addr} {vs : List V} : H a = some (.lst vs) → Dens K ρ (frz ρ H) ds vs → Seen K ρ H (.lst ds) (.ref a)
theorem seen_of (S : StOk K ρ M H) {d : D} {v : V} (r : Den K ρ (frz ρ H) d v) : Seen K ρ H (vw M d) v := by
  cases r with
  | @ref i a h =>
    obtain ⟨m, h1, h2⟩ := S.at_ i a h
    have e : vw M (.ref i) = (match M[i]? with
      | some (.lst xs) => .lst xs
      | _ => .ref i) := rfl
    rw [e, h1]
    cases m with
    | lst ds => obtain ⟨vs, h3, h4⟩ := h2; exact .lst h3 h4
    | dK kvs => exact .den (.ref h)
    | ins C fs => exact .den (.ref h)
    | opq => exact .den (.ref h)
    | dead => exact h2.elim
  | non => exact .den .non
  | bl b => exact .den (.bl b)
  | int i => exact .den (.int i)
  | str i => exact .den (.str i)
  | ty i => exact .den (.ty i)
  | cls i => exact .den (.cls i)
  | tup h r => exact .den (.tup h r)
  | lst h r => exact .den (.lst h r)
  | rol h r => exact .den (.rol h r)
  | dct h h2 r => exact .den (.dct h h2 r)
  | ins h r => exact .den (.ins h r)
  | exc h h2 h3 r => exact .den (.exc h h2 h3 r)
theorem Seen.dp {d : D} {v : V} {p : PyData} (s : Seen K ρ H d v) (e : d.py = some p) : Dp K H v p := by
  cases s with
  | den r => exact dp_same (frz_same ρ H) (den_dp r e)
  | @lst ds a vs h r =>
    unfold D.py at e
    cases q : D.pys ds with
    | none => rw [q] at e; cases e
    | some ps => rw [q] at e; cases e; exact .lst (.of h) (dpAll_same (frz_same ρ H) (dens_dp r q))
theorem lvw_of (S : StOk K ρ M H) {d : D} {v : V} {xs : List D} (r : Den K ρ (frz ρ H) d v) (e : lvw M d = some xs) : ∃ a vs, v = .ref a ∧ H a = some (.lst vs) ∧ Dens K ρ (frz ρ H) xs vs := by
  have s := seen_of S r
  unfold lvw at e
  cases q : vw M d <;> rw [q] at e <;> first | cases e | skip
  rw [q] at s
  cases s with
  | den z =>
    cases z with
    | lst h z2 => exact ⟨_, _, rfl, (frz_of h).2, z2⟩
  | lst h z2 => exact ⟨_, _, rfl, h, z2⟩
theorem rvw_of (S : StOk K ρ M H) {d : D} {v : V} {xs : List D} (r : Den K ρ (frz ρ H) d v) (e : rvw M d = some xs) : ∃ a vs, v = .ref a ∧ SqL K H a vs ∧ Dens K ρ (frz ρ H) xs vs := by
  have s := seen_of S r
  unfold rvw at e
  cases q : vw M d <;> rw [q] at e <;> first | cases e | skip
  all_goals rw [q] at s
  · cases s with
    | den z =>
      cases z with
      | lst h z2 => exact ⟨_, _, rfl, .of (frz_of h).2, z2⟩
    | lst h z2 => exact ⟨_, _, rfl, .of h, z2⟩
  · cases s with
    | den z =>
      cases z with
      | rol h z2 => exact ⟨_, _, rfl, (frz_same ρ H).seq h, z2⟩
end

theorem OpR.imp {X : Cx} {f : Value → Value → Sem Value} {r r' : R2} (h : OpR X f r) (m : ∀ x y H Q, r' x y H Q → r x y H Q) : OpR X f r' := fun pins s σ H x y v u Q I rx ry q => h pins s σ H x y v u Q I rx ry (m x y H Q q)
theorem CallR.imp {X : Cx} {f : Value} {r r' : List V → Hp → VK → Prop} (h : CallR X f r) (m : ∀ x H Q, r' x H Q → r x H Q) : CallR X f r' := fun pins s σ H x v Q I rx q => h pins s σ H x v Q I rx (m x H Q q)
theorem MtR.imp {X : Cx} {id : String} {r r' : V → List V → Hp → VK → Prop} (h : MtR X id r) (m : ∀ x xs H Q, r' x xs H Q → r x xs H Q) : MtR X id r' := fun pins s σ H x xs v us Q I rx rs q => h pins s σ H x xs v us Q I rx rs (m x xs H Q q)

/-! ### == and != -/
def eqD : D → D → Sto → Option Bool := fun x y M => match (vw M x).py, (vw M y).py with
  | some p, some q => if p.plain = true ∧ q.plain = true ∧ min p.depth q.depth ≤ 60 then some (PyData.eqv p q) else none
  | _, _ => none
def oEq : OF := fun x y M => (eqD x y M).map .bl
def oNe : OF := fun x y M => (eqD x y M).map fun b => .bl (!b)
section
variable {X : Cx}
theorem eqD_of {K : PySem.W.Frag} {ρ : List (Option Addr)} {H : Hp} {M : Sto} {a b : D} {x y : V} {k : Bool} (S : StOk K ρ M H) (ra : Den K ρ (frz ρ H) a x) (rb : Den K ρ (frz ρ H) b y) (e : eqD a b M = some k) :
    ∃ p q, Dp K H x p ∧ Dp K H y q ∧ p.plain = true ∧ q.plain = true ∧ min p.depth q.depth ≤ 60 ∧ k = PyData.eqv p q := by
  unfold eqD at e
  cases e1 : (vw M a).py with
  | none => rw [e1] at e; cases e
  | some p =>
    cases e2 : (vw M b).py with
    | none => rw [e1, e2] at e; cases e
    | some q =>
      rw [e1, e2] at e
      simp only at e
      split at e
      · rename_i h
        cases e
        exact ⟨p, q, (seen_of S ra).dp e1, (seen_of S rb).dp e2, h.1, h.2.1, h.2.2, rfl⟩
      · cases e
theorem op_eq' (hu : X.A.units + 64 < cLine) : OpR X (compareOp .Eq) (rO X.K oEq) := by
  intro pins s σ H x y v u Q I rx ry h
  obtain ⟨ρ, M, a, b, d, S, ra, rb, e, q⟩ := h
  unfold oEq at e
  cases ek : eqD a b M with
  | none => rw [ek] at e; cases e
  | some k =>
    rw [ek] at e
    cases e
    obtain ⟨p, p', h1, h2, h3, h4, h5, rfl⟩ := eqD_of S ra rb ek
    obtain ⟨as, r1⟩ := Dp.reads I p x v h1 rx
    obtain ⟨bs, r2⟩ := Dp.reads I p' y u h2 ry
    exact SeqAt.eq_plain r1 r2 h3 h4 (by omega) ⟨.bl _, H, I, rfl, q _ H Nx.refl S (.bl _)⟩
theorem op_ne' (hu : X.A.units + 64 < cLine) : OpR X (compareOp .NotEq) (rO X.K oNe) := by
  intro pins s σ H x y v u Q I rx ry h
  obtain ⟨ρ, M, a, b, d, S, ra, rb, e, q⟩ := h
  unfold oNe at e
  cases ek : eqD a b M with
  | none => rw [ek] at e; cases e
  | some k =>
    rw [ek] at e
    cases e
    obtain ⟨p, p', h1, h2, h3, h4, h5, rfl⟩ := eqD_of S ra rb ek
    obtain ⟨as, r1⟩ := Dp.reads I p x v h1 rx
    obtain ⟨bs, r2⟩ := Dp.reads I p' y u h2 ry
    exact SeqAt.ne_plain r1 r2 h3 h4 (by omega) ⟨.bl _, H, I, rfl, q _ H Nx.refl S (.bl _)⟩

/-! ### in, not in -/
def inD : D → D → Sto → Option Bool := fun x y M => match x, y with
  | .str a, .str b => some (!(Builtin.Str.occurrences b a 0 b.length 1).isEmpty)
  | x, y => match (vw M x).py, (vw M y).py with
    | some p, some (.list qs) => if p.plain = true ∧ PyData.plainAll qs = true ∧ p.depth ≤ 60 then some (qs.any fun q => PyData.eqv q p) else none
    | some p, some (.tuple qs) => if p.plain = true ∧ PyData.plainAll qs = true ∧ p.depth ≤ 60 then some (qs.any fun q => PyData.eqv q p) else none
    | _, _ => none
def oIn : OF := fun x y M => (inD x y M).map .bl
def oNotIn : OF := fun x y M => (inD x y M).map fun b => .bl (!b)
theorem inD_of {K : PySem.W.Frag} {ρ : List (Option Addr)} {H : Hp} {M : Sto} {a b : D} {x y : V} {k : Bool} (S : StOk K ρ M H) (ra : Den K ρ (frz ρ H) a x) (rb : Den K ρ (frz ρ H) b y) (e : inD a b M = some k) :
    (∃ i j, x = .str i ∧ y = .str j ∧ k = !(Builtin.Str.occurrences j i 0 j.length 1).isEmpty) ∨
    ∃ p qs, Dp K H x p ∧ (Dp K H y (.list qs) ∨ Dp K H y (.tuple qs)) ∧ p.plain = true ∧ PyData.plainAll qs = true ∧ p.depth ≤ 60 ∧ k = qs.any fun q => PyData.eqv q p := by
  have main : (match (vw M a).py, (vw M b).py with
    | some p, some (.list qs) => if p.plain = true ∧ PyData.plainAll qs = true ∧ p.depth ≤ 60 then some (qs.any fun q => PyData.eqv q p) else none
    | some p, some (.tuple qs) => if p.plain = true ∧ PyData.plainAll qs = true ∧ p.depth ≤ 60 then some (qs.any fun q => PyData.eqv q p) else none
    | _, _ => none) = some k → ∃ p qs, Dp K H x p ∧ (Dp K H y (.list qs) ∨ Dp K H y (.tuple qs)) ∧ p.plain = true ∧ PyData.plainAll qs = true ∧ p.depth ≤ 60 ∧ k = qs.any fun q => PyData.eqv q p := by
    intro e
    cases e1 : (vw M a).py with
    | none => rw [e1] at e; simp at e
    | some p =>
      cases e2 : (vw M b).py with
      | none => rw [e1, e2] at e; simp at e
      | some q =>
        rw [e1, e2] at e
        cases q with
        | list qs =>
          simp only at e
          split at e
          · rename_i h
            cases e
            exact ⟨p, qs, (seen_of S ra).dp e1, .inl ((seen_of S rb).dp e2), h.1, h.2.1, h.2.2, rfl⟩
          · cases e
        | tuple qs =>
          simp only at e
          split at e
          · rename_i h
            cases e
            exact ⟨p, qs, (seen_of S ra).dp e1, .inr ((seen_of S rb).dp e2), h.1, h.2.1, h.2.2, rfl⟩
          · cases e
        | _ => simp at e
  unfold inD at e
  split at e
  · cases e
    cases ra
    cases rb
    exact .inl ⟨_, _, rfl, rfl, rfl⟩
  · exact .inr (main e)
theorem op_in' (hu : X.A.units + 64 < cLine) : OpR X (compareOp .In) (rO X.K oIn) := by
  intro pins s σ H x y v u Q I rx ry h
  obtain ⟨ρ, M, a, b, d, S, ra, rb, e, q⟩ := h
  unfold oIn at e
  cases ek : inD a b M with
  | none => rw [ek] at e; cases e
  | some k =>
    rw [ek] at e
    cases e
    rcases inD_of S ra rb ek with ⟨i, j, rfl, rfl, rfl⟩ | ⟨p, qs, h1, h2, h3, h4, h5, rfl⟩
    · exact op_in_str pins s σ H _ _ v u Q I rx ry ⟨i, j, rfl, rfl, q _ H Nx.refl S (.bl _)⟩
    · obtain ⟨as, r1⟩ := Dp.reads I p x v h1 rx
      rcases h2 with h2 | h2
      · obtain ⟨bs, r2⟩ := Dp.reads I _ y u h2 ry
        exact SeqAt.in_list_data r2 r1 h4 h3 (by omega) ⟨.bl _, H, I, rfl, q _ H Nx.refl S (.bl _)⟩
      · obtain ⟨bs, r2⟩ := Dp.reads I _ y u h2 ry
        exact SeqAt.in_tuple_data r2 r1 h4 h3 (by omega) ⟨.bl _, H, I, rfl, q _ H Nx.refl S (.bl _)⟩
theorem op_notIn' (hu : X.A.units + 64 < cLine) : OpR X (compareOp .NotIn) (rO X.K oNotIn) := by
  intro pins s σ H x y v u Q I rx ry h
  obtain ⟨ρ, M, a, b, d, S, ra, rb, e, q⟩ := h
  unfold oNotIn at e
  cases ek : inD a b M with
  | none => rw [ek] at e; cases e
  | some k =>
    rw [ek] at e
    cases e
    rcases inD_of S ra rb ek with ⟨i, j, rfl, rfl, rfl⟩ | ⟨p, qs, h1, h2, h3, h4, h5, rfl⟩
    · exact op_notin_str pins s σ H _ _ v u Q I rx ry ⟨i, j, rfl, rfl, q _ H Nx.refl S (.bl _)⟩
    · obtain ⟨as, r1⟩ := Dp.reads I p x v h1 rx
      rcases h2 with h2 | h2
      · obtain ⟨bs, r2⟩ := Dp.reads I _ y u h2 ry
        exact SeqAt.notIn_list_data r2 r1 h4 h3 (by omega) ⟨.bl _, H, I, rfl, q _ H Nx.refl S (.bl _)⟩
      · obtain ⟨bs, r2⟩ := Dp.reads I _ y u h2 ry
        exact SeqAt.notIn_tuple_data r2 r1 h4 h3 (by omega) ⟨.bl _, H, I, rfl, q _ H Nx.refl S (.bl _)⟩

/-! ### < and its kin, of ints; is None -/
def oLt : OF := fun x y _ => match x, y with
  | .int i, .int j => some (.bl (decide (i < j)))
  | _, _ => none
def oLe : OF := fun x y _ => match x, y with
  | .int i, .int j => some (.bl (decide (i ≤ j)))
  | _, _ => none
def oGt : OF := fun x y _ => match x, y with
  | .int i, .int j => some (.bl (decide (j < i)))
  | _, _ => none
def oGe : OF := fun x y _ => match x, y with
  | .int i, .int j => some (.bl (decide (j ≤ i)))
  | _, _ => none
theorem of_int2 {K : PySem.W.Frag} {g : OF} {f : Int → Int → Bool} (hg : ∀ x y M d, g x y M = some d → ∃ i j, x = .int i ∧ y = .int j ∧ d = .bl (f i j)) {x y : V} {H : Hp} {Q : VK} (h : rO K g x y H Q) : rI0 (fun i j => .bl (f i j)) x y H Q := by
  obtain ⟨ρ, M, a, b, d, S, ra, rb, e, q⟩ := h
  obtain ⟨i, j, rfl, rfl, rfl⟩ := hg a b M d e
  cases ra
  cases rb
  exact ⟨i, j, rfl, rfl, q _ H Nx.refl S (.bl _)⟩
theorem op_lt' : OpR X (compareOp .Lt) (rO X.K oLt) := OpR.imp op_lt fun _ _ _ _ h => of_int2 (fun x y M d e => by unfold oLt at e; split at e <;> first | (cases e; exact ⟨_, _, rfl, rfl, rfl⟩) | cases e) h
theorem op_le' : OpR X (compareOp .LtE) (rO X.K oLe) := OpR.imp op_le fun _ _ _ _ h => of_int2 (fun x y M d e => by unfold oLe at e; split at e <;> first | (cases e; exact ⟨_, _, rfl, rfl, rfl⟩) | cases e) h
theorem op_gt' : OpR X (compareOp .Gt) (rO X.K oGt) := OpR.imp op_gt fun _ _ _ _ h => of_int2 (fun x y M d e => by unfold oGt at e; split at e <;> first | (cases e; exact ⟨_, _, rfl, rfl, rfl⟩) | cases e) h
theorem op_ge' : OpR X (compareOp .GtE) (rO X.K oGe) := OpR.imp op_ge fun _ _ _ _ h => of_int2 (fun x y M d e => by unfold oGe at e; split at e <;> first | (cases e; exact ⟨_, _, rfl, rfl, rfl⟩) | cases e) h
def isNon : D → Bool
  | .non => true
  | _ => false
def oIs : OF := fun x y _ => match y with
  | .non => some (.bl (isNon x))
  | _ => none
def oIsNot : OF := fun x y _ => match y with
  | .non => some (.bl (!isNon x))
  | _ => none
theorem isNon_of {K : PySem.W.Frag} {ρ : List (Option Addr)} {Φ : Hp} {a : D} {x : V} (r : Den K ρ Φ a x) : decide (x = .non) = isNon a := by
  cases r <;> simp [isNon]
theorem op_is' : OpR X (compareOp .Is) (rO X.K oIs) := OpR.imp op_isN fun x y H Q ⟨ρ, M, a, b, d, S, ra, rb, e, q⟩ => by
  unfold oIs at e
  split at e
  · cases e
    cases rb
    exact ⟨rfl, by rw [isNon_of ra]; exact q _ H Nx.refl S (.bl _)⟩
  · cases e
theorem op_isNot' : OpR X (compareOp .IsNot) (rO X.K oIsNot) := OpR.imp op_notN fun x y H Q ⟨ρ, M, a, b, d, S, ra, rb, e, q⟩ => by
  unfold oIsNot at e
  split at e
  · cases e
    cases rb
    exact ⟨rfl, by rw [isNon_of ra]; exact q _ H Nx.refl S (.bl _)⟩
  · cases e

/-! ### arithmetic -/
def oAdd : OF := fun x y M => match x, y with
  | .int i, .int j => some (.int (i + j))
  | .str a, .str b => if a.length + b.length ≤ sizeLine then some (.str (a ++ b)) else none
  | .tup xs, .tup ys => if xs.length + ys.length ≤ sizeLine then some (.tup (xs ++ ys)) else none
  | x, y => match lvw M x, lvw M y with
    | some xs, some ys => if xs.length + ys.length ≤ sizeLine then some (.lst (xs ++ ys)) else none
    | _, _ => none
theorem op_add' : OpR X (binaryOp .Add) (rO X.K oAdd) := by
  intro pins s σ H x y v u Q I rx ry h
  obtain ⟨ρ, M, a, b, d, S, ra, rb, e, q⟩ := h
  unfold oAdd at e
  split at e
  · cases e
    cases ra
    cases rb
    exact op_add pins s σ H _ _ v u Q I rx ry ⟨_, _, rfl, rfl, q _ H Nx.refl S (.int _)⟩
  · split at e
    · cases e
      cases ra
      cases rb
      exact op_add_str pins s σ H _ _ v u Q I rx ry ⟨_, _, rfl, rfl, by assumption, q _ H Nx.refl S (.str _)⟩
    · cases e
  · rename_i xs ys
    split at e
    · rename_i hz
      cases e
      cases ra with
      | tup h1 r1 =>
        cases rb with
        | tup h2 r2 =>
          refine op_catA pins s σ H _ _ v u Q I rx ry ⟨_, _, _, _, rfl, rfl, same_sqT (frz_same ρ H) h1, same_sqT (frz_same ρ H) h2, by rw [← r1.length, ← r2.length]; exact hz, fun e0 => ?_, fun _ e0 => ?_, fun _ _ p hp => ?_⟩
          · subst e0
            cases r1
            exact q _ H Nx.refl S (.tup h2 r2)
          · subst e0
            cases r2
            rw [List.append_nil] at q
            exact q _ H Nx.refl S (.tup h1 r1)
          · exact q _ _ (Nx.new hp) (S.new hp) (.tup (.of (frz_at (S.notin hp) upd_same)) ((r1.mono (Nx.new hp).ext).append (r2.mono (Nx.new hp).ext)))
    · cases e
  · split at e
    · rename_i xs ys e1 e2
      split at e
      · rename_i hz
        cases e
        obtain ⟨l1, vs1, rfl, h1, r1⟩ := lvw_of S ra e1
        obtain ⟨l2, vs2, rfl, h2, r2⟩ := lvw_of S rb e2
        refine op_cat pins s σ H _ _ v u Q I rx ry ⟨_, _, _, _, rfl, rfl, h1, h2, by rw [← r1.length, ← r2.length]; exact hz, fun p hp => ?_⟩
        exact q _ _ (Nx.new hp) (S.new hp) (.lst (frz_at (S.notin hp) upd_same) ((r1.mono (Nx.new hp).ext).append (r2.mono (Nx.new hp).ext)))
      · cases e
    · cases e
def oSub : OF := fun x y _ => match x, y with
  | .int i, .int j => some (.int (i - j))
  | _, _ => none
theorem op_sub' : OpR X (binaryOp .Sub) (rO X.K oSub) := OpR.imp op_sub fun x y H Q ⟨ρ, M, a, b, d, S, ra, rb, e, q⟩ => by
  unfold oSub at e
  split at e
  · cases e; cases ra; cases rb; exact ⟨_, _, rfl, rfl, q _ H Nx.refl S (.int _)⟩
  · cases e
def oMod : OF := fun x y _ => match x, y with
  | .int i, .int j => if 0 < j then some (.int (i % j)) else none
  | _, _ => none
theorem op_mod' : OpR X (binaryOp .Mod) (rO X.K oMod) := OpR.imp op_mod fun x y H Q ⟨ρ, M, a, b, d, S, ra, rb, e, q⟩ => by
  unfold oMod at e
  split at e
  · split at e
    · cases e; cases ra; cases rb; exact ⟨_, _, rfl, rfl, by assumption, q _ H Nx.refl S (.int _)⟩
    · cases e
  · cases e
def oDiv : OF := fun x y _ => match x, y with
  | .int i, .int j => if 0 < j ∧ j.natAbs.log2 < 9000 then some (.int (i / j)) else none
  | _, _ => none
theorem op_div' : OpR X (binaryOp .FloorDiv) (rO X.K oDiv) := OpR.imp op_fdivW fun x y H Q ⟨ρ, M, a, b, d, S, ra, rb, e, q⟩ => by
  unfold oDiv at e
  split at e
  · split at e
    · rename_i h
      cases e; cases ra; cases rb; exact ⟨_, _, rfl, rfl, h, q _ H Nx.refl S (.int _)⟩
    · cases e
  · cases e
/-- powers of written numbers -/
def oPow : OF := fun x y _ => match x, y with
  | .int i, .int j => if 0 ≤ j ∧ (Builtin.Int.intBits i : Int) * j ≤ 2 ^ 27 then some (.int (i ^ j.toNat)) else none
  | _, _ => none
theorem op_pow' : OpR X (binaryOp .Pow) (rO X.K oPow) := by
  intro pins s σ H x y v u Q I rx ry h
  obtain ⟨ρ, M, a, b, d, S, ra, rb, e, q⟩ := h
  unfold oPow at e
  split at e
  · split at e
    · rename_i h
      cases e
      cases ra
      cases rb
      obtain ⟨t, rfl⟩ := rx
      obtain ⟨t', rfl⟩ := ry
      exact pow_int h.1 h.2 ⟨.int _, H, I.tok _, ⟨_, rfl⟩, q _ H Nx.refl S (.int _)⟩
    · cases e
  · cases e
def repL (k : Nat) (xs : List D) : List D := (List.replicate k xs).flatten
theorem Dens.rep {K : PySem.W.Frag} {ρ : List (Option Addr)} {Φ : Hp} {xs : List D} {vs : List V} (r : Dens K ρ Φ xs vs) : ∀ k : Nat, Dens K ρ Φ (repL k xs) (List.replicate k vs).flatten
  | 0 => .nil
  | k + 1 => by
    unfold repL
    rw [List.replicate_succ, List.replicate_succ, List.flatten_cons, List.flatten_cons]
    exact r.append (Dens.rep r k)
def oMul : OF := fun x y M => match x, y with
  | .int i, .int j => if i.natAbs.log2 + j.natAbs.log2 < 1000000 then some (.int (i * j)) else none
  | .tup xs, .int k => if -1000 ≤ k ∧ k ≤ 1000 ∧ xs.length ≤ 1000 then some (.tup (repL k.toNat xs)) else none
  | x, .int k => match lvw M x with
    | some xs => if -(2 ^ 63) ≤ k ∧ k < 2 ^ 63 ∧ xs.length * k.toNat ≤ sizeLine then some (.lst (repL k.toNat xs)) else none
    | none => none
  | _, _ => none
theorem op_mul' : OpR X (binaryOp .Mult) (rO X.K oMul) := by
  intro pins s σ H x y v u Q I rx ry h
  obtain ⟨ρ, M, a, b, d, S, ra, rb, e, q⟩ := h
  unfold oMul at e
  split at e
  · split at e
    · rename_i h
      cases e
      cases ra
      cases rb
      exact op_mulW pins s σ H _ _ v u Q I rx ry ⟨_, _, rfl, rfl, h, q _ H Nx.refl S (.int _)⟩
    · cases e
  · split at e
    · rename_i h
      cases e
      cases ra with
      | tup h1 r1 =>
        cases rb
        rename_i xs0 k0 _ vs0
        by_cases h0 : xs0 = [] ∨ k0 = 1
        · have e1 : repL k0.toNat xs0 = xs0 := by
            rcases h0 with z | z
            · subst z; unfold repL; simp
            · subst z; unfold repL; simp
          rw [e1] at q
          refine op_rep1 pins s σ H _ _ v u Q I rx ry ⟨_, _, _, rfl, rfl, same_sqT (frz_same ρ H) h1, ?_, h.1, h.2.1, q _ H Nx.refl S (.tup h1 r1)⟩
          rcases h0 with z | z
          · subst z; cases r1; exact .inl rfl
          · exact .inr z
        by_cases hk0 : k0 ≤ 0
        · have e1 : repL k0.toNat xs0 = [] := by
            have : k0.toNat = 0 := by omega
            rw [this]; rfl
          rw [e1] at q
          refine op_rep0 pins s σ H _ _ v u Q I rx ry ⟨_, _, _, rfl, rfl, same_sqT (frz_same ρ H) h1, fun e0 => ?_, hk0, h.1, fun p hp => ?_⟩
          · subst e0
            cases r1
            exact h0 (.inl rfl)
          · exact q _ _ (Nx.new hp) (S.new hp) (.tup (.of (frz_at (S.notin hp) upd_same)) .nil)
        refine op_repT pins s σ H _ _ v u Q I rx ry ⟨_, _, _, rfl, rfl, same_sqT (frz_same ρ H) h1, fun e0 => ?_, ?_, h.2.1, by rw [← r1.length]; exact h.2.2, fun p hp => ?_⟩
        · subst e0
          cases r1
          exact h0 (.inl rfl)
        · have : k0 ≠ 1 := fun z => h0 (.inr z)
          omega
        · exact q _ _ (Nx.new hp) (S.new hp) (.tup (.of (frz_at (S.notin hp) upd_same)) ((r1.mono (Nx.new hp).ext).rep _))
    · cases e
  · split at e
    · rename_i xs e1
      split at e
      · rename_i h
        cases e
        obtain ⟨l1, vs1, rfl, h1, r1⟩ := lvw_of S ra e1
        cases rb
        refine op_rep pins s σ H _ _ v u Q I rx ry ⟨_, _, _, rfl, rfl, h1, h.1, h.2.1, by rw [← r1.length]; exact h.2.2, fun p hp => ?_⟩
        exact q _ _ (Nx.new hp) (S.new hp) (.lst (frz_at (S.notin hp) upd_same) ((r1.mono (Nx.new hp).ext).rep _))
      · cases e
    · cases e
  · cases e
end
end L2.MK

end

section
set_option Elab.async false
set_option linter.all false
set_option maxRecDepth 100000
set_option maxHeartbeats 2000000
set_option autoImplicit false
/-! sorted of anything that can be gathered; all; repr. -/
namespace L2.MK
open PySem PySem.Spec PyProof.Rows PySem.W

section
variable {P : Program} {w : World} {A : Around} {E : Value → Shared → Prop} {s : Shared} {β : Type} {enc : β → PyData} {R : Value → β → Prop}
theorem collect_seq {Q : List Value → Shared → Prop} (it : Addr) {T : String} {o : Obj} {items : Array Value} {n : Nat} (hT : T = "list" ∨ T = "tuple")
    (ho : s.heap.get? it = some o) (hc : o.cls = .type T) (hd : o.data = .seq items n)
    (hQ : ∀ h', (∀ b o', s.heap.get? b = some o' → h'.get? b = some o') → s.heap.objs.size ≤ h'.objs.size → Q items.toList { s with heap := h' }) (hsz : items.size ≤ sizeLine := by size_fits) :
    wpAny (model P w) A (collect (.ref it)) Q E s := by
  unfold collect
  refine wpAny_bind (wpAny_runValue (codeAny_builtin PySem.F.entry_proto_collect ?_))
  rw [Around.under_plainId PySem.F.plain_proto_collect _]
  show wpAny _ A.in1 (newList [] >>= fun l => again (.builtin "list.__iadd__" ⟨[l, .ref it], []⟩)) _ _ s
  refine wpAny_bind (wpAny_newObj_type ?_)
  refine wpAny_pure ⟨plainId_quiet PySem.F.plain_list_iadd _, codeAny_builtin PySem.F.entry_list_iadd ?_⟩
  rw [Around.under_plainId PySem.F.plain_list_iadd _]
  show wpAny _ A.in1 (Builtin.List.listExtendWith (.ref s.heap.objs.size) (.ref it) (.ref s.heap.objs.size)) _ _ _
  have hS : (s.heap.push { cls := .type "list", data := .seq ([] : List Value).toArray }).get? s.heap.objs.size = some { cls := .type "list", data := .seq #[] 0 } := Heap.get?_push_size _ rfl
  have hS₂ := Heap.get?_update_self (Obj.mapSeq (· ++ items)) hS rfl
  have fin' : wpAny (model P w) A (match Value.ref s.heap.objs.size with
      | Value.ref a => do
        match (← load a).data with
          | Data.seq xs _ => pure xs.toList
          | _ => unsupported "internal:collect"
      | _ => unsupported "internal:collect") Q E { s with heap := (s.heap.push { cls := .type "list", data := .seq ([] : List Value).toArray }).update s.heap.objs.size (Obj.mapSeq (· ++ items)) } := by
    show wpAny _ A (load s.heap.objs.size >>= _) _ _ _
    refine wpAny_bind (wpAny_load hS₂ ?_)
    refine wpAny_pure ?_
    have e : ((#[] : Array Value) ++ items).toList = items.toList := by simp
    show Q ((#[] : Array Value) ++ items).toList _
    rw [e]
    refine hQ _ (fun b o' hb => ?_) (by rw [Heap.size_update, size_push']; exact Nat.le_succ _)
    exact (Heap.get?_update_other _ _ (Nat.ne_of_gt (Heap.lt_size hb))).trans (Heap.get?_push_of_some _ hb)
  refine wpAny_mono (wpAny_extend_seq (hsz := hsz) (A := A) (R := fun r s' => r = .ok (.ret (.ref s.heap.objs.size)) ∧ s' = { s with heap := (s.heap.push { cls := .type "list", data := .seq ([] : List Value).toArray }).update s.heap.objs.size (Obj.mapSeq (· ++ items)) })
    (s := { s with heap := s.heap.push { cls := .type "list", data := .seq ([] : List Value).toArray } }) _ it _ 0 hT hS (Heap.get?_push_of_some _ ho) hc hd ⟨rfl, rfl⟩) (fun fin s' h => ?_) (fun e s' h => ?_)
  · cases fin with
    | done f =>
      obtain ⟨e, rfl⟩ := h
      cases e
      exact fin'
    | again c' => exact ⟨h.1, codeAny_mono h.2 fun r s'' hr => by obtain ⟨rfl, rfl⟩ := hr; exact fin'⟩
  · exact absurd h.1 (by simp)
/-- what sorting asks -/
structure SortOk (A : Around) (enc : β → PyData) (bs : List β) : Prop where
  al : AllAlike (bs.map enc)
  so : Sortable (bs.map enc)
  len : bs.length ≤ sizeLine
  dep : ∀ b, b ∈ bs → A.units + 2 + (enc b).depth < cLine
theorem sorted_gen {x : Value} {Q : Value → Shared → Prop} (G : List β → Prop) (hG : ∀ bs, G bs → SortOk A enc bs)
    (hcol : ∀ (Q1 : List Value → Shared → Prop) (E' : Value → Shared → Prop), (∀ s1 vs bs, (∀ b o, s.heap.get? b = some o → s1.heap.get? b = some o) → s.heap.objs.size ≤ s1.heap.objs.size → s1.gens = s.gens → s1.os = s.os → EachIs R vs bs →
      EachIs (fun v b => ∃ as, Reads s1.heap v (enc b) as) vs bs → G bs → Q1 vs s1) → wpAny (model P w) A.in1 (collect x) Q1 E' s)
    (hQ : ∀ s' p bs (out : List Value) (c : Nat), (∀ b o, s.heap.get? b = some o → s'.heap.get? b = some o) → s'.gens = s.gens → s'.os = s.os → s.heap.objs.size ≤ p →
      s'.heap.get? p = some (seqObj "list" out.toArray c) → EachIs R out (bs.mergeSort (dataLe false enc)) → G bs → Q (.ref p) s') :
    wpAny (model P w) A (call (.builtin "sorted") [x]) Q E s := by
  refine Calls.call_function_entry kind_sorted plain_sorted entry_sorted (args_sorted1 _) ?_
  unfold Builtin.«sorted»
  refine wpAny_bind (m := checkCount "sorted" 1 1 _) (wpAny_pure ?_)
  refine wpAny_bind (hcol _ _ fun s1 vs bs k1 hz g1 o1 e er hg => ?_)
  have ok := hG bs hg
  have hL : vs.length ≤ sizeLine := by rw [e.length]; exact ok.len
  refine wpAny_bind (wpAny_newList ?_ hL)
  have hoL : (s1.heap.push (seqObj "list" vs.toArray 0)).get? s1.heap.objs.size = some (seqObj "list" vs.toArray 0) := Heap.get?_push_size _ rfl
  have er' : EachIs (fun v b => ∃ as, Reads (sortingHeap (s1.heap.push (seqObj "list" vs.toArray 0)) s1.heap.objs.size vs) v (enc b) as) vs bs := er.mono fun _ _ ⟨as, r⟩ =>
    ⟨as, PyProof.Rows.Reads.keeps (fun b o q => sortingHeap_old (Nat.ne_of_lt (Heap.lt_size q)) (Heap.get?_push_of_some _ q)) r⟩
  have S : SortsAt P w A.in1.in1 { s1 with heap := sortingHeap (s1.heap.push (seqObj "list" vs.toArray 0)) s1.heap.objs.size vs } (dataKind (sortingHeap (s1.heap.push (seqObj "list" vs.toArray 0)) s1.heap.objs.size vs) (bs.map enc)) vs :=
    SortsAt.data (s := { s1 with heap := sortingHeap (s1.heap.push (seqObj "list" vs.toArray 0)) s1.heap.objs.size vs }) (each_map (R := fun v d => ∃ as, Reads (sortingHeap (s1.heap.push (seqObj "list" vs.toArray 0)) s1.heap.objs.size vs) v d as) enc er') ok.al ok.so (bound_map ok.dep)
  refine wpAny_bind (wpAny_holding (wpAny_call_entry slot_list_sort ⟨_, hoL, rfl⟩ entry_list_sort (list_sort_vals hoL S hL ⟨_, rfl, ?_⟩) (args_list_sort _)))
  obtain ⟨c, hc⟩ := sortedHeap_at (vs := vs) (out := (sortVals (dataKind (sortingHeap (s1.heap.push (seqObj "list" vs.toArray 0)) s1.heap.objs.size vs) (bs.map enc)) false vs vs).toArray) hoL
  refine wpAny_pure ⟨_, rfl, hQ _ s1.heap.objs.size bs _ c (fun b u q => ?_) g1 o1 hz hc (sortVals_data false e er' ok.al) hg⟩
  have q2 := k1 b u q
  have hlt := Heap.lt_size q2
  show (sortedHeap (s1.heap.push (seqObj "list" vs.toArray 0)) s1.heap.objs.size vs _).get? b = some u
  rw [sortedHeap_old (Nat.ne_of_lt hlt) (by rw [size_push']; exact Nat.lt_succ_of_lt hlt)]
  exact Heap.get?_push_of_some _ q2
end

/-! ### sorted, all, repr, by data -/
theorem dpAll_each {K : PySem.W.Frag} {X : Cx} {pins : List (Addr × Obj)} {σ : St} {H : Hp} {s : Shared} (I : Inv X pins σ H s) : ∀ {bs : List (V × PyData)} {us : List Value}, (∀ b ∈ bs, Dp X.K H b.1 b.2) → Vals (bs.map (·.1)) us → EachIs (fun v b => ∃ as, Reads s.heap v b.2 as) us bs ∧ EachIs (fun v b => RelV b.1 v) us bs
  | [], _, _, .nil => ⟨.nil, .nil⟩
  | b :: bs, _, h, .cons r t => by
    obtain ⟨h1, h2⟩ := dpAll_each (K := K) I (fun b hb => h b (List.mem_cons_of_mem _ hb)) t
    obtain ⟨as, q⟩ := Dp.reads I b.2 b.1 _ (h b List.mem_cons_self) r
    exact ⟨.cons ⟨as, q⟩ h1, .cons r h2⟩
theorem each_vals : ∀ {bs : List (V × PyData)} {us : List Value}, EachIs (fun v b => RelV b.1 v) us bs → Vals (bs.map (·.1)) us
  | _, _, .nil => .nil
  | _, _, .cons h t => .cons h (each_vals t)
section
variable {X : Cx}
theorem inv_out {pins : List (Addr × Obj)} {σ : St} {H : Hp} {s s' : Shared} {Q : VK} {v : V} {u : Value} (J : Inv X pins σ H { s with heap := s'.heap, gens := s'.gens, drawn := s'.drawn, toks := s'.toks }) (o : s'.os = s.os) (r : RelV v u) (q : Q v H) : EP X pins σ Q u s' := by
  have e : s' = { s with heap := s'.heap, gens := s'.gens, drawn := s'.drawn, toks := s'.toks } := by
    cases s'
    cases s
    cases o
    rfl
  rw [e]
  exact ⟨v, _, J, r, q⟩
/-- sorted(xs), xs a list or tuple of data -/
def rSortDt (K : PySem.W.Frag) : List V → Hp → VK → Prop := fun xs H Q => ∃ (a : Addr) (bs : List (V × PyData)), xs = [.ref a] ∧ (SqL K H a (bs.map (·.1)) ∨ SqT K H a (bs.map (·.1))) ∧ (∀ b ∈ bs, Dp K H b.1 b.2) ∧
  AllAlike (bs.map (·.2)) ∧ Sortable (bs.map (·.2)) ∧ (∀ b ∈ bs, b.2.depth ≤ 60) ∧ ∀ p, H p = none → Q (.ref p) (upd H p (.lst ((bs.mergeSort (dataLe false Prod.snd)).map (·.1))))
theorem call_sortDt (hu : X.A.units + 64 < cLine) : CallR X (.builtin "sorted") (rSortDt X.K) := by
  intro pins s σ H xs us Q I r h
  obtain ⟨a, bs, rfl, hs, hd, hal, hso, hdp, q⟩ := h
  obtain ⟨u, rfl, ru⟩ := vals1 r
  cases ru
  have main : ∀ (its : List Value) (T : String) (o : Obj) (n : Nat), T = "list" ∨ T = "tuple" → s.heap.get? a = some o → o.cls = .type T → o.data = .seq its.toArray n → Vals (bs.map (·.1)) its → its.length ≤ sizeLine →
      wpAny (model X.prog X.w) X.A (call (.builtin "sorted") [.ref a]) (EP X pins σ Q) X.xe s := by
    intro its T o n hT ho hc hdt rv hz
    obtain ⟨e1, e2⟩ := dpAll_each (K := X.K) I hd rv
    have hlen : bs.length = its.length := by rw [← rv.length, List.length_map]
    refine sorted_gen (R := fun v b => RelV b.1 v) (enc := Prod.snd) (fun b => b = bs) (fun b e => by subst e; exact ⟨hal, hso, by omega, fun b hb => by have := hdp b hb; omega⟩)
      (fun Q1 E' h1 => collect_seq a hT ho hc hdt (fun h' kp kz => ?_) (by rw [List.size_toArray]; exact hz)) ?_
    · have e1' := e1.mono fun v b (⟨as, q⟩ : ∃ as, Reads s.heap v b.2 as) => (⟨as, PyProof.Rows.Reads.keeps kp q⟩ : ∃ as, Reads h' v b.2 as)
      rw [List.toList_toArray]
      exact h1 { s with heap := h' } its bs kp kz rfl rfl e2 e1' rfl
    · intro s' p b out c kp hg ho' hp hget he hb
      subst hb
      have rv' := each_vals he
      have hl : ((b.mergeSort (dataLe false Prod.snd)).map (·.1)).length ≤ sizeLine := by rw [List.length_map, (List.mergeSort_perm _ _).length_eq, hlen]; exact hz
      have hn : H p = none := I.hok.fresh hp
      have new : ObjOk X.prog X.w (upd H p (.lst ((b.mergeSort (dataLe false Prod.snd)).map (·.1)))) s'.heap p (.lst ((b.mergeSort (dataLe false Prod.snd)).map (·.1))) := ⟨hl, out, c, rv', hget⟩
      exact inv_out (I.call (g' := s'.gens) (d' := s'.drawn) (t' := s'.toks) (ch := []) (Un.laid kp hp hn) (I.hok.laid kp hp new) (by rw [hg]; exact I.bare) (fun _ z => nomatch z)) ho' (v := .ref p) rfl (q p hn)
  rcases hs with hs | hs
  · obtain ⟨its, rv, ⟨o, n, ho, hc, _, hdt⟩, hz⟩ := I.list hs
    exact main its "list" o n (.inl rfl) ho hc hdt rv (by rw [← rv.length]; exact hz)
  · obtain ⟨its, rv, ⟨o, ho, hc, n, hdt⟩, hz⟩ := I.tuple hs
    exact main its "tuple" o n (.inr rfl) ho hc hdt rv (by rw [← rv.length]; exact hz)
/-- all(xs), xs a list of data -/
def rAllD (K : PySem.W.Frag) : List V → Hp → VK → Prop := fun xs H Q => ∃ x ps, xs = [x] ∧ Dp K H x (.list ps) ∧ PyData.plainAll ps = true ∧ (∀ p ∈ ps, p.fits63) ∧ Q (.bl (ps.all PyData.truthy)) H
theorem call_allD (hc : X.calm = true) : CallR X (.builtin "all") (rAllD X.K) := by
  intro pins s σ H xs us Q I r h
  obtain ⟨x, ps, rfl, hx, hp, hf, q⟩ := h
  obtain ⟨u, rfl, ru⟩ := vals1 r
  cases hx with
  | lst hs ha =>
    cases ru
    obtain ⟨its, rv, ⟨o, n, ho, hcl, _, hd⟩, _⟩ := I.list hs
    obtain ⟨as, hr⟩ := Dp.readsAll I ps _ its ha rv
    exact all_list_data (I.ok.hd hc) (vs := its.toArray) ⟨o, ho, hcl, n, hd⟩ (by rw [List.toList_toArray]; exact hr) hp hf fun h' tk k => ⟨.bl _, H, I.kept (t' := tk) k, rfl, q⟩
/-- any(xs), xs a list of data -/
def rAnyD (K : PySem.W.Frag) : List V → Hp → VK → Prop := fun xs H Q => ∃ x ps, xs = [x] ∧ Dp K H x (.list ps) ∧ PyData.plainAll ps = true ∧ (∀ p ∈ ps, p.fits63) ∧ Q (.bl (ps.any PyData.truthy)) H
theorem call_anyD (hc : X.calm = true) : CallR X (.builtin "any") (rAnyD X.K) := by
  intro pins s σ H xs us Q I r h
  obtain ⟨x, ps, rfl, hx, hp, hf, q⟩ := h
  obtain ⟨u, rfl, ru⟩ := vals1 r
  cases hx with
  | lst hs ha =>
    cases ru
    obtain ⟨its, rv, ⟨o, n, ho, hcl, _, hd⟩, _⟩ := I.list hs
    obtain ⟨as, hr⟩ := Dp.readsAll I ps _ its ha rv
    exact any_list_data (I.ok.hd hc) (vs := its.toArray) ⟨o, ho, hcl, n, hd⟩ (by rw [List.toList_toArray]; exact hr) hp hf fun h' tk k => ⟨.bl _, H, I.kept (t' := tk) k, rfl, q⟩
/-- repr(x), x data -/
def rReprD (K : PySem.W.Frag) : List V → Hp → VK → Prop := fun xs H Q => ∃ x p, xs = [x] ∧ Dp K H x p ∧ p.showable = true ∧ p.hasDict = false ∧ p.depth ≤ 60 ∧ p.shown.length ≤ sizeLine ∧ Q (.str p.shown) H
theorem call_reprD (hu : X.A.units + 64 < cLine) (hg : X.A.guards = some []) : CallR X (.builtin "repr") (rReprD X.K) := by
  intro pins s σ H xs us Q I r h
  obtain ⟨x, p, rfl, hx, h1, h2, h3, h4, q⟩ := h
  obtain ⟨u, rfl, ru⟩ := vals1 r
  obtain ⟨as, hr⟩ := Dp.reads I p x _ hx ru
  cases hx with
  | non =>
    cases ru
    exact P.repr_of_none ⟨.str _, H, I.tok _, ⟨_, rfl⟩, q⟩
  | bl b =>
    cases ru
    refine P.repr_of_bool ⟨.str _, H, I.tok _, ⟨_, rfl⟩, ?_⟩
    cases b <;> exact q
  | int i =>
    obtain ⟨t, rfl⟩ := ru
    refine P.repr_of_int (by simpa [PyData.showable] using h1) ⟨.str _, H, I.tok _, ⟨_, rfl⟩, ?_⟩
    exact q
  | str z =>
    obtain ⟨t, rfl⟩ := ru
    exact P.repr_of_str ⟨.str _, H, I.tok _, ⟨_, rfl⟩, q⟩ h4
  | lst hs ha =>
    cases ru
    exact repr_of_reads' hr h1 (PyData.noDict_hsm h2) hg (by omega) (fun _ _ e => e) (fun h' u tk k => ⟨.str _, H, I.kept (t' := tk) k, ⟨u, rfl⟩, q⟩) h4
  | tup hs ha =>
    cases ru
    exact repr_of_reads' hr h1 (PyData.noDict_hsm h2) hg (by omega) (fun _ _ e => e) (fun h' u tk k => ⟨.str _, H, I.kept (t' := tk) k, ⟨u, rfl⟩, q⟩) h4
end
end L2.MK

end

section
set_option Elab.async false
set_option linter.all false
set_option maxRecDepth 100000
set_option maxHeartbeats 4000000
set_option autoImplicit false
/-! isinstance and fields of kept exceptions; own __init__ of exceptions. -/
namespace L2.MK
open PySem PySem.Spec PySem.Calls PyProof.Rows PySem.W
section
variable {prog : Program} {w : World} {A : Around} {E : Value → Shared → Prop} {s : Shared} {K : Frag} {x D : Addr} {ox : Obj}
theorem findObj_dataO {C : Addr} {od : Option Obj} {name : Str} {a g : Value} (hc : (clsIn K C).isSome = true) (ha : findIn K (.ref C) name = some (some a)) (hg : specialIn K a "__get__" = some (some g)) (ht : takesIn K a = some true) : findObj K C od name = some (.bind g a) := by
  obtain ⟨cd, hc⟩ := Option.isSome_iff_exists.mp hc
  unfold findObj
  rw [hc, Option.bind_some, ha, Option.bind_some]
  simp [hg, ht]
theorem kin_classO {od : Option Obj} {Q : Option Value → Shared → Prop} (hga : findIn K (.ref D) "__getattribute__" = some (some (.builtin "BaseException.__getattribute__"))) (hgt : findIn K (.ref D) "__getattr__" = some none) (hsub : subIn K (.ref D) (.type "BaseException") = some true)
    (hdct : hasDictIn K D = true) (ha : findIn K (.ref D) "__class__" = some (some (.builtin "object.__class__")))
    (hn : specialIn K (.builtin "object.__class__") "__get__" = some (some (.builtin "getset_descriptor.__get__"))) (htk : takesIn K (.builtin "object.__class__") = some true) (hm : mroIn K D (.type "object") = some true)
    (X : K.In s.heap) (I : InstAt s.heap x ox D od) (h : Q (some (.ref D)) { s with toks := s.toks + 1 }) : wpAny (model prog w) A (getAttr? (.ref x) "__class__") Q E s := by
  have hf : findObj K D od "__class__" = some (.bind (.builtin "getset_descriptor.__get__") (.builtin "object.__class__")) := findObj_dataO (by obtain ⟨cd, hc, _⟩ := any_some hdct; rw [hc]; rfl) ha hn htk
  obtain ⟨hp, g, d, t, os⟩ := s
  have L0 := I.type (M := model prog w)
  have L1 := looks_findIn (M := model prog w) X hga
  have L2 := looks_findIn (M := model prog w) X hgt
  have L3 := looks_find (M := model prog w) X I hf
  have sub : Looks (model prog w) hp (isInstance (.ref x) (.type "BaseException")) true := L0.andThen (looks_subIn X hsub)
  have hx0 : (false && onTheHeap (Value.builtin "BaseException.__getattribute__")) = false := rfl
  have hx2 : (Value.builtin "BaseException.__getattribute__" == Value.builtin "object.__getattribute__") = false := by decide +kernel
  have hx1 : (onTheHeap (Value.ref D) && Value.builtin "BaseException.__getattribute__" == Value.builtin "object.__getattribute__") = false := by rw [hx2]; rfl
  unfold getAttr? getAttrBy? getAttrBy
  refine wpAny_bind (wpAny_mkText (wpAny_bind (wpAny_attempt (wpAny_holding (wpAny_bind (L0.at (wpAny_bind (L1.at ?_))))))))
  show wpAny _ _ (if (onTheHeap (Value.ref D) && Value.builtin "BaseException.__getattribute__" == Value.builtin "object.__getattribute__") = true then _ else _) _ _ _
  rw [hx1, if_neg Bool.false_ne_true]
  unfold getAttrByItsOwn hookBefore
  refine wpAny_bind ?_
  rw [if_pos (show onTheHeap (Value.ref D) = true from rfl)]
  refine L2.at ?_
  refine wpAny_bind (wpAny_attempt (wpAny_holding ?_))
  unfold callGetattribute
  rw [hx0, if_neg Bool.false_ne_true]
  unfold boundAndCalled
  rw [PySem.F.excAttr_ValueError.ga.bind (.ref x)]
  refine wpAny_bind (wpAny_pure ?_)
  show wpAny _ _ (call (.builtin "BaseException.__getattribute__") [.ref x, .str "__class__" t]) _ _ _
  refine wpAny_call (codeAny_call_builtin PySem.F.excAttr_ValueError.ga.plain PySem.F.entry_bexc_ga ?_)
  refine @check_slot (model prog w) _ _ ⟨hp, g, d, t + 1, os⟩ "BaseException.__getattribute__" "BaseException" "__getattribute__" (.ref x) [.str "__class__" t] [] _ (by decide +kernel) (by decide +kernel) sub (PySem.F.args_bexc_ga (.ref x) (.str "__class__" t)) ?_
  unfold Builtin.«object.__getattribute__»
  refine wpAny_bind (wpAny_of_eq (a := ((Value.ref x : Value), [Value.str "__class__" t])) (by first | rfl | (simp only [slotArgs]; rfl)) ?_)
  refine wpAny_bind (wpAny_pure (wpAny_bind (L0.at (wpAny_bind (L3.at ?_)))))
  show wpAny _ _ (holding [Value.builtin "object.__class__"] (call (.builtin "getset_descriptor.__get__") [.builtin "object.__class__", .ref x, .ref D]) >>= ret) _ _ _
  refine wpAny_bind (wpAny_holding (wpAny_call (class_get (s := ⟨hp, g, d, t + 1, os⟩) (ox := ox) (od := od) X I hm ?_)))
  refine wpAny_pure ?_
  show wpAny _ _ (handedOut (.ref D)) _ _ _
  rw [handedOut_of (v := .ref D) rfl]
  first
    | exact wpAny_pure (wpAny_pure h)
    | exact wpAny_pure h
    | exact wpAny_pure (wpAny_bind (wpAny_pure (wpAny_pure h)))
theorem kitx_exO {od : Option Obj} (hga : findIn K (.ref D) "__getattribute__" = some (some (.builtin "BaseException.__getattribute__"))) (hgt : findIn K (.ref D) "__getattr__" = some none) (hsub : subIn K (.ref D) (.type "BaseException") = some true) (hdct : hasDictIn K D = true) (ha : findIn K (.ref D) "__class__" = some (some (.builtin "object.__class__")))
    (hn : specialIn K (.builtin "object.__class__") "__get__" = some (some (.builtin "getset_descriptor.__get__"))) (htk : takesIn K (.builtin "object.__class__") = some true) (hm : mroIn K D (.type "object") = some true) :
    KitX K (.ref x) (.ref D) (fun h => InstAt h x ox D od) where
  ty := fun _ _ _ I => I.type
  it := fun _ _ X _ => by
    obtain ⟨cdD, hcD, _⟩ := any_some hdct
    unfold clsIn at hcD
    split at hcD
    · rename_i c' d' cd' sl' ho
      intro A' Q' E' s' k q
      unfold isType loadHead
      exact wpAny_bind (wpAny_loadPart (k _ _ (X _ _ ho)) (wpAny_pure q))
    · cases hcD
  ne := fun h tp dd its n sl X htp => by
    obtain ⟨cdD, hcD, _⟩ := any_some hdct
    refine Bool.eq_false_iff.mpr fun q => ?_
    have e : D = tp := Value.ref.inj (beq_iff_eq.mp q)
    subst e
    unfold clsIn at hcD
    split at hcD
    · rename_i c' d' cd' sl' ho
      have z := (X _ _ ho).symm.trans htp
      cases z
    · cases hcD
  ca := fun X I k => kin_classO hga hgt hsub hdct ha hn htk hm X I k
end
/-- an exception that is tracked, as an instance -/
theorem exk_inst {X : Cx} {pins : List (Addr × Obj)} {σ : St} {H : Hp} {s : Shared} {a D : Addr} {d : Option Addr} (I : Inv X pins σ H s) (e : H a = some (exk a (.ref D) d)) (hd : ∀ dd, d = some dd → ∃ fs, H dd = some (.xd fs)) : ∃ oe od, InstAt s.heap a oe D od := by
  obtain ⟨o, vs, h1, h2, h3, h4⟩ := exk_at I.hok e
  have nc : notCls o = true := by unfold notCls; rw [h4] <;> rfl
  cases d with
  | none => exact ⟨o, none, h1, h2, nc, by rw [h3]; trivial⟩
  | some dd =>
    obtain ⟨fs, q⟩ := hd dd rfl
    obtain ⟨mA, ⟨od, es, ep, ho, _⟩, _⟩ := (show ObjOk X.prog X.w H s.heap dd (.xd fs) from I.hok dd _ q)
    exact ⟨o, some od, h1, h2, nc, by rw [h3]; exact ho⟩
/-- isinstance(e, c), e an exception that is tracked -/
def rIsX (K : Frag) : List V → Hp → VK → Prop := fun xs H Q => ∃ (a D : Addr) (d : Option Addr) (c : V) (cv : Value) (b : Bool), xs = [.ref a, c] ∧ H a = some (exk a (.ref D) d) ∧ (∀ dd, d = some dd → ∃ fs, H dd = some (.xd fs)) ∧ ExcC K D ∧ ClsV c cv ∧ kitOne K (.ref D) cv = some b ∧ Q (.bl b) H
theorem call_isX {X : Cx} : CallR X (.builtin "isinstance") (rIsX X.K) := by
  intro pins s σ H xs us Q I r h
  obtain ⟨a, D, d, c, cv, b, rfl, ha, hd, C, k, e, q⟩ := h
  obtain ⟨u1, u2, rfl, r1, r2⟩ := vals2 r
  have e2 := k.eq r2
  subst e2
  cases r1
  obtain ⟨oe, od, J⟩ := exk_inst I ha hd
  exact kia_one (kitx_exO C.hg C.hk C.hs C.hd C.ha C.hn C.ht C.hm) I.kIn J e (fun z => nomatch z) fun tk => ⟨.bl b, H, I.tok tk, rfl, q⟩
/-- e.f, e an exception that is tracked -/
def tXk (K : Frag) (f : Str) (te : TE) : TE := fun σ H Q => te σ H fun x H1 => ∃ (a C dd : Addr) (fs : List (Str × V)) (v : V), x = .ref a ∧ H1 a = some (exk a (.ref C) (some dd)) ∧ XfC K C ∧ findIn K (.ref C) f = some none ∧ H1 dd = some (.xd fs) ∧ fs.lookup f = some v ∧ Q v H1
theorem pe_xk {X : Cx} {e : Expr} {te : TE} {pos : Pos} {n : Str} (he : PE X e te) (hb : attributeBase e n X.env (eval e X.env) = eval e X.env := by rfl) : PE X (.Attribute e n pos) (tXk X.K n te) := by
  refine ⟨fun pins s σ H Q I h => ?_⟩
  refine attr_of hb (thn (he.run pins s σ H _ I h) fun u s1 hh => ?_)
  obtain ⟨x, H1, I1, rx, a, C, dd, fs, v, ex, ha, T, hno, ea, l, q⟩ := hh
  subst ex
  obtain rfl : u = Value.ref a := rx
  obtain ⟨o, vs, h1, h2, h3, h4⟩ := exk_at I1.hok ha
  have hx : ObjOk X.prog X.w H1 s1.heap dd (.xd fs) := I1.hok dd _ ea
  obtain ⟨mA, hns, hr⟩ := hx
  obtain ⟨od, ho, hl⟩ := lookIn_ns hns
  obtain ⟨u, hu, ru⟩ := RelO.some_of (v := v) (o := mA n) (by rw [← l]; exact hr n)
  have J : InstAt s1.heap a o C (some od) := ⟨h1, h2, by unfold notCls; rw [h4] <;> rfl, by rw [h3]; exact ho⟩
  exact HandSPX.exc_get I1.kIn J T.ga T.gg T.exC (findObj_own T.hdC hno rfl (by rw [hl, hu])) (handed_of ru) ⟨v, H1, I1.tok _, ru, q⟩
/-- C.__init__(self, ..) where C is an own class that has ValueError's -/
theorem pe_cveinit {X : Cx} {C : Addr} {mc : Value} {x : Str} {p1 p2 pos : Pos} {e : Expr} {es : List Expr} {ta : TA} {pl : Sem Bool} (hg : Gl X x) (hm : X.mg x = some (.ref C)) (hdb : (x == ("__debug__" : Str)) = false) (r : ClX.CRead X.K C mc)
    (vV : findCls X.K (.ref C) mc "__init__" = some (.val (.builtin "ValueError.__init__"))) (ha : PA X (e :: es) ta)
    (hc : eval (.Call (.Attribute (.Name x p1) "__init__" p2) (e :: es) [] pos) X.env = (do
      let ov ← eval (.Name x p1) X.env
      standAt p2.atName
      let (f, first) ← holding [ov] (getMethod ov "__init__" pl)
      callWith pos f first (backTo pos (starEach (e :: es) X.env)) (backToKw pos (keywordEach [] X.env))) := by rfl)
    (he : starEach (e :: es) X.env = (false, eval e X.env) :: starEach es X.env := by rfl) (hpl : (backTo pos (starEach es X.env)).any (·.1) = false := by rfl) :
    PE X (.Call (.Attribute (.Name x p1) "__init__" p2) (e :: es) [] pos) (tVeI X.K ta) := by
  refine ⟨fun pins s σ H Q I h => ?_⟩
  refine methodCall_KW (ld_glob I hg hm ?_ hdb) hc
  refine method_cls I.kIn r.ga (cls_value I.kIn r.rd vV rfl ?_)
  refine PyProof.Rows.callWith_method1 (thn (ha.run pos pins _ σ H _ (I.tok _) h) fun us s1 ⟨vs, H1, I1, r1, a, C, ws, ev, hl, T, ea, q⟩ => ?_) he hpl
  subst ev
  cases r1 with
  | @cons _ u0 _ ur ra rw' =>
    obtain rfl : u0 = Value.ref a := ra
    have hlen : ur.length ≤ sizeLine := by
      rw [← Paired.length rw', sizeLine_eq]
      omega
    exact oinit_ok T I1 ea hlen fun s' J => ⟨.non, H1, J, rfl, q⟩
end L2.MK

end

section
set_option Elab.async false
set_option linter.all false
set_option maxRecDepth 100000
set_option maxHeartbeats 1000000
set_option autoImplicit false
/-! Displays, tests, parts, calls of built-ins. -/
namespace L2.MK
open PySem PySem.Spec PyProof.Rows

section
variable {K : PySem.W.Frag} {ρ : List (Option Addr)} {H : Hp} {M : Sto} {a p : Addr} {o : HO}
/-- one thing more that changes -/
theorem Nx.push (hp : H p = none) : Nx ρ H (ρ ++ [some p]) (upd H p o) := ⟨fun i a h => by
  rw [List.getElem?_append_left (List.getElem?_eq_some_iff.mp h).1]
  exact h, fun b u h => by
  obtain ⟨n, e⟩ := frz_of h
  have nb := ne_of_none e hp
  refine frz_at (fun z => ?_) (by rw [upd_ne nb]; exact e)
  rcases List.mem_append.mp z with z | z
  · exact n z
  · exact nb (Option.some.inj (List.mem_singleton.mp z)), by simp, fun a φ _ h => by rw [upd_ne (ne_of_none h hp)]; exact h⟩
theorem StOk.push {m : MO} (S : StOk K ρ M H) (hp : H p = none) (hm : MOk K (ρ ++ [some p]) (upd H p o) p m) : StOk K (ρ ++ [some p]) (M ++ [m]) (upd H p o) := by
  have x := (Nx.push (ρ := ρ) (o := o) hp).ext
  have lift : ∀ {a : Addr} {m : MO}, MOk K ρ H a m → MOk K (ρ ++ [some p]) (upd H p o) a m := fun {a m} h => by
    cases m with
    | lst ds => obtain ⟨vs, h1, h2⟩ := h; exact ⟨vs, same_new hp _ _ h1, h2.mono x⟩
    | dK ds => obtain ⟨vs, h1, h2⟩ := h; exact ⟨vs, same_new hp _ _ h1, h2.mono x⟩
    | ins C fs => obtain ⟨dx, vs, h1, h2⟩ := h; exact ⟨dx, vs, same_new hp _ _ h1, h2.mono x⟩
    | opq => obtain ⟨o, h1⟩ := h; exact ⟨o, same_new hp _ _ h1⟩
    | dead => exact h
  have cases_ : ∀ {i : Nat} {q : Option Addr}, (ρ ++ [some p])[i]? = some q → (ρ[i]? = some q) ∨ (i = ρ.length ∧ q = some p) := fun {i q} h => by
    by_cases hi : i < ρ.length
    · rw [List.getElem?_append_left hi] at h; exact .inl h
    · rw [List.getElem?_append_right (by omega)] at h
      have : i - ρ.length = 0 := by
        have := (List.getElem?_eq_some_iff.mp h).1
        simp at this
        omega
      rw [this] at h
      exact .inr ⟨by omega, by simpa using h.symm⟩
  have notp : ∀ i : Nat, ρ[i]? = some (some p) → False := fun i h => S.notin hp (List.mem_of_getElem? h)
  refine ⟨by simp [S.len], fun i j a h1 h2 => ?_, fun i a h => ?_, fun i h => ?_⟩
  · rcases cases_ h1 with h1 | ⟨h1, e1⟩ <;> rcases cases_ h2 with h2 | ⟨h2, e2⟩
    · exact S.inj i j a h1 h2
    · cases e2; exact (notp i h1).elim
    · cases e1; exact (notp j h2).elim
    · omega
  · rcases cases_ h with h | ⟨hi, e⟩
    · obtain ⟨m', h1, h2⟩ := S.at_ i a h
      refine ⟨m', ?_, lift h2⟩
      rw [List.getElem?_append_left (List.getElem?_eq_some_iff.mp h1).1]
      exact h1
    · cases e
      subst hi
      refine ⟨m, ?_, hm⟩
      rw [S.len, List.getElem?_append_right (Nat.le_refl _)]
      simp
  · rcases cases_ h with h | ⟨_, e⟩
    · have h1 := S.dead i h
      rw [List.getElem?_append_left (List.getElem?_eq_some_iff.mp h1).1]
      exact h1
    · cases e
/-- one of them changes -/
theorem Nx.write {i : Nat} (h : ρ[i]? = some (some a)) (hx : ∀ φ, H a ≠ some (.ext φ)) : Nx ρ H ρ (upd H a o) := ⟨fun _ _ h => h, fun b u z => by
  obtain ⟨n, e⟩ := frz_of z
  refine frz_at n ?_
  rw [upd_ne (fun q => n (by rw [q]; exact List.mem_of_getElem? h))]
  exact e, Nat.le_refl _, fun b φ _ q => by
    by_cases e : b = a
    · rw [e] at q; exact (hx φ q).elim
    · rw [upd_ne e]; exact q⟩
theorem StOk.write {m : MO} {i : Nat} (S : StOk K ρ M H) (h : ρ[i]? = some (some a)) (hx : ∀ φ, H a ≠ some (.ext φ)) (hm : MOk K ρ (upd H a o) a m) : StOk K ρ (M.set i m) (upd H a o) := by
  have x := (Nx.write (H := H) (o := o) h hx).ext
  refine ⟨by simp [S.len], S.inj, fun j b hb => ?_, fun j hj => ?_⟩
  · by_cases e : j = i
    · subst e
      rw [h] at hb
      cases hb
      refine ⟨m, ?_, hm⟩
      have hl : j < M.length := by rw [← S.len]; exact (List.getElem?_eq_some_iff.mp h).1
      simp [hl]
    · obtain ⟨m', h1, h2⟩ := S.at_ j b hb
      have nb : b ≠ a := fun q => e (S.inj j i a (by rw [← q]; exact hb) h)
      refine ⟨m', by rw [List.getElem?_set_ne (Ne.symm e)]; exact h1, ?_⟩
      cases m' with
      | lst ds => obtain ⟨vs, h1, h2⟩ := h2; exact ⟨vs, by rw [upd_ne nb]; exact h1, h2.mono x⟩
      | dK ds => obtain ⟨vs, h1, h2⟩ := h2; exact ⟨vs, by rw [upd_ne nb]; exact h1, h2.mono x⟩
      | ins C fs => obtain ⟨dx, vs, h1, h2⟩ := h2; exact ⟨dx, vs, by rw [upd_ne nb]; exact h1, h2.mono x⟩
      | opq => obtain ⟨o, h1⟩ := h2; exact ⟨o, by rw [upd_ne nb]; exact h1⟩
      | dead => exact h2
  · have e : j ≠ i := fun e => by subst e; rw [h] at hj; cases hj
    rw [List.getElem?_set_ne (Ne.symm e)]
    exact S.dead j hj
end

section
variable {X : Cx} {W : WX}
/-! ### argument lists, displays -/
def aNil : AF := fun _ => Ev.pure []
def aCons (f : EF) (g : AF) : AF := fun δ => f δ >>= fun d => g δ >>= fun ds => Ev.pure (d :: ds)
theorem rdA_bindL {K : PySem.W.Frag} {f : AF} {g : List D → Ev (List D)} {Q : List V → Hp → Prop} {ρ : List (Option Addr)} {H : Hp} {σ : St} {δ : Env} {M : Sto} (hE : DenE K ρ (frz ρ H) δ σ) (hS : StOk K ρ M H)
    (h : ResL K (fun c d H' => W c d σ H') ρ H Q ((f δ >>= g) M)) :
    rdA K W f σ H fun xs H1 => ∃ ρ1 ds M1, Nx ρ H ρ1 H1 ∧ DenE K ρ1 (frz ρ1 H1) δ σ ∧ StOk K ρ1 M1 H1 ∧ Dens K ρ1 (frz ρ1 H1) ds xs ∧ ResL K (fun c d H' => W c d σ H') ρ1 H1 Q (g ds M1) := by
  refine ⟨ρ, δ, M, hE, hS, ?_⟩
  rw [Ev.bind_run] at h
  cases e : f δ M with
  | ok d M' =>
    rw [e] at h
    exact fun ρ' v H' n s r => ⟨ρ', d, M', n, hE.mono n.ext, s, r, ResL.nx n h⟩
  | exc C fs M' =>
    rw [e] at h
    exact fun ρ' d H' n s r => h ρ' d H' n s r
  | stuck => rw [e] at h; exact h
theorem pda_nil : PDA X W [] aNil := pa_mono pa_nil fun σ H Q ⟨ρ, δ, M, hE, hS, h⟩ => h ρ [] H Nx.refl hS .nil
theorem pda_cons {e : Expr} {es : List Expr} {f : EF} {g : AF} (ha : PD X W e f) (hr : PDA X W es g) (hs : starEach (e :: es) X.env = (false, eval e X.env) :: starEach es X.env := by rfl) : PDA X W (e :: es) (aCons f g) :=
  pa_mono (pa_cons ha hr hs) fun σ H Q ⟨ρ, δ, M, hE, hS, h⟩ =>
    rd_mono (rd_bindL (f := f) (g := fun d => g δ >>= fun ds => Ev.pure (d :: ds)) hE hS h) fun x H1 ⟨ρ1, d1, M1, n1, e1, s1, r1, h1⟩ =>
      rdA_mono (rdA_bindL (f := g) (g := fun ds => Ev.pure (d1 :: ds)) e1 s1 h1) fun xs H2 ⟨ρ2, ds, M2, n2, e2, s2, r2, h2⟩ => h2 ρ2 (x :: xs) H2 Nx.refl s2 (.cons (r1.mono n2.ext) r2)
def eTup (f : AF) : EF := fun δ => f δ >>= fun ds => opt fun _ => if ds.length ≤ sizeLine then some (.tup ds) else none
def eLst (f : AF) : EF := fun δ => f δ >>= fun ds => opt fun _ => if ds.length ≤ sizeLine then some (.lst ds) else none
/-- a list that will change -/
def eLstM (f : AF) : EF := fun δ => f δ >>= fun ds M => if ds.length ≤ sizeLine then .ok (.ref M.length) (M ++ [.lst ds]) else .stuck
theorem pd_tup {es : List Expr} {f : AF} {x1 : Nat} {pos : Pos} (h : PDA X W es f) : PD X W (.Tuple es x1 pos) (eTup f) := pe_mono (pe_tup h) fun σ H Q ⟨ρ, δ, M, hE, hS, h⟩ =>
  rdA_mono (rdA_bind (f := f) (g := fun ds => opt fun _ => if ds.length ≤ sizeLine then some (.tup ds) else none) hE hS h) fun xs H1 ⟨ρ1, ds, M1, n1, e1, s1, r1, h1⟩ => by
    obtain ⟨z, ez, hz⟩ := opt_of h1
    split at ez
    · rename_i hl
      cases ez
      exact ⟨by rw [← r1.length]; exact hl, fun p hp => hz _ _ (Nx.new hp) (s1.new hp) (.tup (.of (frz_at (s1.notin hp) upd_same)) (r1.mono (Nx.new hp).ext))⟩
    · cases ez
theorem pd_lst {es : List Expr} {f : AF} {pos : Pos} (h : PDA X W es f) : PD X W (.List es pos) (eLst f) := pe_mono (pe_lst h) fun σ H Q ⟨ρ, δ, M, hE, hS, h⟩ =>
  rdA_mono (rdA_bind (f := f) (g := fun ds => opt fun _ => if ds.length ≤ sizeLine then some (.lst ds) else none) hE hS h) fun xs H1 ⟨ρ1, ds, M1, n1, e1, s1, r1, h1⟩ => by
    obtain ⟨z, ez, hz⟩ := opt_of h1
    split at ez
    · rename_i hl
      cases ez
      exact ⟨by rw [← r1.length]; exact hl, fun p hp => hz _ _ (Nx.new hp) (s1.new hp) (.lst (frz_at (s1.notin hp) upd_same) (r1.mono (Nx.new hp).ext))⟩
    · cases ez
/-- a new list joins the store -/
theorem joinL {K : PySem.W.Frag} {W' : Value → Option Addr → Hp → Prop} {ρ : List (Option Addr)} {H : Hp} {Q : VK} {ds : List D} {M : Sto} {vs : List V} {p : Addr} (h : Res K W' ρ H Q (.ok (.ref M.length) (M ++ [.lst ds]))) (S : StOk K ρ M H) (r : Dens K ρ (frz ρ H) ds vs) (hp : H p = none) : Q (.ref p) (upd H p (.lst vs)) := by
  have n := Nx.push (ρ := ρ) (o := .lst vs) hp
  refine h (ρ ++ [some p]) _ _ n (S.push hp ⟨vs, upd_same, r.mono n.ext⟩) (.ref ?_)
  rw [← S.len, List.getElem?_append_right (Nat.le_refl _)]
  simp
theorem pd_lstM {es : List Expr} {f : AF} {pos : Pos} (h : PDA X W es f) : PD X W (.List es pos) (eLstM f) := pe_mono (pe_lst h) fun σ H Q ⟨ρ, δ, M, hE, hS, h⟩ =>
  rdA_mono (rdA_bind (f := f) (g := fun ds M => if ds.length ≤ sizeLine then .ok (.ref M.length) (M ++ [.lst ds]) else .stuck) hE hS h) fun xs H1 ⟨ρ1, ds, M1, n1, e1, s1, r1, h1⟩ => by
    by_cases hl : ds.length ≤ sizeLine
    · rw [if_pos hl] at h1
      exact ⟨by rw [← r1.length]; exact hl, fun p hp => joinL h1 s1 r1 hp⟩
    · rw [if_neg hl] at h1
      exact h1.elim
/-- {} that will change -/
def eDctM : EF := fun _ M => .ok (.ref M.length) (M ++ [.dK []])
theorem pd_dctM {pos : Pos} : PD X W (.Dict [] [] pos) eDctM := pe_mono pe_dnewK fun σ H Q ⟨ρ, δ, M, hE, S, h⟩ p hp => by
  have n := Nx.push (ρ := ρ) (o := .dK []) hp
  refine h (ρ ++ [some p]) _ _ n (S.push hp ⟨[], upd_same, trivial⟩) (.ref ?_)
  rw [← S.len, List.getElem?_append_right (Nat.le_refl _)]
  simp

/-! ### truth -/
def truD (M : Sto) (d : D) : Option Bool := match vw M d with
  | .non => some false
  | .bl b => some b
  | .int i => some (i != 0)
  | .str x => if x.length ≤ sizeLine then some ((x.length : Int) != 0) else none
  | .tup xs => some !xs.isEmpty
  | .lst xs => some !xs.isEmpty
  | .rol xs => some !xs.isEmpty
  | _ => none
def tru (d : D) : Ev Bool := fun M => match truD M d with
  | some b => .ok b M
  | none => .stuck
theorem dens_empty {K : PySem.W.Frag} {ρ : List (Option Addr)} {Φ : Hp} {ds : List D} {vs : List V} (r : Dens K ρ Φ ds vs) : (!vs.isEmpty) = !ds.isEmpty := by
  cases r <;> rfl
theorem truD_of {K : PySem.W.Frag} {ρ : List (Option Addr)} {H : Hp} {M : Sto} {d : D} {v : V} {k : Bool} (S : StOk K ρ M H) (r : Den K ρ (frz ρ H) d v) (e : truD M d = some k) : TruV K v H k := by
  have s := seen_of S r
  unfold truD at e
  generalize vw M d = d' at s e
  cases s with
  | den z =>
    cases z with
    | non => cases e; rfl
    | bl b => cases e; rfl
    | int i => cases e; rfl
    | str x =>
      simp only at e
      split at e
      · cases e; exact ⟨by assumption, rfl⟩
      · cases e
    | ty T => cases e
    | cls C => cases e
    | tup h z2 => cases e; exact .inr (.inl ⟨_, same_sqT (frz_same ρ H) h, (dens_empty z2).symm⟩)
    | lst h z2 => cases e; exact .inl ⟨_, .of (frz_of h).2, (dens_empty z2).symm⟩
    | rol h z2 => cases e; exact .inl ⟨_, (frz_same ρ H).seq h, (dens_empty z2).symm⟩
    | dct h h2 z2 => cases e
    | ref h => cases e
    | ins h r => cases e
    | exc h h2 h3 r => cases e
  | lst h z2 => cases e; exact .inl ⟨_, .of h, (dens_empty z2).symm⟩
theorem tru_of {M M' : Sto} {d : D} {k : Bool} (e : tru d M = .ok k M') : M' = M ∧ truD M d = some k := by
  unfold tru at e
  cases q : truD M d with
  | none => rw [q] at e; cases e
  | some b => rw [q] at e; cases e; exact ⟨rfl, rfl⟩
def bTru (f : EF) : BF := fun δ => f δ >>= tru
/-- the truth of what is at hand, and what follows -/
theorem tru_next {α : Type} {M : Sto} {d : D} {g : Bool → Ev α} {P : Out α → Prop} (h : P ((tru d >>= g) M)) (hs : ¬ P .stuck) : ∃ k, truD M d = some k ∧ P (g k M) := by
  rw [Ev.bind_run] at h
  unfold tru at h
  cases q : truD M d with
  | none => rw [q] at h; exact (hs h).elim
  | some b => rw [q] at h; exact ⟨b, rfl, h⟩
theorem pd_truth {a : Expr} {f : EF} (ha : PD X W a f) (he : ∀ whole, isTrue a X.env whole = (do let v ← whole; standAt a.pos; holding [v] (truthy v)) := by intro _; rfl) : PDB X W a (bTru f) := pt_mono (pt_truth ha he) fun σ H Q ⟨ρ, δ, M, hE, hS, h⟩ =>
  rd_mono (rd_bindB (f := f) (g := tru) hE hS h) fun x H1 ⟨ρ1, d1, M1, n1, e1, s1, r1, h1⟩ => by
    unfold tru at h1
    cases q : truD M1 d1 with
    | none => rw [q] at h1; exact h1.elim
    | some k => rw [q] at h1; exact ⟨k, truD_of s1 r1 q, h1 ρ1 H1 Nx.refl s1⟩

/-! ### and, or, not, if -/
def eAnd (f g : EF) : EF := fun δ => f δ >>= fun x => tru x >>= fun k => if k = true then g δ else Ev.pure x
def eOr (f g : EF) : EF := fun δ => f δ >>= fun x => tru x >>= fun k => if k = true then Ev.pure x else g δ
def eNot (f : EF) : EF := fun δ => f δ >>= fun x => tru x >>= fun k => Ev.pure (.bl !k)
theorem pd_and {a b : Expr} {rest : List Expr} {pos : Pos} {f g : EF} (ha : PD X W a f) (hb : PD X W (.BoolOp .And (b :: rest) pos) g) : PD X W (.BoolOp .And (a :: b :: rest) pos) (eAnd f g) := pe_mono (pe_andT ha hb) fun σ H Q ⟨ρ, δ, M, hE, hS, h⟩ =>
  rd_mono (rd_bind (f := f) (g := fun x => tru x >>= fun k => if k = true then g δ else Ev.pure x) hE hS h) fun x H1 ⟨ρ1, d1, M1, n1, e1, s1, r1, h1⟩ => by
    obtain ⟨k, ek, hk⟩ := tru_next (P := Res X.K (fun c d H' => W c d σ H') ρ1 H1 Q) h1 (fun z => z)
    refine ⟨k, truD_of s1 r1 ek, ?_⟩
    cases k with
    | true => exact ⟨ρ1, δ, M1, e1, s1, hk⟩
    | false => exact hk.here s1 r1
theorem pd_or {a b : Expr} {rest : List Expr} {pos : Pos} {f g : EF} (ha : PD X W a f) (hb : PD X W (.BoolOp .Or (b :: rest) pos) g) : PD X W (.BoolOp .Or (a :: b :: rest) pos) (eOr f g) := pe_mono (pe_orT ha hb) fun σ H Q ⟨ρ, δ, M, hE, hS, h⟩ =>
  rd_mono (rd_bind (f := f) (g := fun x => tru x >>= fun k => if k = true then Ev.pure x else g δ) hE hS h) fun x H1 ⟨ρ1, d1, M1, n1, e1, s1, r1, h1⟩ => by
    obtain ⟨k, ek, hk⟩ := tru_next (P := Res X.K (fun c d H' => W c d σ H') ρ1 H1 Q) h1 (fun z => z)
    refine ⟨k, truD_of s1 r1 ek, ?_⟩
    cases k with
    | true => exact hk.here s1 r1
    | false => exact ⟨ρ1, δ, M1, e1, s1, hk⟩
theorem pd_one {op : BoolOp} {a : Expr} {pos : Pos} {f : EF} (ha : PD X W a f) : PD X W (.BoolOp op [a] pos) f := pe_one ha
theorem pd_not {a : Expr} {pos : Pos} {f : EF} (ha : PD X W a f) : PD X W (.UnaryOp .Not a pos) (eNot f) := pe_mono (pe_notT ha) fun σ H Q ⟨ρ, δ, M, hE, hS, h⟩ =>
  rd_mono (rd_bind (f := f) (g := fun x => tru x >>= fun k => Ev.pure (.bl !k)) hE hS h) fun x H1 ⟨ρ1, d1, M1, n1, e1, s1, r1, h1⟩ => by
    obtain ⟨k, ek, hk⟩ := tru_next (P := Res X.K (fun c d H' => W c d σ H') ρ1 H1 Q) h1 (fun z => z)
    exact ⟨k, truD_of s1 r1 ek, Res.here (W' := fun c d H' => W c d σ H') (show Res X.K _ ρ1 H1 Q (.ok (.bl !k) M1) from hk) s1 (.bl _)⟩
abbrev PDW (X : Cx) (W : WX) (e : Expr) (f : BF) : Prop := PW X e (rdB X.K W f)
theorem pw_mono {X : Cx} {e : Expr} {t t' : TT} (h : PW X e t) (m : ∀ σ H Q, t' σ H Q → t σ H Q) : PW X e t' := ⟨fun wh pins s σ H Q I q => h.run wh pins s σ H Q I (m σ H Q q)⟩
def bAnd (f g : BF) : BF := fun δ => f δ >>= fun k => if k = true then g δ else Ev.pure false
def bOr (f g : BF) : BF := fun δ => f δ >>= fun k => if k = true then Ev.pure true else g δ
def bNot (f : BF) : BF := fun δ => f δ >>= fun k => Ev.pure !k
theorem pdw_and1 {a : Expr} {pos : Pos} {f : BF} (ha : PDB X W a f) : PDW X W (.BoolOp .And [a] pos) f := pw_and1 ha
theorem pdw_or1 {a : Expr} {pos : Pos} {f : BF} (ha : PDB X W a f) : PDW X W (.BoolOp .Or [a] pos) f := pw_or1 ha
theorem pdw_and {a b : Expr} {rest : List Expr} {pos : Pos} {f g : BF} (ha : PDB X W a f) (hb : PDW X W (.BoolOp .And (b :: rest) pos) g) : PDW X W (.BoolOp .And (a :: b :: rest) pos) (bAnd f g) := pw_mono (pw_and ha hb) fun σ H Q ⟨ρ, δ, M, hE, hS, h⟩ =>
  rdB_mono (rdB_bindB (f := f) (g := fun k => if k = true then g δ else Ev.pure false) hE hS h) fun k H1 ⟨ρ1, M1, n1, e1, s1, h1⟩ => by
    cases k with
    | true => exact ⟨ρ1, δ, M1, e1, s1, h1⟩
    | false => exact h1 ρ1 H1 Nx.refl s1
theorem pdw_or {a b : Expr} {rest : List Expr} {pos : Pos} {f g : BF} (ha : PDB X W a f) (hb : PDW X W (.BoolOp .Or (b :: rest) pos) g) : PDW X W (.BoolOp .Or (a :: b :: rest) pos) (bOr f g) := pw_mono (pw_or ha hb) fun σ H Q ⟨ρ, δ, M, hE, hS, h⟩ =>
  rdB_mono (rdB_bindB (f := f) (g := fun k => if k = true then Ev.pure true else g δ) hE hS h) fun k H1 ⟨ρ1, M1, n1, e1, s1, h1⟩ => by
    cases k with
    | true => exact h1 ρ1 H1 Nx.refl s1
    | false => exact ⟨ρ1, δ, M1, e1, s1, h1⟩
theorem pdb_w {e : Expr} {f : BF} (h : PDW X W e f) : PDB X W e f := h.pt
theorem pdb_not {a : Expr} {pos : Pos} {f : BF} (ha : PDB X W a f) : PDB X W (.UnaryOp .Not a pos) (bNot f) := pt_mono (pt_not ha) fun σ H Q ⟨ρ, δ, M, hE, hS, h⟩ =>
  rdB_mono (rdB_bindB (f := f) (g := fun k => Ev.pure !k) hE hS h) fun k H1 ⟨ρ1, M1, n1, e1, s1, h1⟩ => h1 ρ1 H1 Nx.refl s1
def eIf (c : BF) (f g : EF) : EF := fun δ => c δ >>= fun k => if k = true then f δ else g δ
theorem pd_if {c a b : Expr} {pos : Pos} {fc : BF} {f g : EF} (hc : PDB X W c fc) (ha : PD X W a f) (hb : PD X W b g) : PD X W (.IfExp c a b pos) (eIf fc f g) := pe_mono (pe_ifExp hc ha hb) fun σ H Q ⟨ρ, δ, M, hE, hS, h⟩ =>
  rdB_mono (rdB_bind (f := fc) (g := fun k => if k = true then f δ else g δ) hE hS h) fun k H1 ⟨ρ1, M1, n1, e1, s1, h1⟩ => by
    cases k with
    | true => exact ⟨ρ1, δ, M1, e1, s1, h1⟩
    | false => exact ⟨ρ1, δ, M1, e1, s1, h1⟩
/-- a op b op' c -/
def eChain (g g' : OF) (fa fb fc : EF) : EF := fun δ => fa δ >>= fun x => fb δ >>= fun y => opt (g x y) >>= fun z => isBl z >>= fun k => if k = true then fc δ >>= fun w => opt (g' y w) else Ev.pure (.bl false)
theorem opt_next {α : Type} {M : Sto} {o : Sto → Option D} {g : D → Ev α} {P : Out α → Prop} (h : P ((opt o >>= g) M)) (hs : ¬ P .stuck) : ∃ d, o M = some d ∧ P (g d M) := by
  rw [Ev.bind_run] at h
  unfold opt at h
  cases q : o M with
  | none => rw [q] at h; exact (hs h).elim
  | some d => rw [q] at h; exact ⟨d, rfl, h⟩
theorem isBl_next {α : Type} {M : Sto} {d : D} {g : Bool → Ev α} {P : Out α → Prop} (h : P ((isBl d >>= g) M)) (hs : ¬ P .stuck) : ∃ b, d = .bl b ∧ P (g b M) := by
  rw [Ev.bind_run] at h
  cases d with
  | bl b => exact ⟨b, rfl, h⟩
  | _ => exact (hs h).elim
theorem chain_of {K : PySem.W.Frag} {g g' : OF} {fa fb fc : EF} {σ : St} {H : Hp} {Q : VK} (h : rd K W (eChain g g' fa fb fc) σ H Q) : tChain (rO K g) (rO K g') (rd K W fa) (rd K W fb) (rd K W fc) σ H Q := by
  obtain ⟨ρ, δ, M, hE, hS, h⟩ := h
  exact rd_mono (rd_bind (f := fa) (g := fun x => fb δ >>= fun y => opt (g x y) >>= fun z => isBl z >>= fun k => if k = true then fc δ >>= fun w => opt (g' y w) else Ev.pure (.bl false)) hE hS h) fun x H1 ⟨ρ1, d1, M1, n1, e1, s1, r1, h1⟩ =>
    rd_mono (rd_bind (f := fb) (g := fun y => opt (g d1 y) >>= fun z => isBl z >>= fun k => if k = true then fc δ >>= fun w => opt (g' y w) else Ev.pure (.bl false)) e1 s1 h1) fun y H2 ⟨ρ2, d2, M2, n2, e2, s2, r2, h2⟩ => by
      obtain ⟨z, ez, hz⟩ := opt_next (P := Res K (fun c d H' => W c d σ H') ρ2 H2 Q) h2 (fun z => z)
      obtain ⟨k, rfl, hk⟩ := isBl_next (P := Res K (fun c d H' => W c d σ H') ρ2 H2 Q) hz (fun z => z)
      refine ⟨ρ2, M2, d1, d2, _, s2, r1.mono n2.ext, r2, ez, fun v H3 n3 s3 r3 => ?_⟩
      cases r3
      refine ⟨k, rfl, ?_⟩
      cases k with
      | true =>
        have hk' : Res K (fun c d H' => W c d σ H') ρ2 H2 Q ((fc δ >>= fun w => opt (g' d2 w)) M2) := hk
        rw [if_pos rfl]
        exact rd_mono (rd_bind (f := fc) (g := fun w => opt (g' d2 w)) (e2.mono n3.ext) s3 (Res.nx n3 hk')) fun w H4 ⟨ρ4, d4, M4, n4, e4, s4, r4, h4⟩ => by
          obtain ⟨z, ez, hz⟩ := opt_of h4
          exact ⟨ρ4, M4, d2, d4, z, s4, (r2.mono n3.ext).mono n4.ext, r4, ez, hz⟩
      | false =>
        rw [if_neg Bool.false_ne_true]
        exact (show Res K (fun c d H' => W c d σ H') ρ2 H2 Q (.ok (.bl false) M2) from hk) ρ2 _ H3 n3 s3 (.bl _)
theorem pd_chain {op op' : CmpOp} {g g' : OF} {a b c : Expr} {fa fb fc : EF} {pos : Pos} (ho : OpR X (compareOp op) (rO X.K g)) (ho' : OpR X (compareOp op') (rO X.K g')) (ha : PD X W a fa) (hb : PD X W b fb) (hc : PD X W c fc)
    (hm : lastMarks [op, op'] [b, c] = false := by with_unfolding_all rfl) : PD X W (.Compare a [op, op'] [b, c] pos) (eChain g g' fa fb fc) := pe_mono (pe_chain ho ho' ha hb hc hm) fun _ _ _ h => chain_of h
theorem pd_chainB {op op' : CmpOp} {g g' : OF} {a b c : Expr} {fa fb fc : EF} {pos : Pos} (ho : OpR X (compareOp op) (rO X.K g)) (ho' : OpR X (compareOp op') (rO X.K g')) (ha : PD X W a fa) (hb : PD X W b fb) (hc : PD X W c fc)
    (hm : lastMarks [op, op'] [b, c] = false := by with_unfolding_all rfl) : PDB X W (.Compare a [op, op'] [b, c] pos) (bOf (eChain g g' fa fb fc)) := pt_mono (pt_chain ho ho' ha hb hc hm) fun _ _ _ h => by
  have q := tst_of h
  unfold tTest at q ⊢
  exact chain_of q
/-- -a -/
def eUn (g : D → Sto → Option D) (f : EF) : EF := fun δ => f δ >>= fun x => opt (g x)
def oNeg : D → Sto → Option D := fun x _ => match x with
  | .int i => some (.int (-i))
  | _ => none
theorem pd_neg {a : Expr} {pos : Pos} {f : EF} (ha : PD X W a f) : PD X W (.UnaryOp .USub a pos) (eUn oNeg f) := pe_mono (pe_un un_neg ha) fun σ H Q ⟨ρ, δ, M, hE, hS, h⟩ =>
  rd_mono (rd_bind (f := f) (g := fun x => opt (oNeg x)) hE hS h) fun x H1 ⟨ρ1, d1, M1, n1, e1, s1, r1, h1⟩ => by
    obtain ⟨z, ez, hz⟩ := opt_of h1
    unfold oNeg at ez
    split at ez
    · cases ez
      cases r1
      exact ⟨_, rfl, hz _ H1 Nx.refl s1 (.int _)⟩
    · cases ez

/-! ### items, slices -/
def oIx : OF := fun x y M => match y with
  | .int i => (match vw M x with
    | .lst xs => atI xs i
    | .rol xs => atI xs i
    | .tup xs => atI xs i
    | .str z => if z.length ≤ sizeLine then (atI z.cps.toList i).map fun c => .str ⟨#[c]⟩ else none
    | _ => none)
  | _ => none
theorem atI_den {K : PySem.W.Frag} {ρ : List (Option Addr)} {Φ : Hp} {ds : List D} {vs : List V} {i : Int} {d : D} (r : Dens K ρ Φ ds vs) (e : atI ds i = some d) : ∃ v, atI vs i = some v ∧ Den K ρ Φ d v := by
  unfold atI at e ⊢
  rw [← r.length]
  cases q : ixN ds.length i with
  | none => rw [q] at e; cases e
  | some j =>
    rw [q] at e
    exact r.get (show ds[j]? = some d from e)
theorem ix_of {K : PySem.W.Frag} {x y : V} {H : Hp} {Q : VK} (h : rO K oIx x y H Q) : rIx K x y H Q := by
  obtain ⟨ρ, M, a, b, d, S, ra, rb, e, q⟩ := h
  unfold oIx at e
  split at e
  · rename_i i
    cases rb
    have s := seen_of S ra
    generalize vw M a = a' at s e
    cases s with
    | den z =>
      cases z with
      | lst h r =>
        obtain ⟨v, h1, h2⟩ := atI_den r e
        exact .inl ⟨_, _, _, v, rfl, rfl, .of (frz_of h).2, h1, q v H Nx.refl S h2⟩
      | rol h r =>
        obtain ⟨v, h1, h2⟩ := atI_den r e
        exact .inl ⟨_, _, _, v, rfl, rfl, (frz_same ρ H).seq h, h1, q v H Nx.refl S h2⟩
      | tup h r =>
        obtain ⟨v, h1, h2⟩ := atI_den r e
        exact .inr (.inl ⟨_, _, _, v, rfl, rfl, same_sqT (frz_same ρ H) h, h1, q v H Nx.refl S h2⟩)
      | str z =>
        simp only at e
        split at e
        · rename_i hl
          cases ec : atI z.cps.toList i with
          | none => rw [ec] at e; cases e
          | some c => rw [ec] at e; cases e; exact .inr (.inr ⟨_, _, c, rfl, rfl, hl, ec, q _ H Nx.refl S (.str _)⟩)
        · cases e
      | _ => cases e
    | lst h r =>
      obtain ⟨v, h1, h2⟩ := atI_den r e
      exact .inl ⟨_, _, _, v, rfl, rfl, .of h, h1, q v H Nx.refl S h2⟩
  · cases e
theorem pd_ix {a b : Expr} {fa fb : EF} {pos : Pos} (ha : PD X W a fa) (hb : PD X W b fb) (hs : PlainIx b := by exact fun _ _ => rfl) : PD X W (.Subscript a b pos) (eBin oIx fa fb) := pe_mono (pe_ix ix_seq ha hb hs) fun σ H Q h => by
  have q := bin_of h
  exact rd_mono q fun x H1 h1 => rd_mono h1 fun y H2 h2 => ix_of h2
/-- the parts of a slice -/
abbrev OF1 := Env → Ev (Option Int)
def ResO (K : PySem.W.Frag) (W' : Value → Option Addr → Hp → Prop) (ρ : List (Option Addr)) (H : Hp) (Q : Option Int → Hp → Prop) : Out (Option Int) → Prop
  | .ok d M' => ∀ ρ' H', Nx ρ H ρ' H' → StOk K ρ' M' H' → Q d H'
  | .exc C fs M' => ∀ ρ' d H', Nx ρ H ρ' H' → StOk K ρ' M' H' → ExD K ρ' (frz ρ' H') fs d → W' (.ref (He.ga K C)) d H'
  | .stuck => False
def rdO (K : PySem.W.Frag) (W : WX) (f : OF1) : TO := fun σ H Q => ∃ ρ δ M, DenE K ρ (frz ρ H) δ σ ∧ StOk K ρ M H ∧ ResO K (fun c d H' => W c d σ H') ρ H Q (f δ M)
def PDO (X : Cx) (W : WX) (e : Option Expr) (f : OF1) : Prop := PO X e (rdO X.K W f)
theorem po_mono {e : Option Expr} {t t' : TO} (h : PO X e t) (m : ∀ σ H Q, t' σ H Q → t σ H Q) : PO X e t' := ⟨fun pins s σ H Q I q => h.run pins s σ H Q I (m σ H Q q)⟩
def sNo : OF1 := fun _ => Ev.pure none
def isI : D → Ev (Option Int)
  | .int i => Ev.pure (some i)
  | _ => Ev.fail
def sAt (f : EF) : OF1 := fun δ => f δ >>= isI
theorem pdo_none : PDO X W none sNo := po_mono po_none fun σ H Q ⟨ρ, δ, M, hE, hS, h⟩ => h ρ H Nx.refl hS
theorem pdo_some {e : Expr} {f : EF} (h : PD X W e f) : PDO X W (some e) (sAt f) := po_mono (po_some h) fun σ H Q ⟨ρ, δ, M, hE, hS, h⟩ => by
  refine ⟨ρ, δ, M, hE, hS, ?_⟩
  have h : ResO X.K (fun c d H' => W c d σ H') ρ H Q ((f δ >>= isI) M) := h
  rw [Ev.bind_run] at h
  cases e : f δ M with
  | ok d M' =>
    rw [e] at h
    intro ρ' v H' n s r
    cases r with
    | int i => exact ⟨i, rfl, h ρ' H' n s⟩
    | _ => exact h.elim
  | exc C fs M' => rw [e] at h; exact h
  | stuck => rw [e] at h; exact h
def cutD (xs : List D) (lo hi : Option Int) : List D := (xs.drop (HT.sIx xs.length 0 lo)).take (HT.sIx xs.length xs.length hi - HT.sIx xs.length 0 lo)
def oCut (x : D) (lo hi : Option Int) : Sto → Option D := fun M => match vw M x with
  | .lst xs => some (.lst (cutD xs lo hi))
  | .rol xs => some (.lst (cutD xs lo hi))
  | .tup xs => some (.tup (cutD xs lo hi))
  | _ => none
/-- .. into the store -/
def evCutM (x : D) (lo hi : Option Int) : Ev D := fun M => match rvw M x with
  | some xs => .ok (.ref M.length) (M ++ [.lst (cutD xs lo hi)])
  | none => .stuck
theorem cut_den {K : PySem.W.Frag} {ρ : List (Option Addr)} {Φ : Hp} {ds : List D} {vs : List V} (r : Dens K ρ Φ ds vs) (lo hi : Option Int) : Dens K ρ Φ (cutD ds lo hi) (cutV vs lo hi) := by
  unfold cutD cutV
  rw [← r.length]
  exact (r.drop _).take _
theorem cutD_whole {xs : List D} {lo hi : Option Int} (h : HT.sIx xs.length 0 lo = 0 ∧ HT.sIx xs.length xs.length hi = xs.length) : cutD xs lo hi = xs := by
  unfold cutD
  rw [h.1, h.2]
  simp
def eCut (f : EF) (lo hi : OF1) : EF := fun δ => f δ >>= fun x => lo δ >>= fun l => hi δ >>= fun h => opt (oCut x l h)
def eCutM (f : EF) (lo hi : OF1) : EF := fun δ => f δ >>= fun x => lo δ >>= fun l => hi δ >>= fun h => evCutM x l h
theorem rdO_bind {K : PySem.W.Frag} {f : OF1} {g : Option Int → Ev D} {Q : VK} {ρ : List (Option Addr)} {H : Hp} {σ : St} {δ : Env} {M : Sto} (hE : DenE K ρ (frz ρ H) δ σ) (hS : StOk K ρ M H)
    (h : Res K (fun c d H' => W c d σ H') ρ H Q ((f δ >>= g) M)) :
    rdO K W f σ H fun i H1 => ∃ ρ1 M1, Nx ρ H ρ1 H1 ∧ DenE K ρ1 (frz ρ1 H1) δ σ ∧ StOk K ρ1 M1 H1 ∧ Res K (fun c d H' => W c d σ H') ρ1 H1 Q (g i M1) := by
  refine ⟨ρ, δ, M, hE, hS, ?_⟩
  rw [Ev.bind_run] at h
  cases e : f δ M with
  | ok d M' =>
    rw [e] at h
    exact fun ρ' H' n s => ⟨ρ', M', n, hE.mono n.ext, s, Res.nx n h⟩
  | exc C fs M' =>
    rw [e] at h
    exact fun ρ' d H' n s r => h ρ' d H' n s r
  | stuck => rw [e] at h; exact h
theorem rdO_mono {K : PySem.W.Frag} {f : OF1} {σ : St} {H : Hp} {Q Q' : Option Int → Hp → Prop} (h : rdO K W f σ H Q) (m : ∀ v H', Q v H' → Q' v H') : rdO K W f σ H Q' := by
  obtain ⟨ρ, δ, M, hE, hS, h⟩ := h
  refine ⟨ρ, δ, M, hE, hS, ?_⟩
  revert h
  generalize f δ M = r
  intro h
  cases r with
  | ok d M' => exact fun ρ' H' n s => m _ _ (h ρ' H' n s)
  | exc C fs M' => exact h
  | stuck => exact h
theorem pd_cut {e : Expr} {lo hi : Option Expr} {f : EF} {l h : OF1} {pos p2 : Pos} (he : PD X W e f) (hl : PDO X W lo l) (hh : PDO X W hi h) : PD X W (.Subscript e (.Slice lo hi none p2) pos) (eCut f l h) :=
  pe_mono (pe_slice (sl_list.or sl_tupA) he hl hh) fun σ H Q ⟨ρ, δ, M, hE, hS, q⟩ =>
    rd_mono (rd_bind (f := f) (g := fun x => l δ >>= fun i => h δ >>= fun j => opt (oCut x i j)) hE hS q) fun x H1 ⟨ρ1, d1, M1, n1, e1, s1, r1, h1⟩ =>
      rdO_mono (rdO_bind (f := l) (g := fun i => h δ >>= fun j => opt (oCut d1 i j)) e1 s1 h1) fun i H2 ⟨ρ2, M2, n2, e2, s2, h2⟩ =>
        rdO_mono (rdO_bind (f := h) (g := fun j => opt (oCut d1 i j)) e2 s2 h2) fun j H3 ⟨ρ3, M3, n3, e3, s3, h3⟩ => by
          obtain ⟨z, ez, hz⟩ := opt_of h3
          have r3 := (r1.mono n2.ext).mono n3.ext
          have sn := seen_of s3 r3
          unfold oCut at ez
          generalize vw M3 d1 = a' at sn ez
          cases sn with
          | den z =>
            cases z with
            | lst h r =>
              cases ez
              exact .inl ⟨_, _, rfl, .of (frz_of h).2, fun p hp => hz _ _ (Nx.new hp) (s3.new hp) (.lst (frz_at (s3.notin hp) upd_same) (cut_den (r.mono (Nx.new hp).ext) i j))⟩
            | rol h r =>
              cases ez
              exact .inl ⟨_, _, rfl, (frz_same ρ3 H3).seq h, fun p hp => hz _ _ (Nx.new hp) (s3.new hp) (.lst (frz_at (s3.notin hp) upd_same) (cut_den (r.mono (Nx.new hp).ext) i j))⟩
            | tup h r =>
              cases ez
              refine .inr ⟨_, _, rfl, same_sqT (frz_same ρ3 H3) h, fun w => ?_, fun _ p hp => hz _ _ (Nx.new hp) (s3.new hp) (.tup (.of (frz_at (s3.notin hp) upd_same)) (cut_den (r.mono (Nx.new hp).ext) i j))⟩
              rw [← r.length] at w
              rw [cutD_whole w] at hz
              exact hz _ _ Nx.refl s3 (.tup h r)
            | _ => cases ez
          | lst h r =>
            cases ez
            exact .inl ⟨_, _, rfl, .of h, fun p hp => hz _ _ (Nx.new hp) (s3.new hp) (.lst (frz_at (s3.notin hp) upd_same) (cut_den (r.mono (Nx.new hp).ext) i j))⟩
theorem pd_cutM {e : Expr} {lo hi : Option Expr} {f : EF} {l h : OF1} {pos p2 : Pos} (he : PD X W e f) (hl : PDO X W lo l) (hh : PDO X W hi h) : PD X W (.Subscript e (.Slice lo hi none p2) pos) (eCutM f l h) :=
  pe_mono (pe_slice sl_list he hl hh) fun σ H Q ⟨ρ, δ, M, hE, hS, q⟩ =>
    rd_mono (rd_bind (f := f) (g := fun x => l δ >>= fun i => h δ >>= fun j => evCutM x i j) hE hS q) fun x H1 ⟨ρ1, d1, M1, n1, e1, s1, r1, h1⟩ =>
      rdO_mono (rdO_bind (f := l) (g := fun i => h δ >>= fun j => evCutM d1 i j) e1 s1 h1) fun i H2 ⟨ρ2, M2, n2, e2, s2, h2⟩ =>
        rdO_mono (rdO_bind (f := h) (g := fun j => evCutM d1 i j) e2 s2 h2) fun j H3 ⟨ρ3, M3, n3, e3, s3, h3⟩ => by
          have r3 := (r1.mono n2.ext).mono n3.ext
          unfold evCutM at h3
          cases ev : rvw M3 d1 with
          | none => rw [ev] at h3; exact h3.elim
          | some xs =>
            rw [ev] at h3
            obtain ⟨a, vs, rfl, hs, r⟩ := rvw_of s3 r3 ev
            exact ⟨_, _, rfl, hs, fun p hp => joinL h3 s3 (cut_den r i j) hp⟩
end
end L2.MK

end

section
set_option Elab.async false
set_option linter.all false
set_option maxRecDepth 100000
set_option maxHeartbeats 3200000
set_option autoImplicit false
/-! Sets of ints and texts, made from lists, sorted. -/
namespace L2.MK
open PySem PySem.Spec PyProof.Rows PySem.W

/-! ### what a set of keys is -/
def keyB (e : Int × Value) : Key := match e.2 with | .int i _ => .inl i | .str x _ => .inr x | _ => .inl 0
def GoodB (w : World) (e : Int × Value) : Prop := ∃ k, keyIs k e.2 = true ∧ e.1 = keyH w k
theorem keyB_of {k : Key} {e : Int × Value} (h : keyIs k e.2 = true) : keyB e = k := by
  unfold keyB
  rcases keyIs_shape h with ⟨i, t, rfl, e2⟩ | ⟨x, t, rfl, e2⟩ <;> rw [e2]
theorem key_scan' {k : Key} {v : Value} (h : keyIs k v = true) : v.scannable = true := by
  rcases keyIs_shape h with ⟨i, t, rfl, rfl⟩ | ⟨x, t, rfl, rfl⟩ <;> rfl
/-- the set of keys at a: S its members, n their number; its table rises and can be walked -/
def SetB (w : World) (h : Heap) (a : Addr) (S : Key → Bool) (n : Nat) : Prop :=
  ∃ o es ep t, h.get? a = some o ∧ o.ExactSet ∧ o.data = .set es ep t ∧ (∀ e ∈ es.toList, GoodB w e) ∧ (es.toList.map keyB).Nodup ∧ (∀ k, S k = true ↔ k ∈ es.toList.map keyB) ∧
    es.size < scanBound ∧ t.fits es.size = true ∧ es.size = n ∧ Ris t.place.toList ∧ (w.params.followText "set-order" = true ∨ t.led = true)

section
variable {P : Program} {w : World} {h h' : Heap} {a : Addr} {S : Key → Bool} {n : Nat}

theorem SetB.at (R : SetB w h a S n) (k : ∀ o, h.get? a = some o → h'.get? a = some o) : SetB w h' a S n := by
  obtain ⟨o, es, ep, t, ho, r⟩ := R
  exact ⟨o, es, ep, t, k o ho, r⟩
theorem SetB.lt (R : SetB w h a S n) : a < h.objs.size := by
  obtain ⟨o, es, ep, t, ho, r⟩ := R
  exact Heap.lt_size ho
theorem SetB.congr {S' : Key → Bool} (R : SetB w h a S n) (e : ∀ k, S' k = S k) : SetB w h a S' n := by
  have q : S' = S := funext e
  rw [q]; exact R
theorem goodB_elems {l : List (Int × Value)} (g : ∀ e ∈ l, GoodB w e) : ElemsOf (mixKind P w) l := fun e he => by
  obtain ⟨k, h1, h2⟩ := g e he
  exact ⟨⟨k, h1, h2⟩, key_scan' h1⟩
theorem goodB_is {e : Int × Value} (g : GoodB w e) (k : Key) : (mixKind P w).is k e.2 = true ↔ keyB e = k := by
  obtain ⟨k0, h1, _⟩ := g
  rw [keyB_of h1]
  exact ⟨fun h2 => (mixKind P w).inj e.2 k0 k h1 h2, fun q => q ▸ h1⟩
theorem goodB_mem {l : List (Int × Value)} (g : ∀ e ∈ l, GoodB w e) (k : Key) : k ∈ l.map keyB ↔ ∃ e ∈ l, (mixKind P w).is k e.2 = true := by
  rw [List.mem_map]
  constructor
  · rintro ⟨e, he, q⟩
    exact ⟨e, he, (goodB_is (g e he) k).2 q⟩
  · rintro ⟨e, he, q⟩
    exact ⟨e, he, (goodB_is (g e he) k).1 q⟩
theorem SetB.setOf (R : SetB w h a S n) : h.SetOf (mixKind P w) a S n := by
  obtain ⟨o, es, ep, t, ho, hx, hd, g, nd, hm, hb, hf, hn, _⟩ := R
  exact ⟨o, es, ep, t, ho, hx, hd, goodB_elems g, fun k => (hm k).trans (goodB_mem g k), hb, hf, hn⟩
end

section
variable {P : Program} {w : World} {A : Around} {E : Value → Shared → Prop} {s : Shared} {a : Addr} {S : Key → Bool} {n : Nat}

/-! ### add -/
theorem storeB_at {h : Heap} {a : Addr} {o : Obj} {es es' : Array (Int × Value)} {ep : Nat} {t t' : SetTable} (ho : h.get? a = some o) (hd : o.data = .set es ep t) :
    (h.update a (Obj.putSet es' t')).get? a = some { o with data := .set es' (ep + 1) t' } := by
  have q := Heap.get?_update_self (Obj.putSet es' t') ho (by rw [putSet_of es' t' hd]; rfl)
  rw [putSet_of es' t' hd] at q
  exact q

theorem setB_add_tail {g : Bool → Sem Unit} (hg : ∀ (b : Bool) (s₁ : Shared) (Q' : Unit → Shared → Prop), Q' () s₁ → wpAny (model P w) A (g b) Q' E s₁)
    {o : Obj} {es : Array (Int × Value)} {ep : Nat} {t : SetTable} (ho : s.heap.get? a = some o) (hex : o.ExactSet) (hd : o.data = .set es ep t)
    {es1 : Array (Int × Value)} {t2 : SetTable} {S' : Key → Bool} (g1 : ∀ e ∈ es1.toList, GoodB w e) (nd1 : (es1.toList.map keyB).Nodup) (m1 : ∀ k, S' k = true ↔ k ∈ es1.toList.map keyB)
    (hb1 : es1.size < scanBound) (hf2 : t2.fits es1.size = true) (hr : Ris t2.place.toList) (hl : w.params.followText "set-order" = true ∨ t2.led = true) {wasDummy : Bool} {R : Option Bool → Shared → Prop}
    (hR : ∀ h', Heap.SameBut a s.heap h' → SetB w h' a S' es1.size → R (some true) { s with heap := h' }) :
    wpAny (model P w) A (do
        storeSet a es1 t2
        if (!wasDummy && t2.tooFull) = true then do
            g (relayAll t2 es1 (SetTable.grown es1.size)).2.2
            storeSet a (relayAll t2 es1 (SetTable.grown es1.size)).1 (relayAll t2 es1 (SetTable.grown es1.size)).2.1
            pure (some true)
          else pure (some true)) R E s := by
  refine wpAny_bind (wpAny_storeSet_of ho hd ?_ (fits_of_scanBound hb1))
  have ho1 := storeB_at (es' := es1) (t' := t2) ho hd
  have sb1 := Heap.SameBut.update s.heap a (Obj.putSet es1 t2)
  split
  · have pm := relayAll_perm t2 es1 (SetTable.grown es1.size)
    have hf3 := relayAll_fits t2 es1 (SetTable.grown es1.size)
    have hr3 := relayAll_ris t2 es1 (SetTable.grown es1.size)
    have hl3 := relayAll_led t2 es1 (SetTable.grown es1.size)
    generalize relayAll t2 es1 (SetTable.grown es1.size) = Z at pm hf3 hr3 hl3 ⊢
    obtain ⟨es2, t3, gave⟩ := Z
    dsimp only at pm hf3 hr3 hl3 ⊢
    have hsz : es2.size = es1.size := by rw [← Array.length_toList, pm.length_eq, Array.length_toList]
    have hb2 : es2.size < scanBound := by rw [hsz]; exact hb1
    refine wpAny_bind (hg _ _ _ ?_)
    refine wpAny_bind (wpAny_storeSet_of ho1 rfl ?_ (fits_of_scanBound hb2))
    have ho2 := storeB_at (es' := es2) (t' := t3) ho1 rfl
    refine wpAny_pure (hR _ (sb1.trans (Heap.SameBut.update _ a _)) ?_)
    exact ⟨_, es2, _, t3, ho2, hex, rfl, fun e he => g1 e (pm.mem_iff.mp he), (pm.map keyB).nodup_iff.mpr nd1, fun k => (m1 k).trans (pm.map keyB).mem_iff.symm, hb2, hf3, hsz, hr3,
      hl.imp id fun z => by rw [hl3]; exact z⟩
  · exact wpAny_pure (hR _ sb1 ⟨_, es1, _, t2, ho1, hex, rfl, g1, nd1, m1, hb1, hf2, rfl, hr, hl⟩)

theorem setB_add_hashed {k : Key} {x : Value} {Q : Bool → Shared → Prop} (hkey : keyIs k x = true) (R : SetB w s.heap a S n) (room : n + 1 < scanBound)
    (hQ : ∀ h', Heap.SameBut a s.heap h' → SetB w h' a (fun j => S j || decide (j = k)) (if S k = true then n else n + 1) → Q (!S k) { s with heap := h' }) :
    wpAny (model P w) A (setAddHashed a x ((mixKind P w).hash k)) Q E s := by
  obtain ⟨o, es, ep, t, ho, hex, hd, g, nd, hm, hb, hf, hn, hr, hl⟩ := R
  have hsc : x.scannable = true := key_scan' hkey
  have hel : ElemsOf (mixKind P w) es.toList := goodB_elems g
  unfold setAddHashed setAddHashedIn
  refine wpAny_holding (wpAny_bind (wpAny_setState_of ho hd hf ?_))
  dsimp only
  rw [byScan_of hsc hb hel]
  simp only [↓reduceIte]
  unfold setAddByScan
  refine wpAny_bind ?_
  refine wpAny_bind (wpAny_rule ?_)
  refine wpAny_bind (wpAny_setScan_of hkey ho hd hf hel ?_)
  cases hfi : List.findIdx? (fun e => (mixKind P w).is k e.2) es.toList with
  | some j =>
    dsimp only
    obtain ⟨hj, pj, _⟩ := List.findIdx?_eq_some_iff_getElem.mp hfi
    have hSk : S k = true := (hm k).2 ((goodB_mem (P := P) (w := w) g k).2 ⟨es.toList[j], List.getElem_mem hj, pj⟩)
    refine wpAny_pure (wpAny_pure ?_)
    have q := hQ s.heap (Heap.SameBut.refl a s.heap) ⟨o, es, ep, t, ho, hex, hd, g, nd, fun i => by
      rw [Bool.or_eq_true, decide_eq_true_eq, ← hm i]
      exact ⟨fun z => z.elim id (fun e => e ▸ hSk), .inl⟩, hb, hf, by rw [if_pos hSk]; exact hn, hr, hl⟩
    rw [hSk] at q
    exact q
  | none =>
    dsimp only
    have hnk : k ∉ es.toList.map keyB := fun z => by
      obtain ⟨e, he, q⟩ := (goodB_mem (P := P) (w := w) g k).1 z
      have c := List.findIdx?_eq_none_iff.mp hfi e he
      rw [q] at c
      cases c
    have hSk : S k = false := by
      cases q : S k with
      | false => rfl
      | true => exact absurd ((hm k).1 q) hnk
    have hgw : ∀ (b : Bool) {s₁ : Shared} {Q' : Unit → Shared → Prop}, Q' () s₁ → wpAny (model P w) A (match b with | true => rule "set.scan.the-table-gave-way" | false => pure ()) Q' E s₁ :=
      fun b s₁ Q' q => by cases b <;> first | exact wpAny_pure q | exact wpAny_rule q
    have pm := layNew_perm t es ((mixKind P w).hash k) x
    have hf1 := layNew_fits t es ((mixKind P w).hash k) x
    have hr1 := layNew_ris t es ((mixKind P w).hash k) x hr
    have hl1 := layNew_led t es ((mixKind P w).hash k) x
    generalize layNew t es ((mixKind P w).hash k) x = Z at pm hf1 hr1 hl1 ⊢
    obtain ⟨es1, t1, wasDummy, gave⟩ := Z
    dsimp only at pm hf1 hr1 hl1 ⊢
    rw [Array.toList_push] at pm
    have pc : es1.toList.Perm (((mixKind P w).hash k, x) :: es.toList) := pm.trans (List.perm_append_singleton _ _)
    have pk : (es1.toList.map keyB).Perm (k :: es.toList.map keyB) := by
      have z := pc.map keyB
      rw [List.map_cons, keyB_of (e := ((mixKind P w).hash k, x)) hkey] at z
      exact z
    have g1 : ∀ e ∈ es1.toList, GoodB w e := fun e he => by
      rcases List.mem_cons.mp (pc.mem_iff.mp he) with z | z
      · rw [z]; exact ⟨k, hkey, rfl⟩
      · exact g e z
    have nd1 : (es1.toList.map keyB).Nodup := pk.nodup_iff.mpr (List.nodup_cons.mpr ⟨hnk, nd⟩)
    have m1 : ∀ i, (S i || decide (i = k)) = true ↔ i ∈ es1.toList.map keyB := fun i => by
      rw [Bool.or_eq_true, decide_eq_true_eq, hm i, pk.mem_iff, List.mem_cons]
      exact Or.comm
    have hsz : es1.size = n + 1 := by rw [← Array.length_toList, pc.length_eq, List.length_cons, Array.length_toList, hn]
    have hb1 : es1.size < scanBound := by rw [hsz]; exact room
    have hled : w.params.followText "set-order" = true ∨ t1.led = true := hl.imp id fun z => by rw [hl1]; exact z
    have fin : ∀ h', Heap.SameBut a s.heap h' → SetB w h' a (fun j => S j || decide (j = k)) es1.size → Q true { s with heap := h' } := fun h' sb r => by
      have q := hQ h' sb
      rw [hSk] at q
      rw [hsz] at r
      exact q r
    refine wpAny_bind (hgw _ ?_)
    split
    · refine wpAny_bind ?_
      rw [hashByValue_scannable 8 hsc]
      refine wpAny_pure ?_
      refine setB_add_tail ?_ ho hex hd g1 nd1 m1 hb1 ?_ ?_ ?_ ?_
      · intro b s₁ Q' q; cases b <;> first | exact wpAny_pure q | exact wpAny_rule q
      · first | (split <;> first | exact hf1 | exact SetTable.fits_plain_off hf1) | exact hf1
      · first | (split <;> exact hr1) | exact hr1
      · first | (split <;> exact hled) | exact hled
      · intro h' sb r; dsimp only; exact wpAny_pure (fin h' sb r)
    · refine wpAny_bind (wpAny_pure ?_)
      simp only [↓reduceIte]
      refine setB_add_tail ?_ ho hex hd g1 nd1 m1 hb1 hf1 hr1 hled ?_
      · intro b s₁ Q' q; cases b <;> first | exact wpAny_pure q | exact wpAny_rule q
      · intro h' sb r; dsimp only; exact wpAny_pure (fin h' sb r)
theorem setB_fresh {h : Heap} (w : World) : SetB w (h.push { cls := .type "set", dict := none, data := .set #[] 0 (.fresh 0 0 (!w.params.followText "set-order")) }) h.objs.size (fun _ => false) 0 :=
  ⟨_, #[], 0, _, Heap.get?_push_size _ rfl, ⟨rfl, rfl, rfl⟩, rfl, (fun e he => by simp at he), (by simp), (fun k => by simp), (by decide), (by rfl), rfl, List.Pairwise.nil, by
    show _ ∨ (!w.params.followText "set-order") = true
    cases w.params.followText "set-order"
    · exact .inr rfl
    · exact .inl rfl⟩
end
/-! ### set(xs), by an invariant -/
section
variable {P : Program} {w : World} {A : Around} {E : Value → Shared → Prop} {s : Shared}
/-- what a step of the filling shows -/
def AddStep (P : Program) (w : World) (h0 : Heap) (S : Addr) (items : Nat → Value → Prop) (B : Around → Prop) (J : Nat → Heap → Prop) : Prop :=
  ∀ (i : Nat) (v : Value) (A : Around) (E : Value → Shared → Prop) (s : Shared) (Q : Bool → Shared → Prop), B A → items i v → (∀ b o, h0.get? b = some o → s.heap.get? b = some o) → J i s.heap →
    (∀ b h' tk, s.toks ≤ tk → Heap.SameBut S s.heap h' → J (i + 1) h' → Q b { s with heap := h', toks := tk }) → wpAny (model P w) A (setAdd S v) Q E s
theorem set_update_J {I : Addr} {fp wr : List Addr} {G : Array GenState → Array GenState → Prop} {n : Nat} {Pv : Nat → Value → Prop} {St : Nat → Shared → Prop} {R : Result → Shared → Prop} {B : Around → Prop} {J : Nat → Heap → Prop}
    (W : WalksS P w A.in1 I fp wr G n Pv St) (S : Addr) (hSf : S ∉ fp) (h0 : Heap) (hS0 : h0.get? S = none) (hw0 : ∀ b ∈ wr, h0.get? b = none) (hB : B A.in1)
    (hst0 : ∀ i h h', J i h → (∀ o, h.get? S = some o → h'.get? S = some o) → (∀ b o, h0.get? b = some o → h'.get? b = some o) → J i h') (hadd : AddStep P w h0 S Pv B J) :
    ∀ (k i : Nat) (s : Shared), n - i = k → i ≤ n → St i s → (∀ b o, h0.get? b = some o → s.heap.get? b = some o) → J i s.heap →
      (∀ s', Moved (S :: wr) G s s' → J n s'.heap → (∀ b o, h0.get? b = some o → s'.heap.get? b = some o) → R (.ok (.ret .none)) s') →
      codeAny (model P w) A (.builtin "set.update.loop" ⟨[.ref S, .ref I], []⟩) R s := by
  have hSw : S ∉ wr := fun h => hSf (W.sub _ h)
  have hsub : ∀ b ∈ wr, b ∈ S :: wr := fun b hb => List.mem_cons_of_mem _ hb
  have keepM : ∀ {s s' : Shared}, Moved wr G s s' → (∀ b o, h0.get? b = some o → s.heap.get? b = some o) → ∀ b o, h0.get? b = some o → s'.heap.get? b = some o := fun hm hkp b o e =>
    hm.heap b o (fun hb => by rw [hw0 b hb] at e; cases e) (hkp b o e)
  intro k
  induction k with
  | zero =>
    intro i s hk' hi hst hkp hJ hR
    have hin : i = n := by omega
    subst hin
    refine codeAny_builtin PyProof.Rows.F.entry_set_update_loop ?_
    rw [Around.under_plainId PyProof.Rows.F.plain_set_update_loop _]
    show wpAny _ A.in1 (pyNext (.ref I) >>= _) _ _ s
    refine wpAny_bind (W.done s _ _ hst fun s' hm => ?_)
    show wpAny _ A.in1 (ret Value.none) _ _ s'
    have hkp' := keepM hm hkp
    exact wpAny_pure (hR s' (hm.mono hsub) (hst0 _ _ _ hJ (fun o e => hm.heap S o hSw e) hkp') hkp')
  | succ k ih =>
    intro i s hk' hi hst hkp hJ hR
    have hlt : i < n := by omega
    refine codeAny_builtin PyProof.Rows.F.entry_set_update_loop ?_
    rw [Around.under_plainId PyProof.Rows.F.plain_set_update_loop _]
    show wpAny _ A.in1 (pyNext (.ref I) >>= _) _ _ s
    refine wpAny_bind (W.item i s _ _ hlt hst fun v s' hP hst' hm => ?_)
    have hkp' := keepM hm hkp
    have hJ' : J i s'.heap := hst0 _ _ _ hJ (fun o e => hm.heap S o hSw e) hkp'
    show wpAny _ A.in1 (holding [v] (setAdd S v) >>= _) _ _ s'
    refine wpAny_bind (wpAny_holding (hadd i v _ _ s' _ hB hP hkp' hJ' fun b h' tk htk hsb hJ2 => ?_))
    have hkp2 : ∀ b o, h0.get? b = some o → h'.get? b = some o := fun b o e => (hsb.2 b (fun z => by rw [z, hS0] at e; cases e)).trans (hkp' b o e)
    refine wpAny_pure ⟨plainId_quiet PyProof.Rows.F.plain_set_update_loop _, ih (i + 1) _ (by omega) hlt (W.frame _ s' _ _ hst' htk fun b hb o e => ?_) hkp2 hJ2 fun s'' hm'' hJ'' hkp'' => ?_⟩
    · rw [hsb.2 b (fun h : b = S => hSf (by rw [← h]; exact hb))]; exact e
    · refine hR s'' (Moved.trans W.gtrans ((hm.mono hsub).then_heap htk fun b o hb e => ?_) hm'') hJ'' hkp''
      rw [hsb.2 b (fun h : b = S => hb (by rw [h]; exact List.mem_cons_self))]; exact e

set_option maxRecDepth 100000 in
set_option maxHeartbeats 3200000 in
/-- set(xs) -/
theorem call_set_J {l : Addr} {items : Array Value} {Q : Value → Shared → Prop} {B : Around → Prop} {J : Nat → Heap → Prop} (hh : A.handled = none) (hl : s.heap.IsList l items) (hB : B A.in1.in1.in1)
    (hst0 : ∀ i h h', J i h → (∀ o, h.get? s.heap.objs.size = some o → h'.get? s.heap.objs.size = some o) → (∀ b o, s.heap.get? b = some o → h'.get? b = some o) → J i h')
    (hJ0 : ∀ h : Heap, h.get? s.heap.objs.size = some { cls := .type "set", dict := none, data := .set #[] 0 (.fresh 0 0 (!w.params.followText "set-order")) } → (∀ b o, s.heap.get? b = some o → h.get? b = some o) → J 0 h)
    (hadd : AddStep P w s.heap s.heap.objs.size (fun i v => items[i]? = some v) B J)
    (h : ∀ (h' : Heap) (tk : Nat), J items.size h' → (∀ b o, s.heap.get? b = some o → h'.get? b = some o) → Q (.ref s.heap.objs.size) { s with heap := h', toks := tk }) :
    wpAny (model P w) A (call (.type "set") [.ref l]) Q E s := by
  obtain ⟨c, tl, hmro⟩ := PySem.F.called_set.mro
  have hmade := PySem.F.called_set.made
  have hsub := PySem.F.called_set.sub
  refine wpAny_call (codeAny_of_tree ?_)
  show wpAny _ _ (callAny (.type "set") _) _ _ _
  refine wpAny_pure ⟨Code.quiet_builtin _ (by decide +kernel), codeAny_builtin PySem.F.entry_type_call ?_⟩
  rw [Around.under_plain (weight_type_call_type "set" [.ref l] []) rfl]
  have h1 := PySem.F.called_set.notType
  have h2 := PySem.F.called_set.canCreate
  have hct := PySem.F.typeCall_set_1 (.ref l)
  repeat (any_goals (first | assumption | wp_step))

  refine codeAny_mono (code_set_led1 (.ref l) (E := E) (Q₁ := fun obj s₁ => obj = .ref s.heap.objs.size ∧ s₁ = { s with heap := s.heap.push { cls := .type "set", dict := none, data := .set #[] 0 (.fresh 0 0 (!w.params.followText "set-order")) } }) ⟨rfl, rfl⟩) fun r s₁ hr => ?_
  cases r with
  | error e => exact hr
  | ok fl =>
    cases fl with
    | ret obj =>
      obtain ⟨rfl, rfl⟩ := hr
      have hS : (s.heap.push { cls := .type "set", dict := none, data := .set #[] 0 (.fresh 0 0 (!w.params.followText "set-order")) }).get? s.heap.objs.size = some { cls := .type "set", dict := none, data := .set #[] 0 (.fresh 0 0 (!w.params.followText "set-order")) } := Heap.get?_push_size _ rfl
      have hT : Shared.TypeIs { s with heap := s.heap.push { cls := .type "set", dict := none, data := .set #[] 0 (.fresh 0 0 (!w.params.followText "set-order")) } } (.ref s.heap.objs.size) "set" := ⟨_, hS, rfl⟩
      have hli := PySem.F.called_set.init.lookup
      have hbi := PySem.F.called_set.init.bind (.ref s.heap.objs.size)
      repeat (any_goals (first | assumption | wp_step))

      refine codeAny_mono (codeAny_call_builtin (R := wants (fun r s₂ => r = .none ∧ ∃ h' tk, s₂ = { s with heap := h', toks := tk } ∧ J items.size h' ∧
          (∀ b o, s.heap.get? b = some o → h'.get? b = some o)) E) PySem.F.called_set.init.plain PySem.F.entry_set_init (check_set_init_1 hT ?_)) fun r₂ s₂ hr₂ => ?_
      · obtain ⟨ol, hol, hcl, nl, hdl⟩ := hl
        obtain ⟨ocls, odict, odata, oslots⟩ := ol
        simp only at hcl hdl
        subst hcl; subst hdl
        have hol' : (s.heap.push { cls := .type "set", dict := none, data := .set #[] 0 (.fresh 0 0 (!w.params.followText "set-order")) }).get? l = some { cls := .type "list", dict := odict, data := .seq items nl, slots := oslots } := Heap.get?_push_of_some _ hol
        have hsls := PySem.F.sub_list_set
        have hslf := PySem.F.sub_list_frozenset
        have hne : (Value.type "list" == Value.type "dict") = false := by decide
        have hl1 : (s.heap.push { cls := .type "set", dict := none, data := .set #[] 0 (.fresh 0 0 (!w.params.followText "set-order")) }).IsList l items := ⟨_, hol', rfl, nl, rfl⟩
        unfold Builtin.«set.__init__» noKeywords Builtin.Frozenset.updateFrom
        generalize hPI : pyIter = PI
        wp_walk
        subst hPI

        refine wpAny_pyIter_list hl1 ?_
        refine wpAny_bind (wpAny_runValue ?_)
        have hlS : l < s.heap.objs.size := Heap.lt_size hol
        have hh3 : A.in1.in1.in1.handled = none := by simp [hh]
        have hz1 : (s.heap.push { cls := .type "set", dict := none, data := .set #[] 0 (.fresh 0 0 (!w.params.followText "set-order")) }).objs.size = s.heap.objs.size + 1 := Heap.size_push ..
        have hneI : l ≠ (s.heap.push { cls := .type "set", dict := none, data := .set #[] 0 (.fresh 0 0 (!w.params.followText "set-order")) }).objs.size := by
          rw [Heap.size_push]; exact Nat.ne_of_lt (Nat.lt_succ_of_lt hlS)
        have hSf : s.heap.objs.size ∉ [(s.heap.push { cls := .type "set", dict := none, data := .set #[] 0 (.fresh 0 0 (!w.params.followText "set-order")) }).objs.size, l] := by
          rw [Heap.size_push]; simp only [List.mem_cons, List.mem_singleton, List.not_mem_nil, or_false, not_or]
          exact ⟨Nat.ne_of_lt (Nat.lt_succ_self _), Nat.ne_of_gt hlS⟩
        have none_of : ∀ b, s.heap.objs.size ≤ b → s.heap.get? b = none := fun b hb => by
          cases q : s.heap.get? b with
          | none => rfl
          | some o => exact absurd (Nat.lt_of_lt_of_le (Heap.lt_size q) hb) (Nat.lt_irrefl _)
        refine set_update_J (B := B) (J := J) ((Walks.list hh3 _ l hneI items).toS) s.heap.objs.size
          hSf s.heap (none_of _ (Nat.le_refl _)) (fun b hb => none_of b (by
            rw [List.mem_singleton.mp hb, Heap.size_push]
            exact Nat.le_succ _)) hB hst0 hadd (items.size - 0) 0 _ (by omega) (Nat.zero_le _)
          ⟨⟨_, Heap.get?_push_size _ rfl, rfl, rfl⟩, (hl1.push _)⟩ (fun b o e => Heap.get?_push_of_some _ (Heap.get?_push_of_some _ e)) ?hS0 ?hR
        case hS0 =>
          have hget : ((s.heap.push { cls := .type "set", dict := none, data := .set #[] 0 (.fresh 0 0 (!w.params.followText "set-order")) }).push { cls := .type "list_iterator", data := .fields #[.ref l, .int 0 0] }).get? s.heap.objs.size
              = some { cls := .type "set", dict := none, data := .set #[] 0 (.fresh 0 0 (!w.params.followText "set-order")) } := Heap.get?_push_of_some _ hS
          exact hJ0 _ hget (fun b o e => Heap.get?_push_of_some _ (Heap.get?_push_of_some _ e))
        case hR =>
          intro s' hm hS' hkp
          obtain ⟨h', g2, d', tk', os'⟩ := s'
          have eg : g2 = s.gens := hm.gens
          have ed : d' = s.drawn := hm.drawn
          have eo : os' = s.os := hm.os
          subst eg; subst ed; subst eo
          show wpAny _ _ _ _ _ _
          refine wpAny_pure ?_
          show wpAny _ _ (ret Value.none) _ _ _
          exact wpAny_pure ⟨rfl, h', tk', rfl, hS', hkp⟩

      · cases r₂ with
        | error e => exact hr₂
        | ok fl₂ =>
          cases fl₂ with
          | ret r =>
            obtain ⟨rfl, h', tk, rfl, hS', hk'⟩ := hr₂
            repeat (any_goals (first | assumption | wp_step))
            exact h _ _ hS' hk'
          | _ => exact hr₂.elim
    | _ => exact hr.elim
end
end L2.MK

end

section
set_option Elab.async false
set_option linter.all false
set_option maxRecDepth 100000
set_option maxHeartbeats 1000000
set_option autoImplicit false
/-! sorted(set(..)) of texts, of ints. -/
namespace L2.MK
open PySem PySem.Spec PyProof.Rows PySem.W

section
variable {P : Program} {w : World} {A : Around} {E : Value → Shared → Prop} {s : Shared}
/-- the values are these keys -/
def KeysAre : List Value → List Key → Prop
  | [], [] => True
  | v :: vs, k :: ks => keyIs k v = true ∧ KeysAre vs ks
  | _, _ => False
theorem KeysAre.get : ∀ {vs : List Value} {ks : List Key} {i : Nat} {v : Value}, KeysAre vs ks → vs[i]? = some v → ∃ k, ks[i]? = some k ∧ keyIs k v = true
  | [], [], _, _, _, e => by simp at e
  | v :: vs, k :: ks, 0, _, h, e => by simp at e; subst e; exact ⟨k, rfl, h.1⟩
  | v :: vs, k :: ks, i + 1, _, h, e => by simpa using KeysAre.get (i := i) h.2 (by simpa using e)
  | [], _ :: _, _, _, h, _ => h.elim
  | _ :: _, [], _, _, h, _ => h.elim
theorem KeysAre.length : ∀ {vs : List Value} {ks : List Key}, KeysAre vs ks → vs.length = ks.length
  | [], [], _ => rfl
  | _ :: _, _ :: _, h => congrArg (· + 1) (KeysAre.length h.2)
  | [], _ :: _, h => h.elim
  | _ :: _, [], h => h.elim
theorem keysAre_vals : ∀ {ks : List Key} {us : List Value}, Vals (ks.map kV) us → KeysAre us ks
  | [], _, .nil => trivial
  | .inl i :: ks, _, .cons r t => by obtain ⟨u, rfl⟩ := r; exact ⟨keyIs_int _ _, keysAre_vals t⟩
  | .inr x :: ks, _, .cons r t => by obtain ⟨u, rfl⟩ := r; exact ⟨keyIs_str _ _, keysAre_vals t⟩
/-- the set at a, with the keys S -/
def SetKs (w : World) (h : Heap) (a : Addr) (S : Key → Bool) : Prop := ∃ n, SetB w h a S n
def SetKO (w : World) (a : Addr) (S : Key → Bool) : HO := .ext fun h => SetKs w h a S
theorem setKO_new {H : Hp} {h : Heap} {a : Addr} {S : Key → Bool} (R : SetKs w h a S) : ObjOk P w H h a (SetKO w a S) := by
  have ⟨n, o, _, _, _, ho, _⟩ := R
  exact ⟨R, ⟨o, ho⟩, fun h1 h2 ⟨m, p⟩ k => ⟨m, SetB.at p k⟩⟩
theorem call_set_keys {l : Addr} {items : Array Value} {ks : List Key} {Q : Value → Shared → Prop} (hh : A.handled = none) (hl : s.heap.IsList l items) (hk : KeysAre items.toList ks) (hz : ks.length + 1 < scanBound)
    (h : ∀ (h' : Heap) (tk : Nat), SetKs w h' s.heap.objs.size (fun k => ks.any fun x => decide (x = k)) → (∀ b o, s.heap.get? b = some o → h'.get? b = some o) → Q (.ref s.heap.objs.size) { s with heap := h', toks := tk }) :
    wpAny (model P w) A (call (.type "set") [.ref l]) Q E s := by
  have hsz : items.size = ks.length := by rw [← Array.length_toList]; exact hk.length
  refine call_set_J (B := fun _ => True) (J := fun i h' => ∃ n, n ≤ i ∧ SetB w h' s.heap.objs.size (fun k => (ks.take i).any fun x => decide (x = k)) n) hh hl trivial (fun i h1 h2 ⟨n, hn, r⟩ k1 _ => ⟨n, hn, r.at k1⟩) (fun h1 e _ => ?_) ?_ fun h' tk ⟨n, hn, r⟩ kp => ?_
  · refine ⟨0, Nat.le_refl _, _, #[], 0, _, e, ⟨rfl, rfl, rfl⟩, rfl, (fun e he => by simp at he), (by simp), (fun k => by simp), (by decide), (by rfl), rfl, List.Pairwise.nil, ?_⟩
    show _ ∨ (!w.params.followText "set-order") = true
    cases w.params.followText "set-order"
    · exact .inr rfl
    · exact .inl rfl
  · intro i v A E s1 Q1 _ hv kp ⟨n, hn, r⟩ hQ
    obtain ⟨k, e1, e2⟩ := hk.get (i := i) (v := v) (by rw [Array.getElem?_toList]; exact hv)
    have hi : i < ks.length := (List.getElem?_eq_some_iff.mp e1).1
    unfold setAdd
    refine wpAny_holding (wpAny_bind ((mixKind P w).pyHash (k := k) e2 ?_))
    refine setB_add_hashed (s := { s1 with toks := s1.toks + 1 }) e2 r (by omega) fun h' sb r2 => hQ _ h' _ (Nat.le_succ _) sb ⟨_, ?_, r2.congr fun j => ?_⟩
    · split <;> omega
    · rw [List.take_succ, e1]
      simp only [Option.toList_some, List.any_append, List.any_cons, List.any_nil, Bool.or_false]
      congr 1
      by_cases h : k = j
      · rw [decide_eq_true h, decide_eq_true h.symm]
      · rw [decide_eq_false h, decide_eq_false (fun q => h q.symm)]
  · refine h h' tk ⟨n, ?_⟩ kp
    rw [hsz, List.take_length] at r
    exact r
/-- the order of texts -/
def strLe (x y : Str) : Bool := decide (x.cps.toList ≤ y.cps.toList)
/-- each once -/
def dedupL {α : Type} [DecidableEq α] : List α → List α
  | [] => []
  | x :: xs => if x ∈ xs then dedupL xs else x :: dedupL xs
theorem mem_dedupL {α : Type} [DecidableEq α] {a : α} : ∀ {l : List α}, a ∈ dedupL l ↔ a ∈ l
  | [] => Iff.rfl
  | x :: xs => by
    unfold dedupL
    split
    · rename_i h
      rw [mem_dedupL, List.mem_cons]
      exact ⟨.inr, fun q => q.elim (fun e => e ▸ h) id⟩
    · rw [List.mem_cons, mem_dedupL, List.mem_cons]
theorem nodup_dedupL {α : Type} [DecidableEq α] : ∀ l : List α, (dedupL l).Nodup
  | [] => List.nodup_nil
  | x :: xs => by
    unfold dedupL
    split
    · exact nodup_dedupL xs
    · rename_i h
      exact List.nodup_cons.mpr ⟨fun q => h (mem_dedupL.mp q), nodup_dedupL xs⟩
theorem length_dedupL {α : Type} [DecidableEq α] : ∀ l : List α, (dedupL l).length ≤ l.length
  | [] => Nat.le_refl _
  | x :: xs => by
    unfold dedupL
    have := length_dedupL xs
    split <;> simp <;> omega
/-- each once, in order -/
def sortU (xs : List Str) : List Str := (dedupL xs).mergeSort strLe
theorem strLe_trans (a b c : Str) : strLe a b = true → strLe b c = true → strLe a c = true := fun h1 h2 => decide_eq_true (Std.le_trans (of_decide_eq_true h1) (of_decide_eq_true h2))
theorem strLe_total (a b : Str) : (strLe a b || strLe b a) = true := by
  rcases Std.le_total (a := a.cps.toList) (b := b.cps.toList) with h | h
  · rw [show strLe a b = true from decide_eq_true h]; rfl
  · rw [show strLe b a = true from decide_eq_true h, Bool.or_true]
theorem strLe_anti (a b : Str) (h1 : strLe a b = true) (h2 : strLe b a = true) : a = b := by
  have e := Std.le_antisymm (of_decide_eq_true h1) (of_decide_eq_true h2)
  cases a with
  | mk x => cases b with
    | mk y =>
      have e' : x.toList = y.toList := e
      have : x = y := by rw [← Array.toArray_toList (xs := x), e', Array.toArray_toList]
      rw [this]
theorem perm_sorted_eq {α : Type} {le : α → α → Bool} (anti : ∀ a b, le a b = true → le b a = true → a = b) : ∀ {l1 l2 : List α}, l1.Perm l2 → l1.Pairwise (fun a b => le a b = true) → l2.Pairwise (fun a b => le a b = true) → l1 = l2
  | [], l2, p, _, _ => (List.perm_nil.mp p.symm).symm
  | a :: l1, [], p, _, _ => by have := p.length_eq; simp at this
  | a :: l1, b :: l2, p, h1, h2 => by
    have e : a = b := by
      have ha : a ∈ b :: l2 := p.mem_iff.mp List.mem_cons_self
      have hb : b ∈ a :: l1 := p.mem_iff.mpr List.mem_cons_self
      rcases List.mem_cons.mp ha with q | q
      · exact q
      · rcases List.mem_cons.mp hb with r | r
        · exact r.symm
        · exact anti _ _ ((List.pairwise_cons.mp h1).1 _ r) ((List.pairwise_cons.mp h2).1 _ q)
    subst e
    rw [perm_sorted_eq anti ((List.perm_cons a).mp p) (List.pairwise_cons.mp h1).2 (List.pairwise_cons.mp h2).2]
theorem perm_of_mem {α : Type} [DecidableEq α] {l1 l2 : List α} (n1 : l1.Nodup) (n2 : l2.Nodup) (h : ∀ a, a ∈ l1 ↔ a ∈ l2) : l1.Perm l2 := (List.perm_ext_iff_of_nodup n1 n2).mpr h
theorem sortU_of {xs ys : List Str} (n : ys.Nodup) (m : ∀ a, a ∈ ys ↔ a ∈ xs) : ys.mergeSort strLe = sortU xs := by
  refine perm_sorted_eq strLe_anti ?_ (List.pairwise_mergeSort strLe_trans strLe_total _) (List.pairwise_mergeSort strLe_trans strLe_total _)
  refine (List.mergeSort_perm _ _).trans (((perm_of_mem n (nodup_dedupL xs) fun a => (m a).trans mem_dedupL.symm)).trans (List.mergeSort_perm _ _).symm)
theorem sorted_keys {a : Addr} {xs : List Str} {Q : Value → Shared → Prop} (hh : A.handled = none) (hu : A.units + 64 < cLine) (R : SetKs w s.heap a (fun k => (xs.map Sum.inr).any fun x => decide (x = k)))
    (hQ : ∀ s' p (out : List Value) (c : Nat), (∀ b o, s.heap.get? b = some o → s'.heap.get? b = some o) → s'.gens = s.gens → s'.os = s.os → s.heap.objs.size ≤ p →
      s'.heap.get? p = some (seqObj "list" out.toArray c) → StrsAre out (sortU xs) → (sortU xs).length ≤ sizeLine → Q (.ref p) s') :
    wpAny (model P w) A (call (.builtin "sorted") [.ref a]) Q E s := by
  obtain ⟨n, o, es, ep, t, ho, hex, hd, g, nd, hm, hb, hf, hn, hr, hl⟩ := R
  have kE : ∀ e ∈ es.toList, ∃ x u, e.2 = .str x u ∧ x ∈ xs ∧ keyB e = .inr x := fun e he => by
    obtain ⟨k, h1, _⟩ := g e he
    have h2 := (hm k).mpr (List.mem_map.mpr ⟨e, he, keyB_of h1⟩)
    obtain ⟨z, hz, ez⟩ := List.any_eq_true.mp h2
    obtain ⟨x, hx, rfl⟩ := List.mem_map.mp hz
    have e3 : (Sum.inr x : Key) = k := of_decide_eq_true ez
    subst e3
    rcases keyIs_shape h1 with ⟨i, t, q, _⟩ | ⟨y, t, q, e4⟩
    · cases q
    · cases q
      exact ⟨x, t, e4, hx, keyB_of h1⟩
  have memK : ∀ x, x ∈ xs → ∃ e ∈ es.toList, keyB e = .inr x := fun x hx => by
    have h2 : (Sum.inr x : Key) ∈ es.toList.map keyB := (hm (.inr x)).mp (List.any_eq_true.mpr ⟨.inr x, List.mem_map.mpr ⟨x, hx, rfl⟩, decide_eq_true rfl⟩)
    obtain ⟨e, he, q⟩ := List.mem_map.mp h2
    exact ⟨e, he, q⟩
  let un : Value → Str := fun v => match v with | .str x _ => x | _ => ⟨#[]⟩
  have ndE : ((es.toList.map (·.2)).map un).Nodup := by
    have e1 : es.toList.map keyB = ((es.toList.map (·.2)).map un).map Sum.inr := by
      rw [List.map_map, List.map_map]
      refine List.map_congr_left fun e he => ?_
      obtain ⟨x, u, e1, _, e2⟩ := kE e he
      rw [e2]
      show Sum.inr x = Sum.inr (un e.2)
      rw [e1]
    rw [e1] at nd
    exact List.Pairwise.of_map _ (fun a b h e => h (congrArg _ e)) nd
  refine sorted_gen (β := Str) (enc := fun x => .str x) (R := fun v x => ∃ u, v = .str x u) (fun bs => bs.Nodup ∧ (∀ a, a ∈ bs ↔ a ∈ xs) ∧ bs.length ≤ sizeLine)
    (fun bs hg => ⟨AllAlike.of fun _ _ => rfl, Sortable.others fun b => ⟨(fun z => nomatch z), fun _ z => nomatch z⟩, hg.2.2, fun b _ => by show A.units + 2 + 0 < cLine; omega⟩)
    (fun Q1 E' h1 => collect_set (A := A.in1) hh ⟨o, ho, hex.1, hd⟩ hf hb hr hl fun s1 vs k1 hz g1 o1 pm => ?_) fun s' p bs out c kp hg ho' hp hget he hgood => ?_
  · have each : ∀ {vs : List Value}, (∀ v ∈ vs, ∃ x u, v = .str x u) → EachIs (fun v x => ∃ u, v = Value.str x u) vs (vs.map un) := by
      intro vs
      induction vs with
      | nil => intro _; exact .nil
      | cons v vs ih =>
        intro h
        obtain ⟨x, u, rfl⟩ := h v List.mem_cons_self
        exact .cons ⟨u, rfl⟩ (ih fun y hy => h y (List.mem_cons_of_mem _ hy))
    have hv : ∀ v ∈ vs, ∃ x u, v = Value.str x u := fun v hv => by
      obtain ⟨e, he, q⟩ := List.mem_map.mp (pm.mem_iff.mp hv)
      obtain ⟨x, u, e1, _⟩ := kE e he
      exact ⟨x, u, by rw [← q]; exact e1⟩
    refine h1 s1 vs (vs.map un) k1 hz g1 o1 (each hv) ((each hv).mono fun v x ⟨u, e⟩ => ⟨_, by rw [e]; exact Reads.str x u⟩) ⟨?_, fun a => ?_, ?_⟩
    · exact ((pm.map un).nodup_iff).mpr ndE
    · rw [(pm.map un).mem_iff, List.mem_map]
      constructor
      · rintro ⟨v, hv, rfl⟩
        obtain ⟨e, he, rfl⟩ := List.mem_map.mp hv
        obtain ⟨x, u, e1, e2, _⟩ := kE e he
        show un e.2 ∈ xs
        rw [e1]; exact e2
      · intro ha
        obtain ⟨e, he, q⟩ := memK a ha
        obtain ⟨x, u, e1, _, e2⟩ := kE e he
        rw [e2] at q
        cases q
        exact ⟨e.2, List.mem_map.mpr ⟨e, he, rfl⟩, by rw [e1]⟩
    · rw [List.length_map, pm.length_eq, List.length_map, Array.length_toList]
      exact fits_of_scanBound hb
  · have e1 : bs.mergeSort (dataLe false fun x => PyData.str x) = sortU xs := by
      rw [show (dataLe false fun x : Str => PyData.str x) = strLe from dataLe_str id]
      exact sortU_of hgood.1 hgood.2.1
    rw [e1] at he
    refine hQ s' p out c kp hg ho' hp hget ?_ ?_
    · clear hget e1
      revert he
      generalize sortU xs = l
      intro he
      induction he with
      | nil => exact .nil
      | cons h _ ih => obtain ⟨u, rfl⟩ := h; exact .cons _ _ ih
    · rw [← e1, (List.mergeSort_perm _ _).length_eq]
      exact hgood.2.2
end
section
variable {X : Cx}
/-- set(xs) of texts -/
def rSetS (w : World) (K : PySem.W.Frag) : List V → Hp → VK → Prop := fun xs H Q => ∃ (l : Addr) (ks : List Str), xs = [.ref l] ∧ SqL K H l (ks.map V.str) ∧ ks.length < 1000 ∧ ∀ p, H p = none → Q (.ref p) (upd H p (SetKO w p fun k => (ks.map Sum.inr).any fun x => decide (x = k)))
theorem call_setS (hc : X.calm = true) : CallR X (.type "set") (rSetS X.w X.K) := by
  intro pins s σ H xs us Q I r h
  obtain ⟨l, ks, rfl, hs, hz, q⟩ := h
  obtain ⟨u, rfl, ru⟩ := vals1 r
  cases ru
  obtain ⟨its, rv, ⟨o, n, ho, hcl, _, hd⟩, _⟩ := I.list hs
  have hk : KeysAre its (ks.map Sum.inr) := keysAre_vals (by rw [List.map_map]; exact rv)
  refine call_set_keys (I.ok.hd hc) (items := its.toArray) ⟨o, ho, hcl, n, hd⟩ (by rw [List.toList_toArray]; exact hk) (by rw [List.length_map]; unfold scanBound; omega) fun h' tk R kp => ?_
  have hn : H s.heap.objs.size = none := I.hok.fresh (Nat.le_refl _)
  exact ⟨.ref _, _, I.laid (t' := tk) kp (Nat.le_refl _) (setKO_new R), rfl, q _ hn⟩
/-- sorted(set) of texts -/
def rSortS (w : World) : List V → Hp → VK → Prop := fun xs H Q => ∃ (a : Addr) (ks : List Str), xs = [.ref a] ∧ H a = some (SetKO w a fun k => (ks.map Sum.inr).any fun x => decide (x = k)) ∧ ∀ p, H p = none → Q (.ref p) (upd H p (.lst ((sortU ks).map V.str)))
theorem vals_strs : ∀ {vs : List Value} {xs : List Str}, StrsAre vs xs → Vals (xs.map V.str) vs
  | _, _, .nil => .nil
  | _, _, .cons x t r => .cons ⟨_, rfl⟩ (vals_strs r)
theorem call_sortS (hc : X.calm = true) (hu : X.A.units + 64 < cLine) : CallR X (.builtin "sorted") (rSortS X.w) := by
  intro pins s σ H xs us Q I r h
  obtain ⟨a, ks, rfl, ha, q⟩ := h
  obtain ⟨u, rfl, ru⟩ := vals1 r
  cases ru
  have R := (I.hok a _ ha).1
  refine sorted_keys (I.ok.hd hc) hu R fun s' p out c kp hg ho' hp hget hs hl => ?_
  have hn : H p = none := I.hok.fresh hp
  have new : ObjOk X.prog X.w (upd H p (.lst ((sortU ks).map V.str))) s'.heap p (.lst ((sortU ks).map V.str)) := ⟨by rw [List.length_map]; exact hl, out, c, vals_strs hs, hget⟩
  exact inv_out (I.call (g' := s'.gens) (d' := s'.drawn) (t' := s'.toks) (ch := []) (Un.laid kp hp hn) (I.hok.laid kp hp new) (by rw [hg]; exact I.bare) (fun _ z => nomatch z)) ho' (v := .ref p) rfl (q p hn)
end
end L2.MK

end

section
set_option Elab.async false
set_option linter.all false
set_option maxRecDepth 100000
set_option maxHeartbeats 2000000
set_option autoImplicit false
/-! Set comprehensions of texts and ints, two clauses. -/
namespace L2.MK
open PySem PySem.Spec PyProof.Rows PySem.W L2

/-- the set of keys at a, n of them -/
def SetBk (w : World) (a : Addr) (S : Key → Bool) (n : Nat) : HO := .ext fun h => SetB w h a S n
theorem setBk_new {w : World} {P : Program} {H : Hp} {h : Heap} {a : Addr} {S : Key → Bool} {n : Nat} (R : SetB w h a S n) : ObjOk P w H h a (SetBk w a S n) := by
  have ⟨o, _, _, _, ho, _⟩ := R
  exact ⟨R, ⟨o, ho⟩, fun h1 h2 p k => SetB.at p k⟩
theorem keyIs_rel {c : Key} {u : Value} (r : RelV (kV c) u) : keyIs c u = true := by
  cases c with
  | inl i => obtain ⟨t, rfl⟩ := r; exact keyIs_int _ _
  | inr x => obtain ⟨t, rfl⟩ := r; exact keyIs_str _ _
section
variable {X : Cx}
theorem setBk_get {pins : List (Addr × Obj)} {σ : L2.St} {H : Hp} {s : Shared} {a : Addr} {S : Key → Bool} {n : Nat} (I : Inv X pins σ H s) (ha : H a = some (SetBk X.w a S n)) : SetB X.w s.heap a S n := (I.hok a _ ha).1
theorem call_set_addK {A : Around} {E : Value → Shared → Prop} {s : Shared} {P : Program} {w : World} {a : Addr} {S : Key → Bool} {n : Nat} {k : Key} {x : Value} {Q : Value → Shared → Prop} (hk : keyIs k x = true) (R : SetB w s.heap a S n) (room : n + 1 < scanBound)
    (hQ : ∀ h', Heap.SameBut a s.heap h' → SetB w h' a (fun j => S j || decide (j = k)) (if S k = true then n else n + 1) → Q .none { s with heap := h', toks := s.toks + 1 }) :
    wpAny (model P w) A (call (.builtin "set.add") [.ref a, x]) Q E s := by
  have hS : s.heap.SetOf (mixKind P w) a S n := R.setOf
  refine wpAny_call_entry F.slot_set_add hS.typeIs F.entry_set_add ?_ (F.args_set_add_2 _ _)
  unfold Builtin.«set.add» Builtin.Frozenset.oneOther
  simp only [List.isEmpty_nil, bind_assoc]
  unfold Builtin.Frozenset.addrOf setAdd
  refine wpAny_bind (wpAny_pure ?_)
  try dsimp only
  refine wpAny_bind (wpAny_pure ?_)
  try dsimp only
  refine wpAny_bind ?_
  refine wpAny_holding ?_
  refine wpAny_bind ((mixKind P w).pyHash (k := k) hk ?_)
  refine setB_add_hashed (s := { s with toks := s.toks + 1 }) hk R room fun h' sb r => ?_
  show wpAny _ _ (ret Value.none) _ _ _
  exact wpAny_pure ⟨_, rfl, hQ h' sb r⟩
theorem addBk_ok {pins : List (Addr × Obj)} {σ : L2.St} {H : Hp} {s : Shared} {E : Value → Shared → Prop} {D : Addr} {S : Key → Bool} {n : Nat} {y : Key} {u : Value} {Q : Value → Shared → Prop} (I : Inv X pins σ H s) (hD : H D = some (SetBk X.w D S n)) (room : n + 1 < scanBound) (hk : keyIs y u = true)
    (h : ∀ s', Inv X pins σ (upd H D (SetBk X.w D (fun j => S j || decide (j = y)) (if S y = true then n else n + 1))) s' → Q .none s') : wpAny (model X.prog X.w) X.A (call (.builtin "set.add") [.ref D, u]) Q E s := by
  have R := setBk_get I hD
  refine call_set_addK hk R room fun h' sb new => ?_
  have he : ∃ u, h'.get? D = some u := by
    have ⟨o, _, _, _, ho, _⟩ := new
    exact ⟨o, ho⟩
  exact h _ (I.write (e := D) (t' := s.toks + 1) (by rw [hD]; trivial) (.inl rfl) (fun b u hb hu => (sb.2 b hb).trans hu) he (setBk_new new))
end
theorem compTurn2_outS (elt t0 i0 t1 i1 : Expr) (ifs0 ifs1 : List Expr) (scope : Scope) (pos : Pos) (it acc : Value) (env : PySem.Env) :
    compTurn (.SetComp elt [⟨t0, i0, ifs0, 0⟩, ⟨t1, i1, ifs1, 0⟩] scope pos) 0 it acc env = (do
      standAt i0.pos
      match ← pyNext it with
      | none => pure (.done .next)
      | some v =>
        letOwnedTupleGo t0 it v
        assign t0 env v
        let mut ok := true
        for c in ifs0 do
          if ok then ok ← isTrue c env (eval c env)
        if ok then
          let x ← eval i1 env
          standAt i1.pos
          let x ← foldedSetIterable i1 env x
          let _ ← runOwn (.compStart (.SetComp elt [⟨t0, i0, ifs0, 0⟩, ⟨t1, i1, ifs1, 0⟩] scope pos) 1 (← holding [x] (pyIter x)) acc env) env
        again (.compLoop (.SetComp elt [⟨t0, i0, ifs0, 0⟩, ⟨t1, i1, ifs1, 0⟩] scope pos) 0 it acc env)) := by rfl
theorem compTurn2_inS (elt t0 i0 t1 i1 : Expr) (ifs0 ifs1 : List Expr) (scope : Scope) (pos : Pos) (it acc : Value) (env : PySem.Env) :
    compTurn (.SetComp elt [⟨t0, i0, ifs0, 0⟩, ⟨t1, i1, ifs1, 0⟩] scope pos) 1 it acc env = (do
      standAt i1.pos
      match ← pyNext it with
      | none => pure (.done .next)
      | some v =>
        letOwnedTupleGo t1 it v
        assign t1 env v
        let mut ok := true
        for c in ifs1 do
          if ok then ok ← isTrue c env (eval c env)
        if ok then
          (do let v ← eval elt env; standAt elt.pos; let _ ← call (.builtin "set.add") [acc, v])
        again (.compLoop (.SetComp elt [⟨t0, i0, ifs0, 0⟩, ⟨t1, i1, ifs1, 0⟩] scope pos) 1 it acc env)) := by rfl

section
variable {prog : Program} {w : World} {A : Around} {R : Result → Shared → Prop} {s : Shared} {elt t0 i0 t1 i1 : Expr} {ifs0 ifs1 : List Expr} {scope : Scope} {pos : Pos} {it acc : Value} {env : PySem.Env}
/-- the loop of the first clause -/
theorem compLoop2_outS (hs : ∀ x, foldedSetIterable i1 env x = pure x) (I : Nat → Shared → Prop)
    (turn : ∀ n s, I n s → wpAny (model prog w) A (pyNext it) (fun r s₁ => match r with
      | none => R (.ok .next) s₁
      | some v => wpAny (model prog w) A (letOwnedTupleGo t0 it v) (fun _ s₁' => wpAny (model prog w) A (assign t0 env v) (fun _ s₂ =>
          wpAny (model prog w) A (forIn ifs0 true fun c r => if r = true then do let ok ← isTrue c env (eval c env); pure (ForInStep.yield ok) else pure (ForInStep.yield r)) (fun ok s₃ =>
            if ok = true then wpAny (model prog w) A (eval i1 env) (fun x s₄ => wpAny (model prog w) A (pyIter x) (fun it1 s₅ =>
              codeAny (model prog w) A (.compStart (.SetComp elt [⟨t0, i0, ifs0, 0⟩, ⟨t1, i1, ifs1, 0⟩] scope pos) 1 it1 acc env) (fun r s' => match r with
                | .ok _ => ∃ m, m < n ∧ I m s'
                | .error _ => False) s₅) (notedBy (model prog w) A env fun e s' => R (.error e) s') s₄) (notedBy (model prog w) A env fun e s' => R (.error e) s') s₃
            else ∃ m, m < n ∧ I m s₃) (notedBy (model prog w) A env fun e s' => R (.error e) s') s₂) (notedBy (model prog w) A env fun e s' => R (.error e) s') s₁') (notedBy (model prog w) A env fun e s' => R (.error e) s') s₁) (notedBy (model prog w) A env fun e s' => R (.error e) s') s)
    (n : Nat) (h : I n s) :
    codeAny (model prog w) A (.compLoop (.SetComp elt [⟨t0, i0, ifs0, 0⟩, ⟨t1, i1, ifs1, 0⟩] scope pos) 0 it acc env) R s := by
  refine codeAny_loop rfl I (fun n s hI => ?_) n h
  show wpAny _ A ((compTurn (.SetComp elt [⟨t0, i0, ifs0, 0⟩, ⟨t1, i1, ifs1, 0⟩] scope pos) 0 it acc env).onRaise (fun x => do noteFrame x env; theTreesLotGoes x)) _ _ s
  refine wpAny_noted ?_
  rw [compTurn2_outS]
  refine wpAny_bind (wpAny_standAt (wpAny_bind (wpAny_mono (turn n s hI) (fun r s₁ h₁ => ?_) fun _ _ h' => h')))
  cases r with
  | none => exact wpAny_pure h₁
  | some v =>
    refine wpAny_bind (wpAny_mono h₁ (fun _ s₁' h₁' => ?_) fun _ _ h' => h')
    refine wpAny_bind (wpAny_mono h₁' (fun _ s₂ h₂ => wpAny_bind (wpAny_mono h₂ (fun ok s₃ h₃ => ?_) fun _ _ h' => h')) fun _ _ h' => h')
    cases ok with
    | false => exact wpAny_pure ⟨rfl, h₃⟩
    | true =>
      refine wpAny_bind (wpAny_mono h₃ (fun x s₄ h₄ => ?_) fun _ _ h' => h')
      refine wpAny_bind (wpAny_standAt (wpAny_bind (wpAny_of_eq (hs x) (wpAny_bind (wpAny_holding (wpAny_mono h₄ (fun it1 s₅ h₅ => ?_) fun _ _ h' => h'))))))
      refine wpAny_bind (wpAny_runOwn ?_)
      rw [Around.mark_none]
      refine codeAny_mono h₅ fun r s' hr => ?_
      cases r with
      | ok f =>
        first
          | exact wpAny_pure ⟨rfl, hr⟩
          | exact wpAny_bind (wpAny_pure (wpAny_pure ⟨rfl, hr⟩))
      | error e => exact hr.elim
/-- the loop of the second -/
theorem compLoop2_inS (I : Nat → Shared → Prop)
    (turn : ∀ n s, I n s → wpAny (model prog w) A (pyNext it) (fun r s₁ => match r with
      | none => R (.ok .next) s₁
      | some v => wpAny (model prog w) A (letOwnedTupleGo t1 it v) (fun _ s₁' => wpAny (model prog w) A (assign t1 env v) (fun _ s₂ =>
          wpAny (model prog w) A (forIn ifs1 true fun c r => if r = true then do let ok ← isTrue c env (eval c env); pure (ForInStep.yield ok) else pure (ForInStep.yield r)) (fun ok s₃ =>
            if ok = true then wpAny (model prog w) A (eval elt env) (fun x s₄ =>
              wpAny (model prog w) A (call (.builtin "set.add") [acc, x]) (fun _ s₅ => ∃ m, m < n ∧ I m s₅) (notedBy (model prog w) A env fun e s' => R (.error e) s') s₄) (notedBy (model prog w) A env fun e s' => R (.error e) s') s₃
            else ∃ m, m < n ∧ I m s₃) (notedBy (model prog w) A env fun e s' => R (.error e) s') s₂) (notedBy (model prog w) A env fun e s' => R (.error e) s') s₁') (notedBy (model prog w) A env fun e s' => R (.error e) s') s₁) (notedBy (model prog w) A env fun e s' => R (.error e) s') s)
    (n : Nat) (h : I n s) :
    codeAny (model prog w) A (.compLoop (.SetComp elt [⟨t0, i0, ifs0, 0⟩, ⟨t1, i1, ifs1, 0⟩] scope pos) 1 it acc env) R s := by
  refine codeAny_loop rfl I (fun n s hI => ?_) n h
  show wpAny _ A ((compTurn (.SetComp elt [⟨t0, i0, ifs0, 0⟩, ⟨t1, i1, ifs1, 0⟩] scope pos) 1 it acc env).onRaise (fun x => do noteFrame x env; theTreesLotGoes x)) _ _ s
  refine wpAny_noted ?_
  rw [compTurn2_inS]
  refine wpAny_bind (wpAny_standAt (wpAny_bind (wpAny_mono (turn n s hI) (fun r s₁ h₁ => ?_) fun _ _ h' => h')))
  cases r with
  | none => exact wpAny_pure h₁
  | some v =>
    refine wpAny_bind (wpAny_mono h₁ (fun _ s₁' h₁' => ?_) fun _ _ h' => h')
    refine wpAny_bind (wpAny_mono h₁' (fun _ s₂ h₂ => wpAny_bind (wpAny_mono h₂ (fun ok s₃ h₃ => ?_) fun _ _ h' => h')) fun _ _ h' => h')
    cases ok with
    | false => exact wpAny_pure ⟨rfl, h₃⟩
    | true =>
      exact wpAny_bind (wpAny_bind (wpAny_mono h₃ (fun x s₄ h₄ => wpAny_bind (wpAny_standAt (wpAny_bind (wpAny_mono h₄ (fun _ s₅ h₅ => wpAny_pure (wpAny_pure ⟨rfl, h₅⟩)) fun _ _ h' => h')))) fun _ _ h' => h'))
/-- the second clause's start -/
theorem compStart1_okS (h0 : codeAny (model prog w) A (.compLoop (.SetComp elt [⟨t0, i0, ifs0, 0⟩, ⟨t1, i1, ifs1, 0⟩] scope pos) 1 it acc env) R s)
    (h : wpAny (model prog w) A (pyIter it) (fun it' s' => codeAny (model prog w) A (.compLoop (.SetComp elt [⟨t0, i0, ifs0, 0⟩, ⟨t1, i1, ifs1, 0⟩] scope pos) 1 it' acc env) R s')
      (notedBy (model prog w) A env fun x s' => R (.error x) s') s) :
    codeAny (model prog w) A (.compStart (.SetComp elt [⟨t0, i0, ifs0, 0⟩, ⟨t1, i1, ifs1, 0⟩] scope pos) 1 it acc env) R s := by
  refine codeAny_of_tree ?_
  show wpAny _ _ ((compStart (.SetComp elt [⟨t0, i0, ifs0, 0⟩, ⟨t1, i1, ifs1, 0⟩] scope pos) 1 it acc env).onRaise (fun x => do noteFrame x env; standAt theWindowsPlace)) _ _ s
  refine wpAny_notedAt ?_
  unfold compStart
  show wpAny _ _ (ask >>= _) _ _ s
  refine wpAny_bind (wpAny_askSetting (wpAny_ite ?_))
  split
  · first
      | exact wpAny_bind (wpAny_pure (wpAny_pure (And.intro rfl h0)))
      | exact wpAny_pure (And.intro rfl h0)
  · first
      | exact wpAny_bind (wpAny_rule (wpAny_bind (wpAny_standAt (wpAny_bind (wpAny_mono h (fun it' s' h' => wpAny_pure (And.intro rfl h')) fun _ _ x => x)))))
      | (refine wpAny_bind (wpAny_rule ?_); show wpAny _ _ (standAt i1.pos >>= _) _ _ s; exact wpAny_bind (wpAny_standAt (wpAny_bind (wpAny_mono h (fun it' s' h' => wpAny_pure (And.intro rfl h')) fun _ _ x => x))))
end

section
variable {X : Cx}
/-- [elt for tg in iter if .. for tg1 in iter1 if ..]: behind the first clause's store and tests the second source's own loop, from which Nx is reached. vs: the block's names; vs1: those of the second target -/
def tSc2 (w : World) (wi : TI) (g : TG) (tt : TT) (wi1 : TI) (g1 : TG) (tt1 : TT) (te : TE) (vs vs1 : List Nat) : TE := fun σ H Q => wi σ H fun J H1 => ∀ D, H1 D = none → ∃ W : Nat → Nat → Hp → Prop, (∃ m, W 0 m (upd H1 D (SetBk w D (fun _ => false) 0))) ∧ ∀ i m H, W i m H →
  (J.stop i H ∧ Q (.ref D) H) ∨ (J.go i H ∧ ∃ Nx : Hp → Prop, (∀ H', Nx H' → ∃ m', m' < m ∧ W (i + 1) m' H') ∧ ∀ x H', J.yld i H x H' → g x (wipe σ vs) H' fun σ2 H2 => wipe σ2 vs = wipe σ vs ∧ tt σ2 H2 fun b H3 =>
    if b = true then wi1 σ2 H3 fun J1 H4 => ∃ W1 : Nat → Nat → Hp → Prop, (∃ m, W1 0 m H4) ∧ ∀ j k H, W1 j k H →
      (J1.stop j H ∧ Nx H) ∨ (J1.go j H ∧ ∃ Nx1 : Hp → Prop, (∀ H', Nx1 H' → ∃ k', k' < k ∧ W1 (j + 1) k' H') ∧ ∀ x H', J1.yld j H x H' → g1 x (wipe σ2 vs1) H' fun σ3 H5 => wipe σ3 vs1 = wipe σ2 vs1 ∧ tt1 σ3 H5 fun b H6 =>
        if b = true then te σ3 H6 fun y H7 => ∃ (c : Key) (S : Key → Bool) (n : Nat), y = kV c ∧ H7 D = some (SetBk w D S n) ∧ n + 1 < scanBound ∧ Nx1 (upd H7 D (SetBk w D (fun j => S j || decide (j = c)) (if S c = true then n else n + 1))) else Nx1 H6)
    else Nx H3)
theorem sc2_core {pins : List (Addr × Obj)} {s : Shared} {σ : St} {H : Hp} {Q : VK} {elt tg iter tg1 iter1 : Expr} {ifs ifs1 : List Expr} {scope : Scope} {own : List (Str × Nat)} {vs1 : List Nat} {pos pos' : Pos} {wi wi1 : TI} {g g1 : TG} {tt tt1 : TT} {te : TE} {use : Option (Value → Sem Unit)} {Qf : Value → Shared → Prop}
    (hc : X.calm = true) (hN : X.N.Nodup) (I : Inv X pins σ H s) (hi : PI X tg iter wi) (ok : BlkOk X.N X.env.scope scope own) (hv : ∀ i ∈ vs1, i ∈ own.map (·.2))
    (hg : ∀ (s : Shared) (H : Hp) (C : Addr) (cl : List (Str × Addr)) (fp : List Addr), PG (X.blk s H scope (compEnvC scope cl C X.env) fp) tg g) (ht : ∀ (s : Shared) (H : Hp) (C : Addr) (cl : List (Str × Addr)) (fp : List Addr), PTs (X.blk s H scope (compEnvC scope cl C X.env) fp) ifs tt)
    (he : ∀ (s : Shared) (H : Hp) (C : Addr) (cl : List (Str × Addr)) (fp : List Addr), PE (X.blk s H scope (compEnvC scope cl C X.env) fp) elt te) (hs : ∀ x, foldedSetIterable iter X.env x = pure x)
    (hi1 : ∀ (s : Shared) (H : Hp) (C : Addr) (cl : List (Str × Addr)) (fp : List Addr), PI (X.blk s H scope (compEnvC scope cl C X.env) fp) tg1 iter1 wi1)
    (hg1 : ∀ (s : Shared) (H : Hp) (C : Addr) (cl : List (Str × Addr)) (fp : List Addr), PG (X.blk s H scope (compEnvC scope cl C X.env) fp) tg1 g1)
    (ht1 : ∀ (s : Shared) (H : Hp) (C : Addr) (cl : List (Str × Addr)) (fp : List Addr), PTs (X.blk s H scope (compEnvC scope cl C X.env) fp) ifs1 tt1)
    (hs1 : ∀ env x, foldedSetIterable iter1 env x = pure x)
    (h : tSc2 X.w wi g tt wi1 g1 tt1 te (own.map (·.2)) vs1 σ H Q)
    (hRR : ∀ D C s' m H', Inv X pins σ H' s' → Q (.ref D) H' → s'.heap.Ns C m → FpOk X pins H' C → compPost (model X.prog X.w) X.A X.xe use Qf (.ref D) C (.ok .next) s') :
    wpAny (model X.prog X.w) X.A (comprehension (.SetComp elt [⟨tg, iter, ifs, 0⟩, ⟨tg1, iter1, ifs1, 0⟩] scope pos) scope X.env pos' (newSet (.type "set")) false (eval iter X.env) use) Qf X.xe s := by
  have hfree : ∀ y ∈ scope.names, y.2 = .free → ∃ c, X.env.cells.lookup y.1 = some c := fun y hy e => by
    rcases ok.free y hy e with k | k
    · exact I.ok.has _ (.inl k)
    · exact I.ok.has _ (.inr k)
  refine wpAny_comprehension_free (use := use) rfl hs (closure_ok hfree) ok.kind (fun y hy e => by rw [ok.uniq y hy, e])
    (thn (hi.run pins s σ H _ I h) fun xv s1 hx => thn hx fun itv s2 h2 => ?_)
  obtain ⟨it, fp, tn, J, H2, e, I2, T, st2, f2, q⟩ := h2
  subst e
  refine PpSet.newSet_ok (newEnv_comp ?_)
  generalize hD : s2.heap.objs.size = D
  have hDn : H2 D = none := I2.hok.fresh (Nat.le_of_eq hD)
  obtain ⟨W, ⟨m0, w0⟩, turn⟩ := q D hDn
  -- the new list
  generalize hs3 : ({ s2 with heap := s2.heap.push { cls := .type "set", dict := none, data := .set #[] 0 (.fresh 0 0 (!X.w.params.followText "set-order")) } } : Shared) = s3
  have I3 : Inv X pins σ (upd H2 D (SetBk X.w D (fun _ => false) 0)) s3 := by
    rw [← hs3]
    refine I2.laid (t' := s2.toks) (fun b o e => Heap.get?_push_of_some _ e) (Nat.le_of_eq hD) ?_
    rw [← hD]
    exact setBk_new (setB_fresh X.w)
  have h3 : s3.heap = s2.heap.push { cls := .type "set", dict := none, data := .set #[] 0 (.fresh 0 0 (!X.w.params.followText "set-order")) } := by rw [← hs3]
  have sz : ∀ b ∈ fp, b < s2.heap.objs.size := fun b hb => by
    obtain ⟨o, e, _⟩ := T.obj _ _ st2 b hb
    exact Heap.lt_size e
  have f3 : ∀ b ∈ fp, FpOk X pins (upd H2 D (SetBk X.w D (fun _ => false) 0)) b ∧ b < s3.heap.objs.size := fun b hb => by
    have hlt := sz b hb
    refine ⟨⟨?_, (f2 b hb).2⟩, by rw [h3, Heap.size_push]; exact Nat.lt_succ_of_lt hlt⟩
    rw [upd_ne (by rw [← hD]; exact Nat.ne_of_lt hlt)]
    exact (f2 b hb).1
  have st3 : tn 0 s3.heap := T.keep _ _ _ st2 fun b _ o e => by rw [h3]; exact Heap.get?_push_of_some _ e
  have I4 := block_start I3 ok hN f3
  have pg := hg s3 (upd H2 D (SetBk X.w D (fun _ => false) 0)) s3.heap.objs.size (cellsFrom (s3.heap.objs.size + 1) scope.names (cloFrom X.env.cells scope.names [])) fp
  have pt := ht s3 (upd H2 D (SetBk X.w D (fun _ => false) 0)) s3.heap.objs.size (cellsFrom (s3.heap.objs.size + 1) scope.names (cloFrom X.env.cells scope.names [])) fp
  have pe := he s3 (upd H2 D (SetBk X.w D (fun _ => false) 0)) s3.heap.objs.size (cellsFrom (s3.heap.objs.size + 1) scope.names (cloFrom X.env.cells scope.names [])) fp
  have pi1 := hi1 s3 (upd H2 D (SetBk X.w D (fun _ => false) 0)) s3.heap.objs.size (cellsFrom (s3.heap.objs.size + 1) scope.names (cloFrom X.env.cells scope.names [])) fp
  have pg1 := hg1 s3 (upd H2 D (SetBk X.w D (fun _ => false) 0)) s3.heap.objs.size (cellsFrom (s3.heap.objs.size + 1) scope.names (cloFrom X.env.cells scope.names [])) fp
  have pt1 := ht1 s3 (upd H2 D (SetBk X.w D (fun _ => false) 0)) s3.heap.objs.size (cellsFrom (s3.heap.objs.size + 1) scope.names (cloFrom X.env.cells scope.names [])) fp
  show codeAny _ _ (.compStart (.SetComp elt [⟨tg, iter, ifs, 0⟩, ⟨tg1, iter1, ifs1, 0⟩] scope pos) 0 (.ref it) (.ref D) (compEnvC scope (cellsFrom (s3.heap.objs.size + 1) scope.names (cloFrom X.env.cells scope.names [])) s3.heap.objs.size X.env)) (compPost (model X.prog X.w) X.A X.xe use Qf (.ref D) s3.heap.objs.size) { s3 with heap := pushCells (s3.heap.push { cls := .type "dict", data := .dict #[] }) scope.names }
  have nfp : ∀ b ∈ fp, (upd H2 D (SetBk X.w D (fun _ => false) 0)) b = none := fun b hb => (f3 b hb).1.1
  generalize hce : compEnvC scope (cellsFrom (s3.heap.objs.size + 1) scope.names (cloFrom X.env.cells scope.names [])) s3.heap.objs.size X.env = ce at I4 pg pt pe pi1 pg1 pt1 ⊢
  have cL : ce.locals = s3.heap.objs.size := by subst hce; rfl
  generalize hH3 : upd H2 D (SetBk X.w D (fun _ => false) 0) = H3 at I3 I4 pg pt pe pi1 pg1 pt1 w0 nfp f3
  generalize hs4 : ({ s3 with heap := pushCells (s3.heap.push { cls := .type "dict", data := .dict #[] }) scope.names } : Shared) = s4 at I4 ⊢
  have st4 : tn 0 s4.heap := T.keep _ _ _ st3 fun b _ o e => by rw [← hs4]; exact pushCells_keeps _ _ _ _ (Heap.get?_push_of_some _ e)
  have stat : ∀ {σ' : St} {H' : Hp} {s' : Shared}, Inv (X.blk s3 H3 scope ce fp) [] σ' H' s' → (∀ b ∈ fp, H' b = none) → ∀ b ∈ fp, FpOk (X.blk s3 H3 scope ce fp) [] H' b := fun {σ' H' s'} I' hn b hb =>
    ⟨hn b hb, (I'.ok.exf b hb).1, I'.ok.exfs b hb, .inl hb, fun x c e => (I'.ok.exf b hb).2 x c e, fun p hp => absurd (show p ∈ ([] : List (Addr × Obj)) ++ [] from hp) (by simp)⟩
  have loop : codeAny (model X.prog X.w) X.A (.compLoop (.SetComp elt [⟨tg, iter, ifs, 0⟩, ⟨tg1, iter1, ifs1, 0⟩] scope pos) 0 (.ref it) (.ref D) ce) (compPost (model X.prog X.w) X.A X.xe use Qf (.ref D) s3.heap.objs.size) s4 := by
    refine compLoop2_outS (hs1 ce) (fun n s' => ∃ i H', Inv (X.blk s3 H3 scope ce fp) [] (wipe σ (own.map (·.2))) H' s' ∧ tn i s'.heap ∧ (∀ b ∈ fp, H' b = none) ∧ W i n H') ?_ m0 ⟨0, H3, I4, st4, nfp, w0⟩
    rintro n s5 ⟨i, H5, I5, st5, n5, w5⟩
    rcases turn i n H5 w5 with ⟨stop, qq⟩ | ⟨go, Nx, hNx, step⟩
    · have td := T.done (X.blk s3 H3 scope ce fp) rfl rfl rfl hc i [] s5 _ H5 (fun _ _ => False) I5 (stat I5 n5) st5 stop
      refine thnF td fun r s6 ⟨hr, I6⟩ => ?_
      subst hr
      -- back in the def's context
      have I7 : Inv X pins σ H5 s6 := I3.call' (ch := fp) I6.os I6.base I6.hok I6.bare fun b hb => ⟨(f3 b hb).1.2.2.2.1, (f3 b hb).1.2.1, (f3 b hb).1.2.2.2.2.1, (f3 b hb).1.2.2.2.2.2⟩
      have nC : H5 s3.heap.objs.size = none := by
        have z : H5 ce.locals = none := I6.free
        rw [cL] at z
        exact z
      obtain ⟨m, hn, _⟩ := I6.loc
      have hn : s6.heap.Ns ce.locals m := hn
      rw [cL] at hn
      exact hRR D s3.heap.objs.size s6 m H5 I7 qq hn (I3.fpOk (Nat.le_refl _) nC)
    · have ti := T.item (X.blk s3 H3 scope ce fp) rfl rfl rfl hc i [] s5 _ H5 (fun _ _ => False) I5 (stat I5 n5) st5 go
      refine thnF ti fun r s6 ⟨u, hr, h6⟩ => ?_
      subst hr
      refine thnF h6 fun _ s7 ⟨x, H7, I7, r7, y7, st7, n7⟩ => ?_
      have I7' := I7.pinned (stat I7 n7) (T.obj _ _ st7)
      refine thnF (pg.run _ s7 _ H7 x u _ I7' r7 (step x H7 y7)) fun _ s8 ⟨σ8, H8, I8, hw8, q8⟩ => ?_
      refine thnF (pt.run _ s8 σ8 H8 _ I8 q8) fun b s9 ⟨H9, I9, q9⟩ => ?_
      -- the turn's end, from any slots that know what the block knew at its start
      have fin : ∀ {σ9 : St} {s' : Shared} {H' : Hp}, Inv (X.blk s3 H3 scope ce fp) ([] ++ pinsAt fp s7.heap) σ9 H' s' → (wipe σ (own.map (·.2))).length = σ9.length → (∀ (j : Nat) v, (wipe σ (own.map (·.2)))[j]? = some (some v) → σ9[j]? = some (some v)) → Nx H' →
          ∃ m, m < n ∧ ∃ i H', Inv (X.blk s3 H3 scope ce fp) [] (wipe σ (own.map (·.2))) H' s' ∧ tn i s'.heap ∧ (∀ b ∈ fp, H' b = none) ∧ W i m H' := fun {σ9 s' H'} I' hl hk nx => by
        obtain ⟨m', hm, w'⟩ := hNx H' nx
        have pin' : ∀ b ∈ fp, ∀ o, s7.heap.get? b = some o → s'.heap.get? b = some o ∧ H' b = none := fun b hb o e =>
          let z := I'.pin (b, o) (List.mem_append_right _ (List.mem_append_right _ (mem_pinsAt hb e)))
          ⟨z.1, z.2.1⟩
        refine ⟨m', hm, i + 1, H', (I'.unpinned (pins := [])).weak hl hk, T.keep _ _ _ st7 fun b hb o e => (pin' b hb o e).1, fun b hb => ?_, w'⟩
        obtain ⟨o, e, _⟩ := T.obj _ _ st7 b hb
        exact (pin' b hb o e).2
      have hl8 : (wipe σ (own.map (·.2))).length = σ8.length := by rw [← hw8, wipe_length]
      have hk8 : ∀ (j : Nat) v, (wipe σ (own.map (·.2)))[j]? = some (some v) → σ8[j]? = some (some v) := fun j v e => by
        rw [← hw8] at e
        exact (wipe_some e).1
      have hk9 : ∀ (j : Nat) v, (wipe σ (own.map (·.2)))[j]? = some (some v) → (wipe σ8 vs1)[j]? = some (some v) := fun j v e => by
        rw [← hw8] at e
        obtain ⟨e1, e2⟩ := wipe_some e
        rw [wipe_out fun z => e2 (hv j z)]
        exact e1
      cases b with
      | false =>
        simp only [Bool.false_eq_true, if_false] at q9 ⊢
        exact fin I9 hl8 hk8 q9
      | true =>
        simp only [if_true] at q9 ⊢
        refine thnF (pi1.run _ s9 σ8 H9 _ I9 q9) fun xv s10 hx => thnF hx fun itv s11 h11 => ?_
        obtain ⟨it1, fp1, tn1, J1, H11, e1, I11, T1, st11, f11, W1, ⟨m1, w1⟩, turn1⟩ := h11
        subst e1
        -- the inner loop
        have stat1 : ∀ {H' : Hp}, (∀ b ∈ fp1, H' b = none) → ∀ b ∈ fp1, FpOk (X.blk s3 H3 scope ce fp) ([] ++ pinsAt fp s7.heap) H' b := fun hn b hb => ⟨hn b hb, (f11 b hb).2⟩
        have loop1 : codeAny (model X.prog X.w) X.A (.compLoop (.SetComp elt [⟨tg, iter, ifs, 0⟩, ⟨tg1, iter1, ifs1, 0⟩] scope pos) 1 (.ref it1) (.ref D) ce)
            (fun r s' => match r with
              | .ok _ => ∃ m, m < n ∧ ∃ i H', Inv (X.blk s3 H3 scope ce fp) [] (wipe σ (own.map (·.2))) H' s' ∧ tn i s'.heap ∧ (∀ b ∈ fp, H' b = none) ∧ W i m H'
              | .error _ => False) s11 := by
          refine compLoop2_inS (fun k s' => ∃ j H', Inv (X.blk s3 H3 scope ce fp) ([] ++ pinsAt fp s7.heap) (wipe σ8 vs1) H' s' ∧ tn1 j s'.heap ∧ (∀ b ∈ fp1, H' b = none) ∧ W1 j k H') ?_ m1 ⟨0, H11, I11.weak (wipe_length _ _) (fun j v e => (wipe_some e).1), st11, fun b hb => (f11 b hb).1, w1⟩
          rintro k s12 ⟨j, H12, I12, st12, n12, w12⟩
          rcases turn1 j k H12 w12 with ⟨stop1, nx1⟩ | ⟨go1, Nx1, hNx1, step1⟩
          · refine thnF (T1.done (X.blk s3 H3 scope ce fp) rfl rfl rfl hc j _ s12 (wipe σ8 vs1) H12 (fun _ _ => False) I12 (stat1 n12) st12 stop1) fun r s13 ⟨hr, I13⟩ => ?_
            subst hr
            exact fin I13 (hl8.trans (wipe_length σ8 vs1).symm) hk9 nx1
          · refine thnF (T1.item (X.blk s3 H3 scope ce fp) rfl rfl rfl hc j _ s12 (wipe σ8 vs1) H12 (fun _ _ => False) I12 (stat1 n12) st12 go1) fun r s13 ⟨u1, hr, h13⟩ => ?_
            subst hr
            refine thnF h13 fun _ s14 ⟨x1, H14, I14, r14, y14, st14, n14⟩ => ?_
            have I14' := I14.pinned (stat1 n14) (T1.obj _ _ st14)
            refine thnF (pg1.run _ s14 (wipe σ8 vs1) H14 x1 u1 _ I14' r14 (step1 x1 H14 y14)) fun _ s15 ⟨σ15, H15, I15, hw15, q15⟩ => ?_
            refine thnF (pt1.run _ s15 σ15 H15 _ I15 q15) fun b1 s16 ⟨H16, I16, q16⟩ => ?_
            have fin1 : ∀ {s' : Shared} {H' : Hp}, Inv (X.blk s3 H3 scope ce fp) (([] ++ pinsAt fp s7.heap) ++ pinsAt fp1 s14.heap) σ15 H' s' → Nx1 H' → ∃ m, m < k ∧ ∃ j H', Inv (X.blk s3 H3 scope ce fp) ([] ++ pinsAt fp s7.heap) (wipe σ8 vs1) H' s' ∧ tn1 j s'.heap ∧ (∀ b ∈ fp1, H' b = none) ∧ W1 j m H' := fun {s' H'} I' nx => by
              obtain ⟨m', hm, w'⟩ := hNx1 H' nx
              have pin' : ∀ b ∈ fp1, ∀ o, s14.heap.get? b = some o → s'.heap.get? b = some o ∧ H' b = none := fun b hb o e =>
                let z := I'.pin (b, o) (List.mem_append_right _ (List.mem_append_right _ (mem_pinsAt hb e)))
                ⟨z.1, z.2.1⟩
              refine ⟨m', hm, j + 1, H', I'.unpinned.weak (by rw [← hw15, wipe_length]) (fun j v e => by rw [← hw15] at e; exact (wipe_some e).1), T1.keep _ _ _ st14 fun b hb o e => (pin' b hb o e).1, fun b hb => ?_, w'⟩
              obtain ⟨o, e, _⟩ := T1.obj _ _ st14 b hb
              exact (pin' b hb o e).2
            cases b1 with
            | false =>
              simp only [Bool.false_eq_true, if_false] at q16 ⊢
              exact fin1 I16 q16
            | true =>
              simp only [if_true] at q16 ⊢
              refine thnF (pe.run _ s16 σ15 H16 _ I16 q16) fun z s17 ⟨yv, H17, I17, r17, ck, S0, n0, ey, hD17, hz17, nx⟩ => ?_
              subst ey
              exact addBk_ok (X := X.blk s3 H3 scope ce fp) I17 hD17 hz17 (keyIs_rel r17) fun s18 I18 => fin1 I18 nx
        exact compStart1_okS loop1 (T1.self X.A 0 _ _ _ st11 loop1)
  exact PpSet.codeAny_compStart_set loop (T.self X.A 0 _ _ _ st4 loop)
/-- as a value -/
theorem pe_sc2 {elt tg iter tg1 iter1 : Expr} {ifs ifs1 : List Expr} {scope : Scope} {own : List (Str × Nat)} {vs1 : List Nat} {pos : Pos} {wi wi1 : TI} {g g1 : TG} {tt tt1 : TT} {te : TE} (hc : X.calm = true) (hN : X.N.Nodup) (hi : PI X tg iter wi) (ok : BlkOk X.N X.env.scope scope own) (hv : ∀ i ∈ vs1, i ∈ own.map (·.2))
    (hg : ∀ (s : Shared) (H : Hp) (C : Addr) (cl : List (Str × Addr)) (fp : List Addr), PG (X.blk s H scope (compEnvC scope cl C X.env) fp) tg g) (ht : ∀ (s : Shared) (H : Hp) (C : Addr) (cl : List (Str × Addr)) (fp : List Addr), PTs (X.blk s H scope (compEnvC scope cl C X.env) fp) ifs tt)
    (hi1 : ∀ (s : Shared) (H : Hp) (C : Addr) (cl : List (Str × Addr)) (fp : List Addr), PI (X.blk s H scope (compEnvC scope cl C X.env) fp) tg1 iter1 wi1)
    (hg1 : ∀ (s : Shared) (H : Hp) (C : Addr) (cl : List (Str × Addr)) (fp : List Addr), PG (X.blk s H scope (compEnvC scope cl C X.env) fp) tg1 g1) (ht1 : ∀ (s : Shared) (H : Hp) (C : Addr) (cl : List (Str × Addr)) (fp : List Addr), PTs (X.blk s H scope (compEnvC scope cl C X.env) fp) ifs1 tt1)
    (he : ∀ (s : Shared) (H : Hp) (C : Addr) (cl : List (Str × Addr)) (fp : List Addr), PE (X.blk s H scope (compEnvC scope cl C X.env) fp) elt te) (hs : ∀ x, foldedSetIterable iter X.env x = pure x := by intro _; rfl) (hs1 : ∀ env x, foldedSetIterable iter1 env x = pure x := by intro _ _; rfl) :
    PE X (.SetComp elt [⟨tg, iter, ifs, 0⟩, ⟨tg1, iter1, ifs1, 0⟩] scope pos) (tSc2 X.w wi g tt wi1 g1 tt1 te (own.map (·.2)) vs1) := by
  refine ⟨fun pins s σ H Q I h => ?_⟩
  rw [PpSet.eval_SetComp]
  refine sc2_core hc hN I hi ok hv hg ht he hs hi1 hg1 ht1 hs1 h fun D C s' m H' I' q hn f => ⟨m, hn, fun h'' sb => ?_⟩
  obtain ⟨f0, f1, f2, f3, f4, f5⟩ := f
  exact ⟨.ref D, H', I'.turned (t' := s'.toks) (fun b o hb e => (sb.2 b hb).trans e) f0 f1 f3 f4 f5, rfl, q⟩
end
end L2.MK

end

section
set_option Elab.async false
set_option linter.all false
set_option maxRecDepth 100000
set_option maxHeartbeats 2000000
set_option autoImplicit false
/-! enumerate(tuple). -/
namespace L2.MK
open PySem PySem.Spec PyProof.Rows PySem.W

theorem meets_enum_newT (l : Addr) (items : Array Value) (n : Nat) (dct : Option Addr) (sl : Array (Option Value)) :
    Meets (Builtin.«enumerate.__new__» ⟨[.type "enumerate", .ref l], []⟩) (fun _ R s => s.heap.get? l = some { cls := .type "tuple", dict := dct, data := .seq items n, slots := sl } ∧
      R (.ok (.ret (.ref (s.heap.push { cls := .type "tuple_iterator", data := .fields #[.ref l, .int 0 0] }).objs.size)))
        { s with heap := (s.heap.push { cls := .type "tuple_iterator", data := .fields #[.ref l, .int 0 0] }).push { cls := .type "enumerate", data := .fields #[.none, .bool false, .ref s.heap.objs.size, rawInt 0, .none, .none] } }) :=
  .of_wp fun prog w A R s h => by
    obtain ⟨hp, g, d, tk, os⟩ := s; obtain ⟨hl, h⟩ := h
    have hsub := sub_enumerate
    have hL : Heap.IsTuple (Shared.heap ⟨hp, g, d, tk, os⟩) l items := ⟨_, hl, rfl, n, rfl⟩
    wp_walk using AutoSeq1.wpAny_loadPart' hl
    refine wpAny_stack_any fun st => wpAny_pure ?_
    split
    · rename_i c _ _ _ _ _
      cases (c == Value.type "enumerate")
      · wp_walk using AutoSeq1.wpAny_loadPart' hl, wpAny_pyIter_tuple hL
        exact ⟨_, rfl, h⟩
      · wp_walk using AutoSeq1.wpAny_loadPart' hl, wpAny_pyIter_tuple hL
        exact ⟨_, rfl, h⟩
    · wp_walk using AutoSeq1.wpAny_loadPart' hl, wpAny_pyIter_tuple hL
      exact ⟨_, rfl, h⟩
section
variable {prog : Program} {w : World} {A : Around} {E : Value → Shared → Prop} {s : Shared}
theorem call_enum_tuple {l : Addr} {items : Array Value} {Q : Value → Shared → Prop} (hL : s.heap.IsTuple l items)
    (h : ∀ h', IsEnum h' (s.heap.objs.size + 1) s.heap.objs.size 0 .none → h'.IsTupleIter s.heap.objs.size l 0 → h'.objs.size = s.heap.objs.size + 2 →
      (∀ b o, s.heap.get? b = some o → h'.get? b = some o) → Q (.ref (s.heap.objs.size + 1)) { s with heap := h' }) :
    wpAny (model prog w) A (call (.type "enumerate") [.ref l]) Q E s := by
  obtain ⟨⟨c, dct, dt, sl⟩, hl, hc, n, hd⟩ := hL
  replace hc : c = .type "tuple" := hc
  replace hd : dt = .seq items n := hd
  subst hc hd
  refine callType_new F.called_enumerate (by decide) (F.typeCall_enumerate_1 _) (F.newCall_enumerate_1 _) (fun obj => F.args_object_init_2 obj _) F.entry_enumerate_new
    (meets_enum_newT l items n dct sl) ⟨hl, ?_⟩
  have hz : (s.heap.push { cls := .type "tuple_iterator", data := .fields #[.ref l, .int 0 0] }).objs.size = s.heap.objs.size + 1 := Heap.size_push ..
  show _ ∧ _
  rw [hz]
  have he : IsEnum ((s.heap.push { cls := .type "tuple_iterator", data := .fields #[.ref l, .int 0 0] }).push
      { cls := .type "enumerate", data := .fields #[.none, .bool false, .ref s.heap.objs.size, rawInt 0, .none, .none] }) (s.heap.objs.size + 1) s.heap.objs.size 0 .none := by
    have := Heap.get?_push_size (s.heap.push { cls := .type "tuple_iterator", data := .fields #[.ref l, .int 0 0] })
      (o := { cls := .type "enumerate", data := .fields #[.none, .bool false, .ref s.heap.objs.size, rawInt 0, .none, .none] }) rfl
    rw [hz] at this; exact this
  refine ⟨⟨_, he, rfl⟩, h _ he ⟨_, Heap.get?_push_of_some _ (Heap.get?_push_size _ rfl), rfl, rfl⟩ (by rw [Heap.size_push, hz]) fun b o x => Heap.get?_push_of_some _ (Heap.get?_push_of_some _ x)⟩
end
def IteT (K : PySem.W.Frag) (a : Addr) : It :=
  ⟨fun i H => ∃ (xs : List V) (x : V), SqT K H a xs ∧ xs[i]? = some x, fun i H v H' => ∃ T x, v = .ref T ∧ H T = none ∧ H' = upd H T (.tup [.int (i : Nat), x]) ∧ ∀ xs, SqT K H a xs → xs[i]? = some x, fun i H => ∃ xs : List V, SqT K H a xs ∧ xs.length ≤ i⟩
theorem turn_enumT {P : Program} {w : World} {K : PySem.W.Frag} {elts : List Expr} {kk : Nat} {tpos : Pos} (a e it : Addr) :
    Turn P w K (.Tuple elts kk tpos) (IteT K a) [e, it] e (fun i h => (∃ old, IsEnum h e it ((i : Nat) : Int) old) ∧ h.IsTupleIter it a i ∧ e ≠ it) where
  mem := by simp
  obj := fun i h st b hb => by
    obtain ⟨⟨old, he⟩, ⟨o, ho, hc, hd⟩, _⟩ := st
    have e' : b = e ∨ b = it := by simpa using hb
    rcases e' with z | z
    · rw [z]; exact ⟨_, he, fun v q => nomatch q⟩
    · rw [z]; exact ⟨o, ho, fun v q => by rw [hd] at q; cases q⟩
  keep := fun i h h' st k => let ⟨⟨old, he⟩, hi, hne⟩ := st; ⟨⟨old, k e (by simp) _ he⟩, hi.at fun o q => k it (by simp) o q, hne⟩
  item := by
    intro X hP hw hK hc i pins s σ H E I hf st hg
    subst hP hw hK
    obtain ⟨⟨old, he⟩, hit, hne⟩ := st
    obtain ⟨xs, x, hq, hx⟩ := hg
    obtain ⟨its, rv, p, hz⟩ := I.tuple hq
    obtain ⟨u, hu, ru⟩ := rv.get hx
    have hel : e < s.heap.objs.size := Heap.lt_size he
    have hil : it < s.heap.objs.size := by obtain ⟨_, q, _⟩ := hit; exact Heap.lt_size q
    have hai : a ≠ it := fun z => by
      obtain ⟨o, ho, hcl, hd⟩ := hit
      obtain ⟨o2, ho2, hcl2, _⟩ := p
      rw [z, ho] at ho2
      cases ho2
      rw [hcl] at hcl2
      exact absurd (Value.type.inj hcl2) (by decide)
    have hae : e ≠ a := fun z => by
      obtain ⟨o2, ho2, hcl2, _⟩ := p
      rw [← z, he] at ho2
      cases ho2
      exact absurd (Value.type.inj hcl2) (by decide)
    refine wpAny_pyNext_enum_itemD (Draws.tuple (A := X.A.in1) (I.ok.hd hc) it a hai its.toArray) he (i := i) ⟨hit, p⟩ (by
      have := (List.getElem?_eq_some_iff.mp hu).1
      simpa using this) hne (by simp [hne, hae]) fun x' h' tk hP' ho hit' hT hsz hk => ?_
    have ex : x' = u := by
      have hP'' : its[i]? = some x' := by simpa using hP'
      rw [hu] at hP''
      exact (Option.some.inj hP'').symm
    subst ex
    refine ⟨_, rfl, wpAny_letOwnedTupleGo_enum (s := { s with heap := h', toks := tk + 1 }) ho fun h'' he' sb => ?_⟩
    have hT2 : h''.get? s.heap.objs.size = some { cls := .type "tuple", data := .seq #[.int i tk, x'] } := (sb.2 _ (Nat.ne_of_gt hel)).trans hT
    have new : ObjOk X.prog X.w (upd H s.heap.objs.size (.tup [.int (i : Nat), x])) h'' s.heap.objs.size (.tup [.int (i : Nat), x]) :=
      ⟨by show 2 ≤ sizeLine; decide, [.int i tk, x'], .cons ⟨_, rfl⟩ (.cons ru .nil), ⟨_, hT2, rfl, _, rfl⟩⟩
    have I1 : Inv X pins σ (upd H s.heap.objs.size (.tup [.int (i : Nat), x])) { s with heap := h'', toks := tk + 1 } :=
      I.turnedNew (ch := [e, it]) (fun b ob hb q => (sb.2 b (fun z => hb (by simp [z]))).trans (hk b ob (fun z => hb (by simp [z])) (fun z => hb (by simp [z])) q)) hf (Nat.le_refl _) new
    refine ⟨.ref s.heap.objs.size, _, I1, rfl, ⟨_, x, rfl, I.hok.fresh (Nat.le_refl _), rfl, fun ys hy => by rw [I.tuple_inj hy hq]; exact hx⟩, ⟨⟨x', ?_⟩, hit'.1.at fun o q => (sb.2 it (Ne.symm hne)).trans q, hne⟩, fun b hb => ?_⟩
    · have e1 : ((i + 1 : Nat) : Int) = (i : Int) + 1 := by omega
      rw [e1]; exact he'
    · have hb' : b < s.heap.objs.size := by
        have e' : b = e ∨ b = it := by simpa using hb
        rcases e' with z | z
        · rw [z]; exact hel
        · rw [z]; exact hil
      rw [upd_ne (Nat.ne_of_lt hb')]
      exact (hf b hb).1
  done := by
    intro X hP hw hK hc i pins s σ H E I hf st hg
    subst hP hw hK
    obtain ⟨⟨old, he⟩, hit, hne⟩ := st
    obtain ⟨xs, hq, hx⟩ := hg
    obtain ⟨its, rv, p, hz⟩ := I.tuple hq
    obtain ⟨f0, f1, f2, f3, f4, f5⟩ := hf it (by simp)
    have hl := rv.length
    have hT : s.TypeIs (.ref e) "enumerate" := ⟨_, he, rfl⟩
    unfold pyNext
    refine wpAny_bind (wpAny_attempt (wpAny_callSpecial?_slot (name := Str.ofString "__next__") hT F.slot_enumerate_next
      (wpAny_call_entry F.slot_enumerate_next hT F.entry_enumerate_next ?_ (F.args_enumerate_next_1 _))))
    show wpAny _ _ (field (.ref e) 2 >>= _) _ _ _
    refine wpAny_bind (wpAny_field he rfl (x := .ref it) rfl ?_)
    refine wpAny_bind (wpAny_nextOf_tuple_end (items := its.toArray) (I.ok.hd hc) hit p (by simp; omega) fun h' x he' hx' => ?_)
    obtain ⟨o, ho, hcl⟩ := hx'
    refine wpAny_bind (wpAny_isInstance (T := "StopIteration") (b := true) ⟨o, ho, hcl⟩ isSubtype_stop ?_)
    exact wpAny_pure ⟨rfl, I.turned (t' := s.toks) (fun b o hb q => he' b o hb q) f0 f1 f3 f4 f5⟩
  self := fun A i s Q E st h => let ⟨⟨_, he⟩, _⟩ := st; wpAny_pyIter_enum he h
def iEnumT (K : PySem.W.Frag) (ta : TA) : TI := fun σ H R => ta σ H fun vs H1 => ∃ a xs, vs = [.ref a] ∧ SqT K H1 a xs ∧ R (IteT K a) H1
theorem pi_enumT {X : Cx} {e : Expr} {ta : TA} {p pos tpos : Pos} {elts : List Expr} {kk : Nat} (hg : Gl X "enumerate") (hm : X.mg "enumerate" = none) (ha : PA X [e] ta) (hs : starEach [e] X.env = [(false, eval e X.env)] := by rfl) :
    PI X (.Tuple elts kk tpos) (.Call (.Name "enumerate" p) [e] [] pos) (iEnumT X.K ta) := by
  refine ⟨fun pins s σ H R I h => ?_⟩
  refine Call_ (ld_blt I hg hm boot_enumerate (PyProof.Rows.callWith_type1 (thn (ha.run pos pins s σ H _ I h) fun us s1 ⟨vs, H1, I1, r1, q1⟩ => ?_) hs rfl))
  obtain ⟨a, xs, ex, hq, q⟩ := q1
  subst ex
  cases r1 with
  | cons r rr =>
    cases rr
    cases r
    obtain ⟨its, rv, p', hz⟩ := I1.tuple hq
    refine call_enum_tuple p' fun h' he hit hsz hk => wpAny_pyIter_enum he ?_
    have I2 : Inv X pins σ H1 { s1 with heap := h' } := I1.kept (t' := s1.toks) hk
    refine ⟨s1.heap.objs.size + 1, [s1.heap.objs.size + 1, s1.heap.objs.size], _, _, H1, rfl, I2, turn_enumT a (s1.heap.objs.size + 1) s1.heap.objs.size, ⟨⟨.none, he⟩, hit, Nat.succ_ne_self _⟩, fun b hb => ?_, q⟩
    have e' : b = s1.heap.objs.size + 1 ∨ b = s1.heap.objs.size := by simpa using hb
    have hle : s1.heap.objs.size ≤ b := by
      rcases e' with z | z
      · rw [z]; exact Nat.le_add_right _ _
      · rw [z]; exact Nat.le_refl _
    exact I1.fpOk hle (I1.hok.fresh hle)
end L2.MK

end

section
set_option Elab.async false
set_option linter.all false
set_option maxRecDepth 100000
set_option maxHeartbeats 1000000
set_option autoImplicit false
/-! Calls of built-ins. -/
namespace L2.MK
open PySem PySem.Spec PyProof.Rows PySem.W

abbrev GF := List D → Sto → Option D
def rC (K : PySem.W.Frag) (g : GF) : List V → Hp → VK → Prop := fun xs H Q => ∃ ρ M ds d, StOk K ρ M H ∧ Dens K ρ (frz ρ H) ds xs ∧ g ds M = some d ∧ ∀ v H', Nx ρ H ρ H' → StOk K ρ M H' → Den K ρ (frz ρ H') d v → Q v H'
def eCall (g : GF) (f : AF) : EF := fun δ => f δ >>= fun ds => opt (g ds)
section
variable {X : Cx} {W : WX}
theorem call_of {K : PySem.W.Frag} {g : GF} {f : AF} {σ : St} {H : Hp} {Q : VK} (h : rd K W (eCall g f) σ H Q) : tCB (rC K g) (rdA K W f) σ H Q := by
  obtain ⟨ρ, δ, M, hE, hS, h⟩ := h
  exact rdA_mono (rdA_bind (f := f) (g := fun ds => opt (g ds)) hE hS h) fun xs H1 ⟨ρ1, ds, M1, n1, e1, s1, r1, h1⟩ => by
    obtain ⟨z, ez, hz⟩ := opt_of h1
    exact ⟨ρ1, M1, ds, z, s1, r1, ez, hz⟩
theorem pd_callB {x : Str} {id : String} {g : GF} {e : Expr} {es : List Expr} {f : AF} {p pos : Pos} (hc : CallR X (.builtin id) (rC X.K g)) (hg : Gl X x) (hm : X.mg x = none) (hv : bootBuiltins x = some (.builtin id)) (ha : PDA X W (e :: es) f)
    (hn : x ≠ "__name__" := by decide) (hdb : (x == ("__debug__" : Str)) = false := by decide)
    (he : starEach (e :: es) X.env = (false, eval e X.env) :: starEach es X.env := by rfl) (hpl : (backTo pos (starEach es X.env)).any (·.1) = false := by rfl) : PD X W (.Call (.Name x p) (e :: es) [] pos) (eCall g f) :=
  pe_mono (pe_callB hc hg hm hv ha hn hdb he hpl) fun _ _ _ h => call_of h
theorem pd_callTy {x : Str} {T : String} {g : GF} {e : Expr} {es : List Expr} {f : AF} {p pos : Pos} (hc : CallR X (.type T) (rC X.K g)) (hg : Gl X x) (hm : X.mg x = none) (hv : bootBuiltins x = some (.type T)) (ha : PDA X W (e :: es) f)
    (hn : x ≠ "__name__" := by decide) (hdb : (x == ("__debug__" : Str)) = false := by decide)
    (he : starEach (e :: es) X.env = (false, eval e X.env) :: starEach es X.env := by rfl) (hpl : (backTo pos (starEach es X.env)).any (·.1) = false := by rfl) : PD X W (.Call (.Name x p) (e :: es) [] pos) (eCall g f) :=
  pe_mono (pe_callTy hc hg hm hv ha hn hdb he hpl) fun _ _ _ h => call_of h

/-! ### len, abs, int -/
def gLen : GF := fun ds M => match ds with
  | [d] => (match vw M d with
    | .lst xs => some (.int xs.length)
    | .rol xs => some (.int xs.length)
    | .tup xs => some (.int xs.length)
    | .str z => if z.length ≤ sizeLine then some (.int z.length) else none
    | _ => none)
  | _ => none
theorem dens1 {K : PySem.W.Frag} {ρ : List (Option Addr)} {Φ : Hp} {d : D} {xs : List V} (h : Dens K ρ Φ [d] xs) : ∃ x, xs = [x] ∧ Den K ρ Φ d x := by
  cases h with
  | cons h1 h2 => cases h2; exact ⟨_, rfl, h1⟩
theorem dens2 {K : PySem.W.Frag} {ρ : List (Option Addr)} {Φ : Hp} {d e : D} {xs : List V} (h : Dens K ρ Φ [d, e] xs) : ∃ x y, xs = [x, y] ∧ Den K ρ Φ d x ∧ Den K ρ Φ e y := by
  cases h with
  | cons h1 h2 => obtain ⟨y, rfl, h3⟩ := dens1 h2; exact ⟨_, y, rfl, h1, h3⟩
/-- a sequence, read -/
def sqD (M : Sto) (d : D) : Option (List D) := match vw M d with
  | .lst xs => some xs
  | .rol xs => some xs
  | .tup xs => some xs
  | _ => none
theorem sqD_of {K : PySem.W.Frag} {ρ : List (Option Addr)} {H : Hp} {M : Sto} {d : D} {v : V} {xs : List D} (S : StOk K ρ M H) (r : Den K ρ (frz ρ H) d v) (e : sqD M d = some xs) :
    ∃ a vs, v = .ref a ∧ (SqL K H a vs ∨ SqT K H a vs) ∧ Dens K ρ (frz ρ H) xs vs := by
  have s := seen_of S r
  unfold sqD at e
  generalize vw M d = d' at s e
  cases s with
  | den z =>
    cases z with
    | tup h z2 => cases e; exact ⟨_, _, rfl, .inr (same_sqT (frz_same ρ H) h), z2⟩
    | lst h z2 => cases e; exact ⟨_, _, rfl, .inl (.of (frz_of h).2), z2⟩
    | rol h z2 => cases e; exact ⟨_, _, rfl, .inl ((frz_same ρ H).seq h), z2⟩
    | _ => cases e
  | lst h z2 => cases e; exact ⟨_, _, rfl, .inl (.of h), z2⟩
theorem cr_len : CallR X (.builtin "len") (rC X.K gLen) := by
  refine CallR.imp call_len fun xs H Q ⟨ρ, M, ds, d, S, r, e, q⟩ => ?_
  unfold gLen at e
  split at e
  · rename_i d0
    obtain ⟨x, rfl, r1⟩ := dens1 r
    cases eq : sqD M d0 with
    | some ys =>
      obtain ⟨a, vs, rfl, hs, hv⟩ := sqD_of S r1 eq
      have e' : d = .int ys.length := by
        unfold sqD at eq
        generalize vw M d0 = d1 at e eq
        cases d1 <;> simp only [reduceCtorEq, Option.some.injEq] at e eq <;> (first | (subst eq; exact e.symm) | cases eq)
      subst e'
      refine ⟨_, ys.length, rfl, ?_, q _ H Nx.refl S (.int _)⟩
      rw [hv.length]
      rcases hs with hs | hs
      · exact .inl ⟨_, hs, rfl⟩
      · exact .inr ⟨_, hs, rfl⟩
    | none =>
      have sn := seen_of S r1
      unfold sqD at eq
      generalize vw M d0 = d1 at e eq sn
      cases d1 <;> simp only [reduceCtorEq] at e eq
      rename_i z
      split at e
      · rename_i hz
        cases e
        cases sn with
        | den w1 =>
          cases w1
          exact ⟨_, z.length, rfl, ⟨hz, rfl⟩, q _ H Nx.refl S (.int _)⟩
      · cases e
  · cases e
def gAbs : GF := fun ds _ => match ds with
  | [.int i] => some (.int (if i < 0 then -i else i))
  | _ => none
theorem cr_abs : CallR X (.builtin "abs") (rC X.K gAbs) := by
  refine CallR.imp call_abs fun xs H Q ⟨ρ, M, ds, d, S, r, e, q⟩ => ?_
  unfold gAbs at e
  split at e
  · cases e
    obtain ⟨x, rfl, r1⟩ := dens1 r
    cases r1
    exact ⟨_, rfl, q _ H Nx.refl S (.int _)⟩
  · cases e
def gInt : GF := fun ds _ => match ds with
  | [.int i] => some (.int i)
  | [.bl b] => some (.int (if b then 1 else 0))
  | _ => none
theorem cr_int : CallR X (.type "int") (rC X.K gInt) := by
  refine CallR.imp call_int1 fun xs H Q ⟨ρ, M, ds, d, S, r, e, q⟩ => ?_
  unfold gInt at e
  split at e
  · cases e
    obtain ⟨x, rfl, r1⟩ := dens1 r
    cases r1
    exact .inl ⟨_, rfl, q _ H Nx.refl S (.int _)⟩
  · cases e
    obtain ⟨x, rfl, r1⟩ := dens1 r
    cases r1
    exact .inr ⟨_, rfl, q _ H Nx.refl S (.int _)⟩
  · cases e

/-! ### list, tuple -/
def gList : GF := fun ds M => match ds with
  | [d] => (sqD M d).map .lst
  | _ => none
theorem cr_list : CallR X (.type "list") (rC X.K gList) := by
  refine CallR.imp call_list_of fun xs H Q ⟨ρ, M, ds, d, S, r, e, q⟩ => ?_
  unfold gList at e
  split at e
  · rename_i d0
    obtain ⟨x, rfl, r1⟩ := dens1 r
    cases eq : sqD M d0 with
    | none => rw [eq] at e; cases e
    | some ys =>
      rw [eq] at e
      cases e
      obtain ⟨a, vs, rfl, hs, hv⟩ := sqD_of S r1 eq
      exact ⟨a, vs, rfl, hs, fun l hl => q _ _ (Nx.new hl) (S.new hl) (.lst (frz_at (S.notin hl) upd_same) (hv.mono (Nx.new hl).ext))⟩
  · cases e
def gTuple : GF := fun ds M => match ds with
  | [d] => (sqD M d).map .tup
  | _ => none
theorem cr_tuple : CallR X (.type "tuple") (rC X.K gTuple) := by
  refine CallR.imp call_tuple_of fun xs H Q ⟨ρ, M, ds, d, S, r, e, q⟩ => ?_
  unfold gTuple at e
  split at e
  · rename_i d0
    obtain ⟨x, rfl, r1⟩ := dens1 r
    cases eq : sqD M d0 with
    | none => rw [eq] at e; cases e
    | some ys =>
      rw [eq] at e
      cases e
      have sn := seen_of S r1
      unfold sqD at eq
      generalize vw M d0 = d1 at sn eq
      cases sn with
      | den z =>
        cases z with
        | tup h z2 => cases eq; exact ⟨_, _, rfl, .inr ⟨same_sqT (frz_same ρ H) h, q _ _ Nx.refl S (.tup h z2)⟩⟩
        | lst h z2 => cases eq; exact ⟨_, _, rfl, .inl ⟨.of (frz_of h).2, fun l hl => q _ _ (Nx.new hl) (S.new hl) (.tup (.of (frz_at (S.notin hl) upd_same)) (z2.mono (Nx.new hl).ext))⟩⟩
        | rol h z2 => cases eq; exact ⟨_, _, rfl, .inl ⟨(frz_same ρ H).seq h, fun l hl => q _ _ (Nx.new hl) (S.new hl) (.tup (.of (frz_at (S.notin hl) upd_same)) (z2.mono (Nx.new hl).ext))⟩⟩
        | _ => cases eq
      | lst h z2 => cases eq; exact ⟨_, _, rfl, .inl ⟨.of h, fun l hl => q _ _ (Nx.new hl) (S.new hl) (.tup (.of (frz_at (S.notin hl) upd_same)) (z2.mono (Nx.new hl).ext))⟩⟩
  · cases e
end
end L2.MK

end

section
set_option Elab.async false
set_option linter.all false
set_option maxRecDepth 100000
set_option maxHeartbeats 1000000
set_option autoImplicit false
/-! Statements. -/
namespace L2.MK
open PySem PySem.Spec PyProof.Rows PySem.W

def sBind (f : EF) (g : D → SF) : SF := fun δ M => match f δ M with
  | .ok d M' => g d δ M'
  | .exc C fs M' => .exc C fs δ M'
  | .stuck => .stuck
def sBindB (f : BF) (g : Bool → SF) : SF := fun δ M => match f δ M with
  | .ok d M' => g d δ M'
  | .exc C fs M' => .exc C fs δ M'
  | .stuck => .stuck
section
variable {K : PySem.W.Frag} {W : WX} {ρ ρ1 : List (Option Addr)} {H H1 : Hp} {σ : St} {δ : Env} {M M1 : Sto}
theorem rd_bindS {f : EF} {g : D → SF} {E : Ends} (hE : DenE K ρ (frz ρ H) δ σ) (hS : StOk K ρ M H) (h : ResS K W ρ H E (sBind f g δ M)) :
    rd K W f σ H fun x H1 => ∃ ρ1 d M1, Nx ρ H ρ1 H1 ∧ DenE K ρ1 (frz ρ1 H1) δ σ ∧ StOk K ρ1 M1 H1 ∧ Den K ρ1 (frz ρ1 H1) d x ∧ ResS K W ρ1 H1 E (g d δ M1) := by
  refine ⟨ρ, δ, M, hE, hS, ?_⟩
  unfold sBind at h
  cases e : f δ M with
  | ok d M' =>
    rw [e] at h
    exact fun ρ' v H' n s r => ⟨ρ', d, M', n, hE.mono n.ext, s, r, ResS.nx n h⟩
  | exc C fs M' =>
    rw [e] at h
    exact fun ρ' d H' n s r => h ρ' d σ H' n s (hE.mono n.ext) r
  | stuck => rw [e] at h; exact h
theorem rdB_bindS {f : BF} {g : Bool → SF} {E : Ends} (hE : DenE K ρ (frz ρ H) δ σ) (hS : StOk K ρ M H) (h : ResS K W ρ H E (sBindB f g δ M)) :
    rdB K W f σ H fun b H1 => ∃ ρ1 M1, Nx ρ H ρ1 H1 ∧ DenE K ρ1 (frz ρ1 H1) δ σ ∧ StOk K ρ1 M1 H1 ∧ ResS K W ρ1 H1 E (g b δ M1) := by
  refine ⟨ρ, δ, M, hE, hS, ?_⟩
  unfold sBindB at h
  cases e : f δ M with
  | ok d M' =>
    rw [e] at h
    exact fun ρ' H' n s => ⟨ρ', M', n, hE.mono n.ext, s, ResS.nx n h⟩
  | exc C fs M' =>
    rw [e] at h
    exact fun ρ' d H' n s r => h ρ' d σ H' n s (hE.mono n.ext) r
  | stuck => rw [e] at h; exact h
end
section
variable {X : Cx} {W : WX}
def sSkip : SF := fun δ M => .nx δ M
def sSeq (f g : SF) : SF := fun δ M => match f δ M with
  | .nx δ' M' => g δ' M'
  | o => o
theorem pdss_nil : PDSs X W [] sSkip := pss_mono pss_nil fun σ H Q ⟨ρ, δ, M, hE, hS, h⟩ => h ρ σ H Nx.refl hS hE
/-- one statement, then others -/
theorem rdS_seq {K : PySem.W.Frag} {f g : SF} {E : Ends} {σ : St} {H : Hp} (h : rdS K W (sSeq f g) E σ H) : rdS K W f { E with nx := rdS K W g E } σ H := by
  obtain ⟨ρ, δ, M, hE, hS, h⟩ := h
  refine ⟨ρ, δ, M, hE, hS, ?_⟩
  unfold sSeq at h
  cases e : f δ M with
  | nx δ' M' => rw [e] at h; exact fun ρ' σ' H' n s r => ⟨ρ', δ', M', r, s, ResS.nx n h⟩
  | ret d M' => rw [e] at h; exact h
  | exc C fs δ' M' => rw [e] at h; exact h
  | stuck => rw [e] at h; exact h
theorem pdss_cons {st : Stmt} {rest : List Stmt} {f g : SF} (h1 : PDS X W st f) (h2 : PDSs X W rest g) : PDSs X W (st :: rest) (sSeq f g) := pss_mono (pss_cons h1 h2) fun σ H Q h => rdS_seq h
theorem pdss_one {st : Stmt} {f : SF} (h1 : PDS X W st f) : PDSs X W [st] f := pss_one h1
theorem pds_pass {pos : Pos} : PDS X W (.Pass pos) sSkip := ps_mono ps_pass fun σ H Q ⟨ρ, δ, M, hE, hS, h⟩ => h ρ σ H Nx.refl hS hE
def sExp (f : EF) : SF := sBind f fun _ => sSkip
theorem pds_expr {e : Expr} {f : EF} {pos : Pos} (he : PD X W e f) (hs : swapsWith e none pos.line X.env = pure false := by rfl) : PDS X W (.Expr e pos) (sExp f) := ps_mono (ps_expr he hs) fun σ H Q ⟨ρ, δ, M, hE, hS, h⟩ =>
  rd_mono (rd_bindS (f := f) (g := fun _ => sSkip) hE hS h) fun x H1 ⟨ρ1, d1, M1, n1, e1, s1, r1, h1⟩ => h1 ρ1 σ H1 Nx.refl s1 e1
def sRet (f : EF) : SF := sBind f fun d _ M => .ret d M
theorem pds_ret {e : Expr} {f : EF} {pos : Pos} (he : PD X W e f) : PDS X W (.Return (some e) pos) (sRet f) := ps_mono (ps_ret he) fun σ H Q ⟨ρ, δ, M, hE, hS, h⟩ =>
  rd_mono (rd_bindS (f := f) (g := fun d _ M => .ret d M) hE hS h) fun x H1 ⟨ρ1, d1, M1, n1, e1, s1, r1, h1⟩ => h1 ρ1 x H1 Nx.refl s1 r1
def sRetN : SF := fun _ M => .ret .non M
theorem pds_retN {pos : Pos} : PDS X W (.Return none pos) sRetN := ps_mono ps_retN fun σ H Q ⟨ρ, δ, M, hE, hS, h⟩ => h ρ .non H Nx.refl hS .non
def sIf (b : BF) (f g : SF) : SF := sBindB b fun k => if k = true then f else g
theorem pds_if {c : Expr} {a b : List Stmt} {fb : BF} {f g : SF} {pos : Pos} (hc : PDB X W c fb) (ha : PDSs X W a f) (hb : PDSs X W b g) : PDS X W (.If c a b pos) (sIf fb f g) := ps_mono (ps_if hc ha hb) fun σ H Q ⟨ρ, δ, M, hE, hS, h⟩ =>
  rdB_mono (rdB_bindS (f := fb) (g := fun k => if k = true then f else g) hE hS h) fun k H1 ⟨ρ1, M1, n1, e1, s1, h1⟩ => by
    cases k with
    | true => rw [if_pos rfl]; exact ⟨ρ1, δ, M1, e1, s1, h1⟩
    | false => rw [if_neg Bool.false_ne_true]; exact ⟨ρ1, δ, M1, e1, s1, h1⟩

/-! ### targets -/
def endsOf (Q : St → Hp → Prop) : Ends := { nx := Q, rt := fun _ _ => False }
def rdG (K : PySem.W.Frag) (W : WX) (g : D → SF) : TG := fun v σ H Q => ∃ ρ δ M d, DenE K ρ (frz ρ H) δ σ ∧ StOk K ρ M H ∧ Den K ρ (frz ρ H) d v ∧ ResS K W ρ H (endsOf Q) (g d δ M)
def rdGs (K : PySem.W.Frag) (W : WX) (g : List D → SF) : TGs := fun vs σ H Q => ∃ ρ δ M ds, DenE K ρ (frz ρ H) δ σ ∧ StOk K ρ M H ∧ Dens K ρ (frz ρ H) ds vs ∧ ResS K W ρ H (endsOf Q) (g ds δ M)
abbrev PDG (X : Cx) (W : WX) (tg : Expr) (g : D → SF) : Prop := PG X tg (rdG X.K W g)
abbrev PDGs (X : Cx) (W : WX) (tgs : List Expr) (g : List D → SF) : Prop := PGs X tgs (rdGs X.K W g)
theorem pg_mono {tg : Expr} {t t' : TG} (h : PG X tg t) (m : ∀ v σ H Q, t' v σ H Q → t v σ H Q) : PG X tg t' := ⟨fun pins s σ H v u Q I r q => h.run pins s σ H v u Q I r (m v σ H Q q)⟩
theorem pgs_mono {tg : List Expr} {t t' : TGs} (h : PGs X tg t) (m : ∀ v σ H Q, t' v σ H Q → t v σ H Q) : PGs X tg t' := ⟨fun pins s σ H v u Q I r q => h.run pins s σ H v u Q I r (m v σ H Q q)⟩
theorem pg_or {tg : Expr} {t t' : TG} (h : PG X tg t) (h' : PG X tg t') : PG X tg (fun v σ H Q => t v σ H Q ∨ t' v σ H Q) := ⟨fun pins s σ H v u Q I r q => q.elim (fun z => h.run pins s σ H v u Q I r z) fun z => h'.run pins s σ H v u Q I r z⟩
def gN (i : Nat) : D → SF := fun d δ M => .nx (δ.set i (some d)) M
theorem pdg_name {i : Nat} {x : Str} {pos : Pos} (hN : X.N.Nodup) (hi : X.N[i]? = some x) (hx : Loc X.env.scope x) (hf : X.fn x = true ∨ X.env.scope.names.lookup x = some .local := by first | exact .inl rfl | exact .inr rfl | assumption) : PDG X W (.Name x pos) (gN i) :=
  pg_mono (pg_name hN hi hx hf) fun v σ H Q ⟨ρ, δ, M, d, hE, hS, r, h⟩ => h ρ _ H Nx.refl hS (hE.set r i)
def gNils : List D → SF := fun ds δ M => match ds with
  | [] => .nx δ M
  | _ => .stuck
def gConss (g : D → SF) (gs : List D → SF) : List D → SF := fun ds => match ds with
  | d :: r => sSeq (g d) (gs r)
  | [] => fun _ _ => .stuck
theorem pdgs_nil : PDGs X W [] gNils := pgs_mono pgs_nil fun vs σ H Q ⟨ρ, δ, M, ds, hE, hS, r, h⟩ => by
  cases r with
  | nil => exact ⟨rfl, h ρ σ H Nx.refl hS hE⟩
  | cons _ _ => exact h.elim
theorem pdgs_cons {e : Expr} {es : List Expr} {g : D → SF} {gs : List D → SF} (h1 : PDG X W e g) (h2 : PDGs X W es gs)
    (hx : (assignEach (e :: es) X.env).map (·.2) = assign e X.env :: (assignEach es X.env).map (·.2) := by rfl) : PDGs X W (e :: es) (gConss g gs) :=
  pgs_mono (pgs_cons h1 h2 hx) fun vs σ H Q ⟨ρ, δ, M, ds, hE, hS, r, h⟩ => by
    cases r with
    | nil => exact h.elim
    | @cons d v ds' vs' r1 r2 =>
      refine ⟨v, vs', rfl, ρ, δ, M, d, hE, hS, r1, ?_⟩
      have h : ResS X.K W ρ H (endsOf Q) (sSeq (g d) (gs ds') δ M) := h
      unfold sSeq at h
      cases e : g d δ M with
      | nx δ' M' => rw [e] at h; exact fun ρ' σ' H' n s z => ⟨ρ', δ', M', ds', z, s, r2.mono n.ext, ResS.nx n h⟩
      | ret d' M' =>
        rw [e] at h
        exact h
      | exc C fs δ' M' => rw [e] at h; exact h
      | stuck => rw [e] at h; exact h
def gTupD (n : Nat) (gs : List D → SF) : D → SF := fun d δ M => match sqD M d with
  | some ys => if ys.length = n then gs ys δ M else .stuck
  | none => .stuck
theorem pdg_tup {es : List Expr} {k n : Nat} {gs : List D → SF} {pos : Pos} (hc : X.calm = true) (h : PDGs X W es gs)
    (hn : (assignEach es X.env).length = n := by rfl) (hst : (assignEach es X.env).findIdx? (·.1) = none := by rfl) : PDG X W (.Tuple es k pos) (gTupD n gs) :=
  pg_mono (pg_or (pg_unl hc h hn hst) (pg_tup hc h hn hst)) fun v σ H Q ⟨ρ, δ, M, d, hE, hS, r, q⟩ => by
    unfold gTupD at q
    cases e : sqD M d with
    | none => rw [e] at q; exact q.elim
    | some ys =>
      rw [e] at q
      have q : ResS X.K W ρ H (endsOf Q) (if ys.length = n then gs ys δ M else .stuck) := q
      by_cases hl : ys.length = n
      · rw [if_pos hl] at q
        obtain ⟨a, vs, rfl, hs, hv⟩ := sqD_of hS r e
        rcases hs with hs | hs
        · exact .inl ⟨a, vs, rfl, hs, by rw [← hv.length]; exact hl, ρ, δ, M, ys, hE, hS, hv, q⟩
        · exact .inr ⟨a, vs, rfl, hs, by rw [← hv.length]; exact hl, ρ, δ, M, ys, hE, hS, hv, q⟩
      · rw [if_neg hl] at q; exact q.elim
/-- a store gives nothing back -/
def noRet : SO → SO
  | .ret _ _ => .stuck
  | o => o
theorem noRet_of {K : PySem.W.Frag} {W : WX} {ρ : List (Option Addr)} {H : Hp} {E : Ends} {o : SO} (h : ResS K W ρ H E (noRet o)) : ResS K W ρ H (endsOf E.nx) o := by
  cases o with
  | nx δ M => exact h
  | ret d M => exact h.elim
  | exc C fs δ M => exact h
  | stuck => exact h
def sAsg (f : EF) (g : D → SF) : SF := sBind f fun d δ M => noRet (g d δ M)
theorem pds_asg {tg e : Expr} {f : EF} {g : D → SF} {pos : Pos} (he : PD X W e f) (hg : PDG X W tg g) (hs : swapsWithSole [tg] e pos.line X.env = pure false := by rfl) (hw : swappedStores [tg] e X.env = pure none := by rfl)
    (h1 : (assignEach [tg] X.env).map (·.2) = [assign tg X.env] := by rfl) : PDS X W (.Assign [tg] e pos) (sAsg f g) := ps_mono (ps_asg he hg hs hw h1) fun σ H Q ⟨ρ, δ, M, hE, hS, h⟩ =>
  rd_mono (rd_bindS (f := f) (g := fun d δ M => noRet (g d δ M)) hE hS h) fun x H1 ⟨ρ1, d1, M1, n1, e1, s1, r1, h1⟩ => ⟨ρ1, δ, M1, d1, e1, s1, r1, noRet_of h1⟩
theorem pds_set {i : Nat} {x : Str} {e : Expr} {f : EF} {pos pos' : Pos} (hN : X.N.Nodup) (hi : X.N[i]? = some x) (hx : Loc X.env.scope x) (he : PD X W e f) (hs : swapsWith e (some (.Name x pos')) pos.line X.env = pure false := by rfl)
    (hf : X.fn x = true ∨ X.env.scope.names.lookup x = some .local := by first | exact .inl rfl | exact .inr rfl | assumption) : PDS X W (.Assign [.Name x pos'] e pos) (sAsg f (gN i)) := ps_mono (ps_set hN hi hx he hs hf) fun σ H Q ⟨ρ, δ, M, hE, hS, h⟩ =>
  rd_mono (rd_bindS (f := f) (g := fun d δ M => noRet (gN i d δ M)) hE hS h) fun x H1 ⟨ρ1, d1, M1, n1, e1, s1, r1, h1⟩ => h1 ρ1 _ H1 Nx.refl s1 (e1.set r1 i)
end
end L2.MK

end

section
set_option Elab.async false
set_option linter.all false
set_option maxRecDepth 100000
set_option maxHeartbeats 1000000
set_option autoImplicit false
/-! Stores into lists and dicts, methods, loops. -/
namespace L2.MK
open PySem PySem.Spec PyProof.Rows PySem.W

def valG {κ α : Type} [DecidableEq κ] (kvs : List (κ × α)) (k : κ) : Option α := (kvs.find? fun kv => decide (kv.1 = k)).map (·.2)
def putG {κ α : Type} [DecidableEq κ] (kvs : List (κ × α)) (k : κ) (v : α) : List (κ × α) :=
  if (kvs.any fun kv => decide (kv.1 = k)) = true then kvs.map (fun kv => if kv.1 = k then (kv.1, v) else kv) else kvs ++ [(k, v)]
theorem valG_pos {κ α : Type} [DecidableEq κ] {p : κ × α} {r : List (κ × α)} {k : κ} (e : p.1 = k) : valG (p :: r) k = some p.2 := by simp [valG, List.find?_cons, e]
theorem valG_neg {κ α : Type} [DecidableEq κ] {p : κ × α} {r : List (κ × α)} {k : κ} (e : ¬ p.1 = k) : valG (p :: r) k = valG r k := by simp [valG, List.find?_cons, e]
/-- a key -/
def keyD : D → Option Key
  | .int i => some (.inl i)
  | .str x => some (.inr x)
  | _ => none
section
variable {K : PySem.W.Frag} {ρ : List (Option Addr)} {H : Hp} {M : Sto} {Φ : Hp}
theorem keyD_of {d : D} {k : Key} {v : V} (r : Den K ρ Φ d v) (e : keyD d = some k) : v = kV k := by
  cases r <;> simp only [keyD, Option.some.injEq, reduceCtorEq] at e <;> subst e <;> rfl
theorem DenK.val : ∀ {ds : List (Key × D)} {vs : List (Key × V)} (k : Key), DenK K ρ Φ ds vs → (∃ d v, valG ds k = some d ∧ valV vs k = some v ∧ Den K ρ Φ d v) ∨ (valG ds k = none ∧ valV vs k = none)
  | [], [], k, _ => .inr ⟨rfl, rfl⟩
  | (j, d) :: r, (l, v) :: s, k, ⟨e, h, t⟩ => by
    subst e
    by_cases q : j = k
    · exact .inl ⟨d, v, valG_pos (p := (j, d)) q, valV_pos (p := (j, v)) q, h⟩
    · rw [valG_neg (p := (j, d)) q, valV_neg (p := (j, v)) q]
      exact DenK.val k t
  | [], _ :: _, _, h => h.elim
  | _ :: _, [], _, h => h.elim
theorem DenK.length : ∀ {ds : List (Key × D)} {vs : List (Key × V)}, DenK K ρ Φ ds vs → ds.length = vs.length
  | [], [], _ => rfl
  | (j, d) :: r, (l, v) :: s, ⟨_, _, t⟩ => congrArg (· + 1) (DenK.length t)
  | [], _ :: _, h => h.elim
  | _ :: _, [], h => h.elim
theorem DenK.app : ∀ {ds es : List (Key × D)} {vs ws : List (Key × V)}, DenK K ρ Φ ds vs → DenK K ρ Φ es ws → DenK K ρ Φ (ds ++ es) (vs ++ ws)
  | [], _, [], _, _, h => h
  | (j, d) :: r, _, (l, v) :: s, _, ⟨a, b, t⟩, h => ⟨a, b, DenK.app t h⟩
  | [], _, _ :: _, _, h, _ => h.elim
  | _ :: _, _, [], _, h, _ => h.elim
theorem DenK.any (k : Key) : ∀ {ds : List (Key × D)} {vs : List (Key × V)}, DenK K ρ Φ ds vs → (ds.any fun kv => decide (kv.1 = k)) = (vs.any fun kv => decide (kv.1 = k))
  | [], [], _ => rfl
  | (j, d) :: r, (l, v) :: s, ⟨a, b, t⟩ => by
    subst a
    rw [List.any_cons, List.any_cons, DenK.any k t]
  | [], _ :: _, h => h.elim
  | _ :: _, [], h => h.elim
theorem DenK.rep {d : D} {v : V} (k : Key) (r : Den K ρ Φ d v) : ∀ {ds : List (Key × D)} {vs : List (Key × V)}, DenK K ρ Φ ds vs → DenK K ρ Φ (ds.map fun kv => if kv.1 = k then (kv.1, d) else kv) (vs.map fun kv => if kv.1 = k then (kv.1, v) else kv)
  | [], [], _ => trivial
  | (j, d') :: r', (l, v') :: s, ⟨a, b, t⟩ => by
    subst a
    rw [List.map_cons, List.map_cons]
    by_cases q : j = k
    · rw [if_pos q, if_pos q]; exact ⟨rfl, r, DenK.rep k r t⟩
    · rw [if_neg q, if_neg q]; exact ⟨rfl, b, DenK.rep k r t⟩
  | [], _ :: _, h => h.elim
  | _ :: _, [], h => h.elim
theorem DenK.put {d : D} {v : V} (k : Key) (r : Den K ρ Φ d v) {ds : List (Key × D)} {vs : List (Key × V)} (h : DenK K ρ Φ ds vs) : DenK K ρ Φ (putG ds k d) (putK vs k v) := by
  unfold putG putK
  rw [h.any k]
  split
  · exact h.rep k r
  · exact h.app ⟨rfl, r, trivial⟩
/-- the list at a place of the store -/
theorem lst_at (S : StOk K ρ M H) {i : Nat} {v : V} {xs : List D} (r : Den K ρ (frz ρ H) (.ref i) v) (e : M[i]? = some (.lst xs)) : ∃ a vs, v = .ref a ∧ ρ[i]? = some (some a) ∧ H a = some (.lst vs) ∧ Dens K ρ (frz ρ H) xs vs := by
  cases r with
  | @ref i a h =>
    obtain ⟨m, h1, h2⟩ := S.at_ i a h
    rw [e] at h1
    cases h1
    obtain ⟨vs, h3, h4⟩ := h2
    exact ⟨a, vs, rfl, h, h3, h4⟩
theorem dct_at (S : StOk K ρ M H) {i : Nat} {v : V} {xs : List (Key × D)} (r : Den K ρ (frz ρ H) (.ref i) v) (e : M[i]? = some (.dK xs)) : ∃ a vs, v = .ref a ∧ ρ[i]? = some (some a) ∧ H a = some (.dK vs) ∧ DenK K ρ (frz ρ H) xs vs := by
  cases r with
  | @ref i a h =>
    obtain ⟨m, h1, h2⟩ := S.at_ i a h
    rw [e] at h1
    cases h1
    obtain ⟨vs, h3, h4⟩ := h2
    exact ⟨a, vs, rfl, h, h3, h4⟩
end

/-! ### o[i] = v -/
def stI (o i v : D) : Sto → Option Sto := fun M => match o with
  | .ref j => (match M[j]?, i with
    | some (.lst xs), .int k => (ixN xs.length k).map fun p => M.set j (.lst (xs.set p v))
    | some (.dK kvs), i => (match keyD i with
      | some k => if kvs.length < sizeLine then some (M.set j (.dK (putG kvs k v))) else none
      | none => none)
    | _, _ => none)
  | _ => none
def gSubD (fo fi : EF) : D → SF := fun v => sBind fo fun o => sBind fi fun i => fun δ M => match stI o i v M with
  | some M' => .nx δ M'
  | none => .stuck
section
variable {X : Cx} {W : WX}
theorem pset_or {t t' : TSet} (h : PSet X t) (h' : PSet X t') : PSet X (fun o i v H Q => t o i v H Q ∨ t' o i v H Q) := fun pins s σ H o i v ov iv u Q I r1 r2 r3 q => q.elim (fun z => h pins s σ H o i v ov iv u Q I r1 r2 r3 z) fun z => h' pins s σ H o i v ov iv u Q I r1 r2 r3 z
theorem stI_of {K : PySem.W.Frag} {ρ : List (Option Addr)} {H : Hp} {M M' : Sto} {o i v : D} {x y z : V} {Q : Hp → Prop} (S : StOk K ρ M H) (ro : Den K ρ (frz ρ H) o x) (ri : Den K ρ (frz ρ H) i y) (rv : Den K ρ (frz ρ H) v z) (e : stI o i v M = some M')
    (h : ∀ H', Nx ρ H ρ H' → StOk K ρ M' H' → Q H') : rSetL x y z H Q ∨ rSetD x y z H Q := by
  unfold stI at e
  split at e
  · rename_i j
    split at e
    · rename_i xs k e1
      cases e2 : ixN xs.length k with
      | none => rw [e2] at e; cases e
      | some p =>
        rw [e2] at e
        cases e
        obtain ⟨a, vs, rfl, h1, h2, h3⟩ := lst_at S ro e1
        cases ri
        have n := Nx.write (H := H) (o := .lst (vs.set p z)) h1 (fun φ q => by rw [h2] at q; cases q)
        exact .inl ⟨a, vs, k, p, rfl, rfl, h2, by rw [← h3.length]; exact e2, h _ n (S.write h1 (fun φ q => by rw [h2] at q; cases q) ⟨_, upd_same, Dens.set (rv.mono n.ext) p (h3.mono n.ext)⟩)⟩
    · rename_i i2 _ _ kvs e1
      cases e2 : keyD i2 with
      | none => rw [e2] at e; cases e
      | some k =>
        rw [e2] at e
        simp only at e
        split at e
        · rename_i hl
          cases e
          obtain ⟨a, vs, rfl, h1, h2, h3⟩ := dct_at S ro e1
          have ey := keyD_of ri e2
          subst ey
          have n := Nx.write (H := H) (o := .dK (putK vs k z)) h1 (fun φ q => by rw [h2] at q; cases q)
          exact .inr ⟨a, _, rfl, DPut.k h2 (by rw [← h3.length]; exact hl), h _ n (S.write h1 (fun φ q => by rw [h2] at q; cases q) ⟨_, upd_same, (h3.mono n.ext).put k (rv.mono n.ext)⟩)⟩
        · cases e
    · cases e
  · cases e
theorem pdg_sub {o i : Expr} {fo fi : EF} {pos : Pos} (hu : X.A.units + 1 < cLine) (ho : PD X W o fo) (hi : PD X W i fi)
    (ha : ∀ v, assign (.Subscript o i pos) X.env v = (do
      let ov ← holding [v] (eval o X.env)
      let iv ← holding [v, ov] (eval i X.env)
      standAt pos
      holding [v, ov, iv] (setItem ov iv v)
      release [v, ov, iv] []) := by intro _; rfl) : PDG X W (.Subscript o i pos) (gSubD fo fi) :=
  pg_mono (pg_sub ho hi (pset_or set_list (set_dict hu)) ha) fun v σ H Q ⟨ρ, δ, M, d, hE, hS, r, h⟩ =>
    rd_mono (rd_bindS (f := fo) (g := fun o => sBind fi fun i => fun δ M => match stI o i d M with
      | some M' => .nx δ M'
      | none => .stuck) hE hS h) fun x H1 ⟨ρ1, d1, M1, n1, e1, s1, r1, h1⟩ =>
      rd_mono (rd_bindS (f := fi) (g := fun i => fun δ M => match stI d1 i d M with
        | some M' => .nx δ M'
        | none => .stuck) e1 s1 h1) fun y H2 ⟨ρ2, d2, M2, n2, e2, s2, r2, h2⟩ => by
        cases e : stI d1 d2 d M2 with
        | none => simp only [e] at h2; exact h2.elim
        | some M3 =>
          simp only [e] at h2
          exact stI_of s2 (r1.mono n2.ext) r2 ((r.mono n1.ext).mono n2.ext) e fun H3 n3 s3 => h2 ρ2 σ H3 n3 s3 (e2.mono n3.ext)
end

/-! ### methods of built-ins -/
def tyOkD (T : String) (M : Sto) (o : D) : Bool := match o with
  | .str _ => T == "str"
  | o => match lvw M o with
    | some _ => T == "list"
    | none => false
abbrev MF := D → List D → Sto → Option (D × Sto)
def rM (K : PySem.W.Frag) (g : MF) : V → List V → Hp → VK → Prop := fun x xs H Q => ∃ ρ M o ds d M', StOk K ρ M H ∧ Den K ρ (frz ρ H) o x ∧ Dens K ρ (frz ρ H) ds xs ∧ g o ds M = some (d, M') ∧ ∀ v H', Nx ρ H ρ H' → StOk K ρ M' H' → Den K ρ (frz ρ H') d v → Q v H'
def evTy (T : String) (o : D) : Ev Unit := fun M => if tyOkD T M o = true then .ok () M else .stuck
def evM (g : MF) (o : D) (ds : List D) : Ev D := fun M => match g o ds M with
  | some (d, M') => .ok d M'
  | none => .stuck
def eMeth (T : String) (g : MF) (fo : EF) (fa : AF) : EF := fun δ => fo δ >>= fun o => evTy T o >>= fun _ => fa δ >>= fun ds => evM g o ds
section
variable {X : Cx} {W : WX}
theorem tyOk_of {K : PySem.W.Frag} {ρ : List (Option Addr)} {H : Hp} {M : Sto} {o : D} {x : V} {T : String} (S : StOk K ρ M H) (r : Den K ρ (frz ρ H) o x) (e : tyOkD T M o = true) : tyV K T x H := by
  unfold tyOkD at e
  split at e
  · cases r
    exact eq_of_beq e
  · rename_i o'
    cases q : lvw M o with
    | none => rw [q] at e; cases e
    | some ys =>
      rw [q] at e
      obtain ⟨a, vs, rfl, h1, _⟩ := lvw_of S r q
      exact .inl ⟨eq_of_beq e, vs, .of h1⟩
theorem meth_of {K : PySem.W.Frag} {T : String} {g : MF} {fo : EF} {fa : AF} {σ : St} {H : Hp} {Q : VK} (h : rd K W (eMeth T g fo fa) σ H Q) : tBM K T (rM K g) (rd K W fo) (rdA K W fa) σ H Q := by
  obtain ⟨ρ, δ, M, hE, hS, h⟩ := h
  refine rd_mono (rd_bind (f := fo) (g := fun o => evTy T o >>= fun _ => fa δ >>= fun ds => evM g o ds) hE hS h) fun x H1 ⟨ρ1, d1, M1, n1, e1, s1, r1, h1⟩ => ?_
  rw [Ev.bind_run] at h1
  unfold evTy at h1
  by_cases ty : tyOkD T M1 d1 = true
  · rw [if_pos ty] at h1
    refine ⟨tyOk_of s1 r1 ty, rdA_mono (rdA_bind (f := fa) (g := fun ds => evM g d1 ds) e1 s1 h1) fun xs H2 ⟨ρ2, ds, M2, n2, e2, s2, r2, h2⟩ => ?_⟩
    unfold evM at h2
    cases e : g d1 ds M2 with
    | none => rw [e] at h2; exact h2.elim
    | some p => rw [e] at h2; exact ⟨ρ2, M2, d1, ds, p.1, p.2, s2, r1.mono n2.ext, r2, e, fun v H' n s r => h2 ρ2 v H' n s r⟩
  · rw [if_neg ty] at h1; exact h1.elim
theorem MtR.imp' {id : String} {r r' : V → List V → Hp → VK → Prop} (h : MtR X id r) (m : ∀ x xs H Q, r' x xs H Q → r x xs H Q) : MtR X id r' := fun pins s σ H x xs v us Q I r1 r2 q => h pins s σ H x xs v us Q I r1 r2 (m _ _ _ _ q)
theorem pd_meth {o e : Expr} {es : List Expr} {fo : EF} {fa : AF} {g : MF} {name : Str} {apos cpos : Pos} {T id : String} (pa : PlainAttrs T) (slot : Slot T name id) (hty : typeOf (.builtin id) = pure (.type "method_descriptor")) (hm : MtR X id (rM X.K g)) (ho : PD X W o fo) (ha : PDA X W (e :: es) fa)
    (hbase : attributeBase o name X.env (eval o X.env) = eval o X.env := by rfl)
    (hfew : ((backTo cpos (starEach (e :: es) X.env)).all (fun x => !x.1) && (backToKw cpos (keywordEach [] X.env)).all (fun x => x.1.isSome)
      && decide ((e :: es).length + ([] : List Keyword).length + (if ([] : List Keyword).isEmpty then 0 else 1) < 30)) = true := by rfl)
    (hline : (apos.endLine == cpos.line) = true := by rfl) (hs : starEach (e :: es) X.env = (false, eval e X.env) :: starEach es X.env := by rfl) (hplain : (backTo cpos (starEach es X.env)).any (·.1) = false := by rfl) :
    PD X W (.Call (.Attribute o name apos) (e :: es) [] cpos) (eMeth T g fo fa) := pe_mono (pe_bm pa slot hty hm ho ha hbase hfew hline hs hplain) fun _ _ _ h => meth_of h
def gAppend : MF := fun o ds M => match o, ds with
  | .ref i, [d] => (match M[i]? with
    | some (.lst xs) => if xs.length < sizeLine then some (.non, M.set i (.lst (xs ++ [d]))) else none
    | _ => none)
  | _, _ => none
theorem mr_append : MtR X "list.append" (rM X.K gAppend) := MtR.imp' mt_append fun x xs H Q ⟨ρ, M, o, ds, d, M', S, ro, rs, e, q⟩ => by
  unfold gAppend at e
  split at e
  · rename_i i d0
    split at e
    · rename_i ys e1
      split at e
      · rename_i hl
        cases e
        obtain ⟨a, vs, rfl, h1, h2, h3⟩ := lst_at S ro e1
        obtain ⟨y, rfl, r1⟩ := dens1 rs
        have n := Nx.write (H := H) (o := .lst (vs ++ [y])) h1 (fun φ q => by rw [h2] at q; cases q)
        exact ⟨a, vs, y, rfl, rfl, h2, by rw [← h3.length]; exact hl, q _ _ n (S.write h1 (fun φ q => by rw [h2] at q; cases q) ⟨_, upd_same, (h3.mono n.ext).append (.cons (r1.mono n.ext) .nil)⟩) .non⟩
      · cases e
    · cases e
  · cases e
def gInsert : MF := fun o ds M => match o, ds with
  | .ref i, [.int k, d] => (match M[i]? with
    | some (.lst xs) => if xs.length < sizeLine ∧ 0 ≤ k ∧ k < 2 ^ 63 then some (.non, M.set i (.lst (xs.take k.toNat ++ [d] ++ xs.drop k.toNat))) else none
    | _ => none)
  | _, _ => none
theorem mr_insert : MtR X "list.insert" (rM X.K gInsert) := MtR.imp' mt_insert fun x xs H Q ⟨ρ, M, o, ds, d, M', S, ro, rs, e, q⟩ => by
  unfold gInsert at e
  split at e
  · rename_i i k d0
    split at e
    · rename_i ys e1
      split at e
      · rename_i hl
        cases e
        obtain ⟨a, vs, rfl, h1, h2, h3⟩ := lst_at S ro e1
        obtain ⟨y, z, rfl, r0, r1⟩ := dens2 rs
        cases r0
        have n := Nx.write (H := H) (o := .lst (vs.take k.toNat ++ [z] ++ vs.drop k.toNat)) h1 (fun φ q => by rw [h2] at q; cases q)
        have h4 := h3.mono n.ext
        exact ⟨a, vs, k, z, rfl, rfl, h2, by rw [← h3.length]; exact hl.1, hl.2.1, hl.2.2, q _ _ n (S.write h1 (fun φ q => by rw [h2] at q; cases q) ⟨_, upd_same, ((h4.take _).append (.cons (r1.mono n.ext) .nil)).append (h4.drop _)⟩) .non⟩
      · cases e
    · cases e
  · cases e
/-- texts -/
def strsD : List D → Option (List Str)
  | [] => some []
  | .str x :: r => (strsD r).map (x :: ·)
  | _ => none
theorem strsD_of {K : PySem.W.Frag} {ρ : List (Option Addr)} {Φ : Hp} : ∀ {ds : List D} {vs : List V} {xs : List Str}, Dens K ρ Φ ds vs → strsD ds = some xs → vs = xs.map V.str
  | _, _, _, .nil, e => by cases e; rfl
  | d :: ds, _, xs, .cons r1 r2, e => by
    cases r1 <;> simp only [strsD, reduceCtorEq] at e
    cases q : strsD ds with
    | none => rw [q] at e; cases e
    | some ys => rw [q] at e; cases e; rw [strsD_of r2 q]; rfl
def gJoin : MF := fun o ds M => match o, ds with
  | .str a, [d] => (match (sqD M d).bind strsD with
    | some ys => if (ys.map (·.length)).sum + ys.length * a.length ≤ 16777216 then some (.str (Txt.join a ys), M) else none
    | none => none)
  | _, _ => none
theorem mr_join : MtR X "str.join" (rM X.K gJoin) := MtR.imp' mt_join fun x xs H Q ⟨ρ, M, o, ds, d, M', S, ro, rs, e, q⟩ => by
  unfold gJoin at e
  split at e
  · rename_i a d0
    cases e1 : sqD M d0 with
    | none => rw [e1] at e; cases e
    | some zs =>
      rw [e1] at e
      cases e2 : strsD zs with
      | none => simp [e2] at e
      | some ys =>
        have e : (if (ys.map (·.length)).sum + ys.length * a.length ≤ 16777216 then some (D.str (Txt.join a ys), M) else none) = some (d, M') := by simpa [e2] using e
        split at e
        · rename_i hz
          cases e
          cases ro
          obtain ⟨y, rfl, r1⟩ := dens1 rs
          obtain ⟨p, vs, rfl, hs, hv⟩ := sqD_of S r1 e1
          rw [strsD_of hv e2] at hs
          exact ⟨a, p, ys, rfl, rfl, hs, hz, q _ _ Nx.refl S (.str _)⟩
        · cases e
  · cases e
end
end L2.MK

end

section
set_option Elab.async false
set_option linter.all false
set_option maxRecDepth 100000
set_option maxHeartbeats 1000000
set_option autoImplicit false
/-! Loops. -/
namespace L2.MK
open PySem PySem.Spec PyProof.Rows PySem.W

/-- at turn i: none: not told; some none: the end; some (some d): d -/
abbrev ID := Sto → Nat → Option (Option D)
def ItOk (K : PySem.W.Frag) (ρ0 : List (Option Addr)) (H0 : Hp) (it : ID) (J : It) : Prop := ∀ (i : Nat) (ρ : List (Option Addr)) (H : Hp) (M : Sto), Ext ρ0 ρ (frz ρ0 H0) (frz ρ H) → StOk K ρ M H →
  (it M i = some none → J.stop i H) ∧ ∀ d, it M i = some (some d) → J.go i H ∧ ∀ x H', J.yld i H x H' → Nx ρ H ρ H' ∧ StOk K ρ M H' ∧ Den K ρ (frz ρ H') d x
abbrev IF := Env → Ev (Nat × ID)
def ResI (K : PySem.W.Frag) (W' : Value → Option Addr → Hp → Prop) (ρ : List (Option Addr)) (H : Hp) (R : It → Hp → Prop) : Out (Nat × ID) → Prop
  | .ok p M' => ∀ ρ' J H', Nx ρ H ρ' H' → StOk K ρ' M' H' → ItOk K ρ' H' p.2 J → R J H'
  | .exc C fs M' => ∀ ρ' d H', Nx ρ H ρ' H' → StOk K ρ' M' H' → ExD K ρ' (frz ρ' H') fs d → W' (.ref (He.ga K C)) d H'
  | .stuck => False
def rdI (K : PySem.W.Frag) (W : WX) (f : IF) : TI := fun σ H R => ∃ ρ δ M, DenE K ρ (frz ρ H) δ σ ∧ StOk K ρ M H ∧ ResI K (fun c d H' => W c d σ H') ρ H R (f δ M)
def PDI (X : Cx) (W : WX) (tg iter : Expr) (f : IF) : Prop := PI X tg iter (rdI X.K W f)
theorem pi_mono {X : Cx} {tg e : Expr} {t t' : TI} (h : PI X tg e t) (m : ∀ σ H R, t' σ H R → t σ H R) : PI X tg e t' := ⟨fun pins s σ H R I q => h.run pins s σ H R I (m σ H R q)⟩
theorem pi_or {X : Cx} {tg e : Expr} {t t' : TI} (h : PI X tg e t) (h' : PI X tg e t') : PI X tg e (fun σ H R => t σ H R ∨ t' σ H R) := ⟨fun pins s σ H R I q => q.elim (fun z => h.run pins s σ H R I z) fun z => h'.run pins s σ H R I z⟩
/-- the turns -/
def forD (it : ID) (g : D → SF) (b : SF) : Nat → Nat → SF
  | 0, i => fun δ M => match it M i with
    | some none => .nx δ M
    | _ => .stuck
  | r + 1, i => fun δ M => match it M i with
    | some (some d) => (match noRet (g d δ M) with
      | .nx δ1 M1 => (match b δ1 M1 with
        | .nx δ2 M2 => forD it g b r (i + 1) δ2 M2
        | o => o)
      | o => o)
    | some none => .nx δ M
    | none => .stuck
def sFor (f : IF) (g : D → SF) (b : SF) : SF := fun δ M => match f δ M with
  | .ok p M' => forD p.2 g b p.1 0 δ M'
  | .exc C fs M' => .exc C fs δ M'
  | .stuck => .stuck
theorem for_of {K : PySem.W.Frag} {W : WX} {f : IF} {g : D → SF} {b : SF} {σ : St} {H : Hp} {E : Ends} (h : rdS K W (sFor f g b) E σ H) : tFor (rdI K W f) (rdG K W g) (rdS K W b) E σ H := by
  obtain ⟨ρ, δ, M, hE, hS, h⟩ := h
  refine ⟨ρ, δ, M, hE, hS, ?_⟩
  unfold sFor at h
  cases e : f δ M with
  | stuck => rw [e] at h; exact h
  | exc C fs M' => rw [e] at h; exact fun ρ' d H' n s r => h ρ' d σ H' n s (hE.mono n.ext) r
  | ok p M' =>
    rw [e] at h
    intro ρ1 J H1 n1 s1 ok
    have h : ResS K W ρ1 H1 E (forD p.2 g b p.1 0 δ M') := ResS.nx n1 h
    refine ⟨fun i m σ H => ∃ r ρ δ M, m = r ∧ Nx ρ1 H1 ρ H ∧ DenE K ρ (frz ρ H) δ σ ∧ StOk K ρ M H ∧ ResS K W ρ H E (forD p.2 g b r i δ M), ⟨p.1, p.1, ρ1, δ, M', rfl, Nx.refl, hE.mono n1.ext, s1, h⟩, ?_⟩
    rintro i m σ2 H2 ⟨r, ρ2, δ2, M2, rfl, n2, e2, s2, h2⟩
    obtain ⟨o1, o2⟩ := ok i ρ2 H2 M2 n2.ext s2
    cases q : p.2 M2 i with
    | none =>
      cases m <;> (unfold forD at h2; rw [q] at h2; exact h2.elim)
    | some z =>
      cases z with
      | none =>
        refine .inl ⟨o1 q, ?_⟩
        cases m <;> (unfold forD at h2; rw [q] at h2; exact h2 ρ2 σ2 H2 Nx.refl s2 e2)
      | some d =>
        cases m with
        | zero => unfold forD at h2; rw [q] at h2; exact h2.elim
        | succ m =>
          unfold forD at h2
          rw [q] at h2
          obtain ⟨go, yl⟩ := o2 d q
          refine .inr ⟨go, fun σ' H' => ∃ ρ δ M, Nx ρ1 H1 ρ H' ∧ DenE K ρ (frz ρ H') δ σ' ∧ StOk K ρ M H' ∧ ResS K W ρ H' E (forD p.2 g b m (i + 1) δ M), fun σ' H' ⟨ρ, δ, M, a1, a2, a3, a4⟩ => ⟨m, Nat.lt_succ_self _, m, ρ, δ, M, rfl, a1, a2, a3, a4⟩, fun x H' y => ?_⟩
          obtain ⟨n3, s3, r3⟩ := yl x H' y
          have e3 := e2.mono n3.ext
          have h3 : ResS K W ρ2 H' E (match noRet (g d δ2 M2) with
            | .nx δ1 M1 => (match b δ1 M1 with
              | .nx δ2 M2 => forD p.2 g b m (i + 1) δ2 M2
              | o => o)
            | o => o) := ResS.nx n3 h2
          refine ⟨ρ2, δ2, M2, d, e3, s3, r3, ?_⟩
          cases e4 : g d δ2 M2 with
          | stuck => rw [e4] at h3; exact h3
          | ret d' M' => rw [e4] at h3; exact h3.elim
          | exc C fs δ' M' => rw [e4] at h3; exact h3
          | nx δ' M' =>
            rw [e4] at h3
            intro ρ5 σ5 H5 n5 s5 e5
            refine ⟨ρ5, δ', M', e5, s5, ?_⟩
            have h5 : ResS K W ρ5 H5 E (match b δ' M' with
              | .nx δ2 M2 => forD p.2 g b m (i + 1) δ2 M2
              | o => o) := ResS.nx n5 h3
            cases e6 : b δ' M' with
            | stuck => rw [e6] at h5; exact h5
            | ret d' M' => rw [e6] at h5; exact h5
            | exc C fs δ' M' => rw [e6] at h5; exact h5
            | nx δ6 M6 =>
              rw [e6] at h5
              exact fun ρ7 σ7 H7 n7 s7 e7 => ⟨ρ7, δ6, M6, ((n2.trans n3).trans n5).trans n7, e7, s7, ResS.nx n7 h5⟩
section
variable {X : Cx} {W : WX}
theorem pds_for {tg iter : Expr} {body : List Stmt} {f : IF} {g : D → SF} {b : SF} {pos : Pos} (hp : PassesOwn (model X.prog X.w) X.A X.env X.xe) (hc : X.calm = true) (hi : PDI X W tg iter f) (hg : PDG X W tg g) (hb : PDSs X W body b)
    (hs : ∀ x, foldedSetIterable iter X.env x = pure x := by intro _; rfl) : PDS X W (.For tg iter body [] pos) (sFor f g b) := ps_mono (ps_for hp hc hi hg hb hs) fun σ H Q h => for_of h

/-! ### what is walked -/
def evI (o : Sto → Option (Nat × ID)) : Ev (Nat × ID) := fun M => match o M with
  | some p => .ok p M
  | none => .stuck
/-- a text's signs -/
def chD (z : Str) (i : Nat) : Option D := z.cps[i]?.map fun c => .str ⟨#[c]⟩
def wSeq (d : D) : Sto → Option (Nat × ID) := fun M => match d with
  | .str z => some (z.cps.size, fun _ i => some (chD z i))
  | d => (sqD M d).map fun ys => (ys.length, fun M i => (sqD M d).map fun zs => zs[i]?)
def iSeq (f : EF) : IF := fun δ => f δ >>= fun d => evI (wSeq d)
theorem itSeq_ok {K : PySem.W.Frag} {ρ0 : List (Option Addr)} {H0 : Hp} {d : D} {a : Addr} (r0 : Den K ρ0 (frz ρ0 H0) d (.ref a)) {J : It} (hJ : (J = Itl K a ∧ ∀ M ys ρ H, Ext ρ0 ρ (frz ρ0 H0) (frz ρ H) → StOk K ρ M H → sqD M d = some ys → ∃ vs, SqL K H a vs ∧ Dens K ρ (frz ρ H) ys vs) ∨ (J = Itt K a ∧ ∀ M ys ρ H, Ext ρ0 ρ (frz ρ0 H0) (frz ρ H) → StOk K ρ M H → sqD M d = some ys → ∃ vs, SqT K H a vs ∧ Dens K ρ (frz ρ H) ys vs)) :
    ItOk K ρ0 H0 (fun M i => (sqD M d).map fun zs => zs[i]?) J := by
  intro i ρ H M n S
  cases e : sqD M d with
  | none => exact ⟨fun z => (by simp [e] at z), fun d' z => (by simp [e] at z)⟩
  | some ys =>
    refine ⟨fun z => ?_, fun d' z => ?_⟩
    · have hl : ys[i]? = none := by simpa [e] using z
      have hl := List.getElem?_eq_none_iff.mp hl
      rcases hJ with ⟨rfl, h⟩ | ⟨rfl, h⟩
      · obtain ⟨vs, h1, h2⟩ := h M ys ρ H n S e
        exact ⟨vs, h1, by rw [← h2.length]; exact hl⟩
      · obtain ⟨vs, h1, h2⟩ := h M ys ρ H n S e
        exact ⟨vs, h1, by rw [← h2.length]; exact hl⟩
    · have hl : ys[i]? = some d' := by simpa [e] using z
      rcases hJ with ⟨rfl, h⟩ | ⟨rfl, h⟩
      · obtain ⟨vs, h1, h2⟩ := h M ys ρ H n S e
        obtain ⟨v, h3, h4⟩ := h2.get hl
        refine ⟨⟨vs, v, h1, h3⟩, fun x H' y => ?_⟩
        obtain ⟨rfl, y⟩ := y
        have e2 := y vs h1
        rw [h3] at e2
        cases e2
        exact ⟨Nx.refl, S, h4⟩
      · obtain ⟨vs, h1, h2⟩ := h M ys ρ H n S e
        obtain ⟨v, h3, h4⟩ := h2.get hl
        refine ⟨⟨vs, v, h1, h3⟩, fun x H' y => ?_⟩
        obtain ⟨rfl, y⟩ := y
        have e2 := y vs h1
        rw [h3] at e2
        cases e2
        exact ⟨Nx.refl, S, h4⟩
def isTup : D → Bool
  | .tup _ => true
  | _ => false
theorem sqD_L {K : PySem.W.Frag} {ρ : List (Option Addr)} {H : Hp} {M : Sto} {d : D} {v : V} {xs : List D} (S : StOk K ρ M H) (r : Den K ρ (frz ρ H) d v) (e : sqD M d = some xs) (t : isTup d = false) : ∃ a vs, v = .ref a ∧ SqL K H a vs ∧ Dens K ρ (frz ρ H) xs vs := by
  cases r with
  | tup h z2 => cases t
  | lst h z2 => cases e; exact ⟨_, _, rfl, .of (frz_of h).2, z2⟩
  | rol h z2 => cases e; exact ⟨_, _, rfl, (frz_same ρ H).seq h, z2⟩
  | @ref i a h =>
    obtain ⟨m, h1, h2⟩ := S.at_ i a h
    unfold sqD vw at e
    simp only [h1] at e
    cases m with
    | lst ds => cases e; obtain ⟨vs, h3, h4⟩ := h2; exact ⟨a, vs, rfl, .of h3, h4⟩
    | dK kvs => cases e
    | ins C fs => cases e
    | opq => cases e
    | dead => cases e
  | _ => cases e
theorem sqD_T {K : PySem.W.Frag} {ρ : List (Option Addr)} {H : Hp} {M : Sto} {d : D} {v : V} {xs : List D} (r : Den K ρ (frz ρ H) d v) (e : sqD M d = some xs) (t : isTup d = true) : ∃ a vs, v = .ref a ∧ SqT K H a vs ∧ Dens K ρ (frz ρ H) xs vs := by
  cases r with
  | tup h z2 => cases e; exact ⟨_, _, rfl, same_sqT (frz_same ρ H) h, z2⟩
  | _ => cases t
theorem it_list {K : PySem.W.Frag} {ρ : List (Option Addr)} {H : Hp} {d : D} {a : Addr} (r : Den K ρ (frz ρ H) d (.ref a)) (t : isTup d = false) : ItOk K ρ H (fun M i => (sqD M d).map fun zs => zs[i]?) (Itl K a) :=
  itSeq_ok r (.inl ⟨rfl, fun M ys ρ' H' n S e => by
    obtain ⟨a', vs, e1, h1, h2⟩ := sqD_L S (r.mono n) e t
    cases e1
    exact ⟨vs, h1, h2⟩⟩)
theorem it_tup {K : PySem.W.Frag} {ρ : List (Option Addr)} {H : Hp} {d : D} {a : Addr} (r : Den K ρ (frz ρ H) d (.ref a)) (t : isTup d = true) : ItOk K ρ H (fun M i => (sqD M d).map fun zs => zs[i]?) (Itt K a) :=
  itSeq_ok r (.inr ⟨rfl, fun M ys ρ' H' n S e => by
    obtain ⟨a', vs, e1, h1, h2⟩ := sqD_T (r.mono n) e t
    cases e1
    exact ⟨vs, h1, h2⟩⟩)
theorem it_str {K : PySem.W.Frag} {ρ : List (Option Addr)} {H : Hp} {z : Str} : ItOk K ρ H (fun _ i => some (chD z i)) (Its z) := by
  intro i ρ' H' M n S
  show (some (chD z i) = some none → z.cps.size ≤ i) ∧ ∀ d, some (chD z i) = some (some d) → i < z.cps.size ∧ ∀ x H2, (H2 = H' ∧ ∃ c, z.cps[i]? = some c ∧ x = V.str ⟨#[c]⟩) → Nx ρ' H' ρ' H2 ∧ StOk K ρ' M H2 ∧ Den K ρ' (frz ρ' H2) d x
  unfold chD
  cases e : z.cps[i]? with
  | none => exact ⟨fun _ => Array.getElem?_eq_none_iff.mp e, fun d q => nomatch q⟩
  | some c =>
    refine ⟨fun q => (nomatch q), fun d q => ⟨(Array.getElem?_eq_some_iff.mp e).1, fun x H2 y => ?_⟩⟩
    obtain ⟨rfl, c', e1, rfl⟩ := y
    cases e1
    cases q
    exact ⟨Nx.refl, S, .str _⟩
theorem seq_of {K : PySem.W.Frag} {f : EF} {σ : St} {H : Hp} {R : It → Hp → Prop} (h : rdI K W (iSeq f) σ H R) : iStr (rd K W f) σ H R ∨ iList K (rd K W f) σ H R ∨ iTup K (rd K W f) σ H R := by
  obtain ⟨ρ, δ, M, hE, hS, h⟩ := h
  have h : ResI K (fun c d H' => W c d σ H') ρ H R ((f δ >>= fun d => evI (wSeq d)) M) := h
  rw [Ev.bind_run] at h
  cases e : f δ M with
  | stuck => rw [e] at h; exact h.elim
  | exc C fs M' => rw [e] at h; exact .inl ⟨ρ, δ, M, hE, hS, by rw [e]; exact h⟩
  | ok d M' =>
    rw [e] at h
    have h : ResI K (fun c d H' => W c d σ H') ρ H R (evI (wSeq d) M') := h
    have main : (wSeq d M' = (sqD M' d).map fun ys => (ys.length, fun M i => (sqD M d).map fun zs => zs[i]?)) → iStr (rd K W f) σ H R ∨ iList K (rd K W f) σ H R ∨ iTup K (rd K W f) σ H R := by
      intro eq
      unfold evI at h
      rw [eq] at h
      cases e2 : sqD M' d with
      | none => rw [e2] at h; exact h.elim
      | some ys =>
        rw [e2] at h
        cases t : isTup d with
        | false =>
          refine .inr (.inl ⟨ρ, δ, M, hE, hS, ?_⟩)
          rw [e]
          intro ρ' v H' n s r
          obtain ⟨a, vs, rfl, h1, h2⟩ := sqD_L s r e2 t
          exact ⟨a, rfl, ⟨vs, h1⟩, h ρ' _ H' n s (it_list r t)⟩
        | true =>
          refine .inr (.inr ⟨ρ, δ, M, hE, hS, ?_⟩)
          rw [e]
          intro ρ' v H' n s r
          obtain ⟨a, vs, rfl, h1, h2⟩ := sqD_T r e2 t
          exact ⟨a, rfl, ⟨vs, h1⟩, h ρ' _ H' n s (it_tup r t)⟩
    cases d with
    | str z =>
      refine .inl ⟨ρ, δ, M, hE, hS, ?_⟩
      rw [e]
      intro ρ' v H' n s r
      cases r
      exact ⟨z, rfl, h ρ' _ H' n s it_str⟩
    | _ => exact main rfl
theorem pdi_seq {tg e : Expr} {f : EF} (he : PD X W e f) : PDI X W tg e (iSeq f) := pi_mono (pi_or (pi_str he) (pi_or (pi_list he) (pi_tup he))) fun σ H R h => seq_of h
/-- range(n), range(a, b) -/
def wRng1 : List D → Sto → Option (Nat × ID) := fun ds _ => match ds with
  | [.int j] => if -(2 ^ 62) ≤ j ∧ j < 2 ^ 62 then some (j.toNat, fun _ i => some (if i < j.toNat then some (.int (0 + (i : Nat))) else none)) else none
  | _ => none
def wRng2 : List D → Sto → Option (Nat × ID) := fun ds _ => match ds with
  | [.int a, .int b] => if -(2 ^ 62) ≤ a ∧ a < 2 ^ 62 ∧ -(2 ^ 62) ≤ b ∧ b < 2 ^ 62 then some ((b - a).toNat, fun _ i => some (if i < (b - a).toNat then some (.int (a + (i : Nat))) else none)) else none
  | _ => none
def iArgs (w : List D → Sto → Option (Nat × ID)) (f : AF) : IF := fun δ => f δ >>= fun ds => evI (w ds)
theorem it_rng {K : PySem.W.Frag} {ρ : List (Option Addr)} {H : Hp} {lo : Int} {n : Nat} : ItOk K ρ H (fun _ i => some (if i < n then some (.int (lo + (i : Nat))) else none)) (Itr lo n) := by
  intro i ρ' H' M _ S
  by_cases h : i < n
  · refine ⟨fun q => by simp [h] at q, fun d q => ⟨h, fun x H2 y => ?_⟩⟩
    obtain ⟨rfl, rfl⟩ := y
    have q : D.int (lo + (i : Nat)) = d := by simpa [h] using q
    subst q
    exact ⟨Nx.refl, S, .int _⟩
  · exact ⟨fun _ => Nat.le_of_not_lt h, fun d q => by simp [h] at q⟩
theorem rngA {K : PySem.W.Frag} {w : List D → Sto → Option (Nat × ID)} {f : AF} {σ : St} {H : Hp} {R : It → Hp → Prop} (h : rdI K W (iArgs w f) σ H R) : rdA K W f σ H fun vs H1 => ∃ ρ1 ds M1, StOk K ρ1 M1 H1 ∧ Dens K ρ1 (frz ρ1 H1) ds vs ∧ ∃ p, w ds M1 = some p ∧ ∀ J, ItOk K ρ1 H1 p.2 J → R J H1 := by
  obtain ⟨ρ, δ, M, hE, hS, h⟩ := h
  refine ⟨ρ, δ, M, hE, hS, ?_⟩
  have h : ResI K (fun c d H' => W c d σ H') ρ H R ((f δ >>= fun ds => evI (w ds)) M) := h
  rw [Ev.bind_run] at h
  cases e : f δ M with
  | stuck => rw [e] at h; exact h.elim
  | exc C fs M' => rw [e] at h; exact h
  | ok ds M' =>
    rw [e] at h
    intro ρ' vs H' n s r
    have h : ResI K (fun c d H' => W c d σ H') ρ H R (evI (w ds) M') := h
    unfold evI at h
    cases q : w ds M' with
    | none => rw [q] at h; exact h.elim
    | some p => rw [q] at h; exact ⟨ρ', ds, M', s, r, p, q, fun J ok => h ρ' J H' n s ok⟩
theorem pdi_rng1 {tg a : Expr} {f : AF} {p pos : Pos} (hg : Gl X "range") (hm : X.mg "range" = none) (ha : PDA X W [a] f) (hs : starEach [a] X.env = [(false, eval a X.env)] := by rfl) : PDI X W tg (.Call (.Name "range" p) [a] [] pos) (iArgs wRng1 f) := pi_mono (pi_range1 hg hm ha hs) fun σ H R h => by
  refine rdA_mono (rngA h) fun vs H1 ⟨ρ1, ds, M1, s, r, p, e, q⟩ => ?_
  unfold wRng1 at e
  split at e
  · split at e
    · rename_i j hj
      cases e
      obtain ⟨x, rfl, r1⟩ := dens1 r
      cases r1
      exact ⟨j, rfl, hj.1, hj.2, q _ it_rng⟩
    · cases e
  · cases e
theorem pdi_rng2 {tg a b : Expr} {f : AF} {p pos : Pos} (hg : Gl X "range") (hm : X.mg "range" = none) (ha : PDA X W [a, b] f) (hs : starEach [a, b] X.env = [(false, eval a X.env), (false, eval b X.env)] := by rfl) (hs2 : starEach [b] X.env = [(false, eval b X.env)] := by rfl) : PDI X W tg (.Call (.Name "range" p) [a, b] [] pos) (iArgs wRng2 f) := pi_mono (pi_range2 hg hm ha hs hs2) fun σ H R h => by
  refine rdA_mono (rngA h) fun vs H1 ⟨ρ1, ds, M1, s, r, p, e, q⟩ => ?_
  unfold wRng2 at e
  split at e
  · split at e
    · rename_i j k hj
      cases e
      obtain ⟨x, y, rfl, r1, r2⟩ := dens2 r
      cases r1
      cases r2
      exact ⟨j, k, rfl, hj, q _ it_rng⟩
    · cases e
  · cases e
end
end L2.MK

end

section
set_option Elab.async false
set_option linter.all false
set_option maxRecDepth 100000
set_option maxHeartbeats 1000000
set_option autoImplicit false
/-! enumerate, zip; more built-ins. -/
namespace L2.MK
open PySem PySem.Spec PyProof.Rows PySem.W

section
variable {X : Cx} {W : WX}
/-- enumerate(xs) -/
def wEnum : List D → Sto → Option (Nat × ID) := fun ds M => match ds with
  | [d] => (sqD M d).map fun ys => (ys.length, fun M i => (sqD M d).map fun zs => zs[i]?.map fun x => .tup [.int (i : Nat), x])
  | _ => none
theorem it_enum {K : PySem.W.Frag} {ρ : List (Option Addr)} {H : Hp} {d : D} {a : Addr} (r : Den K ρ (frz ρ H) d (.ref a)) (t : isTup d = false) : ItOk K ρ H (fun M i => (sqD M d).map fun zs => zs[i]?.map fun x => .tup [.int (i : Nat), x]) (Ite K a) := by
  intro i ρ' H' M n S
  cases e : sqD M d with
  | none =>
    have key : ((sqD M d).map fun zs => zs[i]?.map fun x => D.tup [.int (i : Nat), x]) = none := by rw [e]; rfl
    show (((sqD M d).map fun zs => zs[i]?.map fun x => D.tup [.int (i : Nat), x]) = some none → _) ∧ ∀ d', ((sqD M d).map fun zs => zs[i]?.map fun x => D.tup [.int (i : Nat), x]) = some (some d') → _
    rw [key]
    exact ⟨fun z => (nomatch z), fun d' z => (nomatch z)⟩
  | some ys =>
    have key : ((sqD M d).map fun zs => zs[i]?.map fun x => D.tup [.int (i : Nat), x]) = some (ys[i]?.map fun x => D.tup [.int (i : Nat), x]) := by rw [e]; rfl
    show (((sqD M d).map fun zs => zs[i]?.map fun x => D.tup [.int (i : Nat), x]) = some none → _) ∧ ∀ d', ((sqD M d).map fun zs => zs[i]?.map fun x => D.tup [.int (i : Nat), x]) = some (some d') → _
    rw [key]
    obtain ⟨a', vs, e1, h1, h2⟩ := sqD_L S (r.mono n) e t
    cases e1
    cases e2 : ys[i]? with
    | none =>
      exact ⟨fun _ => ⟨vs, h1, by rw [← h2.length]; exact List.getElem?_eq_none_iff.mp e2⟩, fun d' z => (nomatch z)⟩
    | some x =>
      refine ⟨fun z => (nomatch z), fun d' z => ?_⟩
      obtain ⟨v, h3, h4⟩ := h2.get e2
      refine ⟨⟨vs, v, h1, h3⟩, fun w H2 y => ?_⟩
      obtain ⟨T, v', rfl, hT, rfl, y⟩ := y
      have e3 := y vs h1
      rw [h3] at e3
      cases e3
      cases z
      have n2 := Nx.new (ρ := ρ') (o := .tup [.int (i : Nat), v]) hT
      exact ⟨n2, S.new hT, .tup (.of (frz_at (S.notin hT) upd_same)) (.cons (.int _) (.cons (h4.mono n2.ext) .nil))⟩
theorem it_enumT {K : PySem.W.Frag} {ρ : List (Option Addr)} {H : Hp} {d : D} {a : Addr} (r : Den K ρ (frz ρ H) d (.ref a)) (t : isTup d = true) : ItOk K ρ H (fun M i => (sqD M d).map fun zs => zs[i]?.map fun x => .tup [.int (i : Nat), x]) (IteT K a) := by
  intro i ρ' H' M n S
  cases e : sqD M d with
  | none =>
    have key : ((sqD M d).map fun zs => zs[i]?.map fun x => D.tup [.int (i : Nat), x]) = none := by rw [e]; rfl
    show (((sqD M d).map fun zs => zs[i]?.map fun x => D.tup [.int (i : Nat), x]) = some none → _) ∧ ∀ d', ((sqD M d).map fun zs => zs[i]?.map fun x => D.tup [.int (i : Nat), x]) = some (some d') → _
    rw [key]
    exact ⟨fun z => (nomatch z), fun d' z => (nomatch z)⟩
  | some ys =>
    have key : ((sqD M d).map fun zs => zs[i]?.map fun x => D.tup [.int (i : Nat), x]) = some (ys[i]?.map fun x => D.tup [.int (i : Nat), x]) := by rw [e]; rfl
    show (((sqD M d).map fun zs => zs[i]?.map fun x => D.tup [.int (i : Nat), x]) = some none → _) ∧ ∀ d', ((sqD M d).map fun zs => zs[i]?.map fun x => D.tup [.int (i : Nat), x]) = some (some d') → _
    rw [key]
    obtain ⟨a', vs, e1, h1, h2⟩ := sqD_T (r.mono n) e t
    cases e1
    cases e2 : ys[i]? with
    | none =>
      exact ⟨fun _ => ⟨vs, h1, by rw [← h2.length]; exact List.getElem?_eq_none_iff.mp e2⟩, fun d' z => (nomatch z)⟩
    | some x =>
      refine ⟨fun z => (nomatch z), fun d' z => ?_⟩
      obtain ⟨v, h3, h4⟩ := h2.get e2
      refine ⟨⟨vs, v, h1, h3⟩, fun w H2 y => ?_⟩
      obtain ⟨T, v', rfl, hT, rfl, y⟩ := y
      have e3 := y vs h1
      rw [h3] at e3
      cases e3
      cases z
      have n2 := Nx.new (ρ := ρ') (o := .tup [.int (i : Nat), v]) hT
      exact ⟨n2, S.new hT, .tup (.of (frz_at (S.notin hT) upd_same)) (.cons (.int _) (.cons (h4.mono n2.ext) .nil))⟩
/-- one argument, known ahead: a list or a tuple -/
theorem args1 {K : PySem.W.Frag} {w : List D → Sto → Option (Nat × ID)} {f : AF} {σ : St} {H : Hp} {R : It → Hp → Prop} (P : D → Prop) (h : rdI K W (iArgs w f) σ H R) (hw : ∀ ds M p, w ds M = some p → ∃ d, ds = [d]) :
    (rdA K W f σ H fun vs H1 => ∃ ρ1 d M1, StOk K ρ1 M1 H1 ∧ isTup d = false ∧ Dens K ρ1 (frz ρ1 H1) [d] vs ∧ ∃ p, w [d] M1 = some p ∧ ∀ J, ItOk K ρ1 H1 p.2 J → R J H1) ∨
    (rdA K W f σ H fun vs H1 => ∃ ρ1 d M1, StOk K ρ1 M1 H1 ∧ isTup d = true ∧ Dens K ρ1 (frz ρ1 H1) [d] vs ∧ ∃ p, w [d] M1 = some p ∧ ∀ J, ItOk K ρ1 H1 p.2 J → R J H1) := by
  obtain ⟨ρ, δ, M, hE, hS, h⟩ := h
  replace h : ResI K (fun c d H' => W c d σ H') ρ H R ((f δ >>= fun ds => evI (w ds)) M) := h
  rw [Ev.bind_run] at h
  cases e : f δ M with
  | stuck => rw [e] at h; exact h.elim
  | exc C fs M' => rw [e] at h; exact .inl ⟨ρ, δ, M, hE, hS, by rw [e]; exact h⟩
  | ok ds M' =>
    rw [e] at h
    replace h : ResI K (fun c d H' => W c d σ H') ρ H R (evI (w ds) M') := h
    unfold evI at h
    cases q : w ds M' with
    | none => rw [q] at h; exact h.elim
    | some p =>
      rw [q] at h
      obtain ⟨d, rfl⟩ := hw _ _ _ q
      cases t : isTup d with
      | false =>
        refine .inl ⟨ρ, δ, M, hE, hS, ?_⟩
        rw [e]
        exact fun ρ' vs H' n s r => ⟨ρ', d, M', s, t, r, p, q, fun J ok => h ρ' J H' n s ok⟩
      | true =>
        refine .inr ⟨ρ, δ, M, hE, hS, ?_⟩
        rw [e]
        exact fun ρ' vs H' n s r => ⟨ρ', d, M', s, t, r, p, q, fun J ok => h ρ' J H' n s ok⟩
theorem pdi_enum {e : Expr} {f : AF} {p pos tpos : Pos} {elts : List Expr} {kk : Nat} (hg : Gl X "enumerate") (hm : X.mg "enumerate" = none) (ha : PDA X W [e] f) (hs : starEach [e] X.env = [(false, eval e X.env)] := by rfl) :
    PDI X W (.Tuple elts kk tpos) (.Call (.Name "enumerate" p) [e] [] pos) (iArgs wEnum f) := pi_mono (pi_or (pi_enum hg hm ha hs) (pi_enumT hg hm ha hs)) fun σ H R h => by
  rcases args1 (fun _ => True) h (fun ds M p e => by unfold wEnum at e; split at e; exact ⟨_, rfl⟩; cases e) with h | h
  · refine .inl (rdA_mono h fun vs H1 ⟨ρ1, d, M1, s, t, r, p, e, q⟩ => ?_)
    obtain ⟨x, rfl, r1⟩ := dens1 r
    have e : (sqD M1 d).map (fun ys => ((ys.length, fun M i => (sqD M d).map fun zs => zs[i]?.map fun x => .tup [.int (i : Nat), x]) : Nat × ID)) = some p := e
    cases e2 : sqD M1 d with
    | none => rw [e2] at e; cases e
    | some ys =>
      rw [e2] at e
      cases e
      obtain ⟨a, ws, rfl, h1, h2⟩ := sqD_L s r1 e2 t
      exact ⟨a, ws, rfl, h1, q _ (it_enum r1 t)⟩
  · refine .inr (rdA_mono h fun vs H1 ⟨ρ1, d, M1, s, t, r, p, e, q⟩ => ?_)
    obtain ⟨x, rfl, r1⟩ := dens1 r
    have e : (sqD M1 d).map (fun ys => ((ys.length, fun M i => (sqD M d).map fun zs => zs[i]?.map fun x => .tup [.int (i : Nat), x]) : Nat × ID)) = some p := e
    cases e2 : sqD M1 d with
    | none => rw [e2] at e; cases e
    | some ys =>
      rw [e2] at e
      cases e
      obtain ⟨a, ws, rfl, h1, h2⟩ := sqD_T r1 e2 t
      exact ⟨a, ws, rfl, h1, q _ (it_enumT r1 t)⟩
end
end L2.MK

end

section
set_option Elab.async false
set_option linter.all false
set_option maxRecDepth 100000
set_option maxHeartbeats 1000000
set_option autoImplicit false
/-! isinstance, all, any, repr, sorted, sets. -/
namespace L2.MK
open PySem PySem.Spec PyProof.Rows PySem.W

/-! ### isinstance -/
def clD (K : Frag) : D → Option Value
  | .ty T => some (.type T)
  | .cls C => some (.ref (He.ga K C))
  | _ => none
def clsD (K : Frag) : List D → Option (List Value)
  | [] => some []
  | d :: r => match clD K d, clsD K r with
    | some v, some vs => some (v :: vs)
    | _, _ => none
/-- built-in types of data -/
def btD (M : Sto) : D → Option String
  | .non => some "NoneType"
  | .bl _ => some "bool"
  | .int _ => some "int"
  | .str _ => some "str"
  | .tup _ => some "tuple"
  | .lst _ => some "list"
  | .rol _ => some "list"
  | .dct _ _ => some "dict"
  | .ref i => (match M[i]? with
    | some (.lst _) => some "list"
    | some (.dK _) => some "dict"
    | _ => none)
  | _ => none
/-- what the head tells of a class of plain instances -/
structure InsC (K : Frag) (C : Addr) : Prop where
  cl : Cls K C
  ha : findIn K (.ref C) "__class__" = some (some (.builtin "object.__class__"))
  hn : specialIn K (.builtin "object.__class__") "__get__" = some (some (.builtin "getset_descriptor.__get__"))
  ht : takesIn K (.builtin "object.__class__") = some true
  hm : mroIn K C (.type "object") = some true
/-- isinstance's own part: Ci classes of instances, Ce of exceptions -/
def isiD (K : Frag) (Ci Ce : List Str) (M : Sto) (d : D) (ans : Value → Option Bool) : Option Bool := match btD M d with
  | some T => ans (.type T)
  | none => match d with
    | .ins C _ => if C ∈ Ci then ans (.ref (He.ga K C)) else none
    | _ => none
def gIsi (K : Frag) (Ci Ce : List Str) : GF := fun ds M => match ds with
  | [.exc C _, c] => if C ∈ Ce then (clD K c).bind fun u => (kitOne K (.ref (He.ga K C)) u).map .bl else none
  | [d, .tup cs] => (clsD K cs).bind fun us => (isiD K Ci Ce M d fun t => kitAny K t us).map .bl
  | [d, c] => (clD K c).bind fun u => (isiD K Ci Ce M d fun t => kitOne K t u).map .bl
  | _ => none
section
variable {K : Frag} {ρ : List (Option Addr)} {H : Hp} {M : Sto} {Φ : Hp}
theorem clD_of {d : D} {v : V} {u : Value} (r : Den K ρ Φ d v) (e : clD K d = some u) : ClsV v u := by
  cases r <;> simp only [clD, reduceCtorEq, Option.some.injEq] at e
  · subst e; exact .ty _
  · subst e; exact .own _
theorem clsD_of : ∀ {ds : List D} {vs : List V} {us : List Value}, Dens K ρ Φ ds vs → clsD K ds = some us → Paired ClsV vs us
  | _, _, _, .nil, e => by cases e; exact .nil
  | d :: ds, _, us, .cons r1 r2, e => by
    unfold clsD at e
    cases q : clD K d with
    | none => rw [q] at e; cases e
    | some u =>
      cases q2 : clsD K ds with
      | none => rw [q, q2] at e; cases e
      | some ws => rw [q, q2] at e; cases e; exact .cons (clD_of r1 q) (clsD_of r2 q2)
theorem tyx_sqT {a : Addr} {xs : List V} (h : SqT K H a xs) : TyX K H (.ref a) (.type "tuple") := by
  rcases h with (h | ⟨o, h⟩) | ⟨o, its, n, h1, h2, _⟩
  · exact .base (.tup h)
  · exact .fTuple h
  · exact .kTuple h1 h2
theorem tyx_sqL {a : Addr} {xs : List V} (h : SqL K H a xs) : TyX K H (.ref a) (.type "list") := by
  rcases h with (h | ⟨o, h⟩) | ⟨o, its, n, h1, h2, _⟩
  · exact .base (.lst h)
  · exact .base (.frz h)
  · exact .kList h1 h2
theorem btD_of {d : D} {v : V} {T : String} (S : StOk K ρ M H) (r : Den K ρ (frz ρ H) d v) (e : btD M d = some T) : TyX K H v (.type T) := by
  have key : ∀ i, d = .ref i → TyX K H v (.type T) := by
    rintro i rfl
    cases r with
    | @ref i a h =>
      obtain ⟨m, h1, h2⟩ := S.at_ i a h
      unfold btD at e
      simp only [h1] at e
      cases m with
      | lst ds => cases e; obtain ⟨vs, h3, _⟩ := h2; exact .base (.lst h3)
      | dK kvs => cases e; obtain ⟨vs, h3, _⟩ := h2; exact .base (.dK h3)
      | ins C fs => cases e
      | opq => cases e
      | dead => cases e
  cases r with
  | non => cases e; exact .base .non
  | bl b => cases e; exact .base (.bl b)
  | int i => cases e; exact .base (.int i)
  | str x => cases e; exact .base (.str x)
  | tup h z => cases e; exact tyx_sqT (same_sqT (frz_same ρ H) h)
  | lst h z => cases e; exact .base (.lst (frz_of h).2)
  | rol h z => cases e; exact tyx_sqL ((frz_same ρ H).seq h)
  | dct h h2 z => cases e; exact .base (.dK (frz_of h).2)
  | ref h => exact key _ rfl
  | _ => cases e
theorem isiD_of {Ci Ce : List Str} {d : D} {v : V} {ans : Value → Option Bool} {b : Bool} (hI : ∀ C ∈ Ci, InsC K (He.ga K C)) (S : StOk K ρ M H) (r : Den K ρ (frz ρ H) d v) (e : isiD K Ci Ce M d ans = some b) : ∃ t, TyX K H v t ∧ ans t = some b := by
  unfold isiD at e
  cases q : btD M d with
  | some T => rw [q] at e; exact ⟨_, btD_of S r q, e⟩
  | none =>
    rw [q] at e
    cases r with
    | @ins C fs a dx vfs h z =>
      simp only at e
      split at e
      · rename_i hc
        have c := hI C hc
        exact ⟨_, .base (.ins (frz_of h).2 c.cl c.ha c.hn c.ht c.hm), e⟩
      · cases e
    | _ => cases e
end
section
variable {X : Cx} {W : WX}
/-- isinstance(x, (c1, c2, ..)), any tuple -/
def rIsiS (K : Frag) : List V → Hp → VK → Prop := fun xs H Q => ∃ (x : V) (tp : Addr) (cs : List V) (t : Value) (us : List Value) (b : Bool), xs = [x, .ref tp] ∧ SqT K H tp cs ∧ Paired ClsV cs us ∧ TyX K H x t ∧ kitAny K t us = some b ∧ Q (.bl b) H
theorem call_isiS : CallR X (.builtin "isinstance") (rIsiS X.K) := by
  intro pins s σ H xs us Q I r h
  obtain ⟨x, tp, cs, t, ws, b, rfl, hT, k, ty, e, q⟩ := h
  obtain ⟨u1, u2, rfl, r1, r2⟩ := vals2 r
  cases (show u2 = Value.ref tp from r2)
  obtain ⟨P, Z, p, hx⟩ := kit_of I r1 ty
  obtain ⟨its, rv, ⟨o, h1, h2, n, h3⟩, _⟩ := I.tuple hT
  have e3 := ClsV.all k rv
  subst e3
  obtain ⟨oc, od, dt, sl⟩ := o
  simp only at h2 h3
  subst h2 h3
  exact PySem.W.kia_tup Z I.kIn p h1 e hx fun tk => ⟨.bl b, H, I.tok tk, rfl, q⟩
theorem map_bl {o : Option Bool} {d : D} (e : o.map D.bl = some d) : ∃ b, o = some b ∧ d = .bl b := by
  cases o with
  | none => cases e
  | some b => cases e; exact ⟨b, rfl, rfl⟩
theorem cr_isi {Ci Ce : List Str} (hI : ∀ C ∈ Ci, InsC X.K (He.ga X.K C)) (hE : ∀ C ∈ Ce, ExcC X.K (He.ga X.K C)) : CallR X (.builtin "isinstance") (rC X.K (gIsi X.K Ci Ce)) := by
  refine CallR.imp (CallR.or call_isX (CallR.or call_isi call_isiS)) fun xs H Q ⟨ρ, M, ds, d, S, r, e, q⟩ => ?_
  unfold gIsi at e
  split at e
  · rename_i C fs c
    split at e
    · rename_i hc
      cases e1 : clD X.K c with
      | none => rw [e1] at e; cases e
      | some u =>
        rw [e1] at e
        obtain ⟨b, e2, rfl⟩ := map_bl e
        obtain ⟨x, y, rfl, r1, r2⟩ := dens2 r
        cases r1 with
        | @exc _ _ a dd vfs h1 h2 h3 h4 => exact .inl ⟨a, _, dd, y, u, b, rfl, (frz_of h1).2, fun z hz => ⟨_, (frz_of (h2 z hz)).2⟩, hE C hc, clD_of r2 e1, e2, q _ H Nx.refl S (.bl _)⟩
    · cases e
  · rename_i d0 cs _
    cases e1 : clsD X.K cs with
    | none => rw [e1] at e; cases e
    | some us =>
      rw [e1] at e
      obtain ⟨b, e2, rfl⟩ := map_bl e
      obtain ⟨x, y, rfl, r1, r2⟩ := dens2 r
      obtain ⟨t, e3, e4⟩ := isiD_of hI S r1 e2
      cases r2 with
      | tup h z => exact .inr (.inr ⟨x, _, _, t, us, b, rfl, same_sqT (frz_same ρ H) h, clsD_of z e1, e3, e4, q _ H Nx.refl S (.bl _)⟩)
  · rename_i d0 c _ _
    cases e1 : clD X.K c with
    | none => rw [e1] at e; cases e
    | some u =>
      rw [e1] at e
      obtain ⟨b, e2, rfl⟩ := map_bl e
      obtain ⟨x, y, rfl, r1, r2⟩ := dens2 r
      obtain ⟨t, e3, e4⟩ := isiD_of hI S r1 e2
      exact .inr (.inl ⟨x, y, t, u, b, rfl, clD_of r2 e1, e3, e4, q _ H Nx.refl S (.bl _)⟩)
  · cases e

/-! ### all, any, repr -/
def lenOk : D → Bool
  | .str x => decide (x.length ≤ sizeLine)
  | _ => true
/-- the values, each read as data -/
def pysOf (M : Sto) (d : D) : Option (List PyData) := match vw M d with
  | .lst xs => D.pys xs
  | .rol xs => D.pys xs
  | _ => none
theorem pysOf_of {K : Frag} {ρ : List (Option Addr)} {H : Hp} {M : Sto} {d : D} {v : V} {ps : List PyData} (S : StOk K ρ M H) (r : Den K ρ (frz ρ H) d v) (e : pysOf M d = some ps) : Dp K H v (.list ps) := by
  have s := seen_of S r
  unfold pysOf at e
  generalize vw M d = d' at s e
  cases s with
  | den z =>
    cases z with
    | lst h w => exact dp_same (frz_same ρ H) (.lst (.of h) (dens_dp w e))
    | rol h w => exact dp_same (frz_same ρ H) (.lst h (dens_dp w e))
    | _ => cases e
  | lst h w => exact .lst (.of h) (dpAll_same (frz_same ρ H) (dens_dp w e))
/-- all are truth values -/
def blsP : List PyData → Option (List Bool)
  | [] => some []
  | .bool b :: r => (blsP r).map (b :: ·)
  | _ => none
theorem blsP_plain : ∀ {ps : List PyData} {bs : List Bool}, blsP ps = some bs → PyData.plainAll ps = true ∧ (∀ p ∈ ps, p.fits63) ∧ ps.all PyData.truthy = bs.all id ∧ ps.any PyData.truthy = bs.any id
  | [], bs, e => by cases e; exact ⟨rfl, fun p h => (nomatch h), rfl, rfl⟩
  | p :: ps, bs, e => by
    cases p <;> simp only [blsP, reduceCtorEq] at e
    rename_i b
    cases q : blsP ps with
    | none => rw [q] at e; cases e
    | some cs =>
      rw [q] at e
      cases e
      obtain ⟨h1, h2, h3, h4⟩ := blsP_plain q
      refine ⟨by simp [PyData.plainAll, PyData.plain, h1], fun p hp => ?_, by rw [List.all_cons, List.all_cons, h3]; rfl, by rw [List.any_cons, List.any_cons, h4]; rfl⟩
      rcases List.mem_cons.mp hp with rfl | hp
      · exact trivial
      · exact h2 p hp
def gAll : GF := fun ds M => match ds with
  | [d] => ((pysOf M d).bind blsP).map fun bs => .bl (bs.all id)
  | _ => none
def gAny : GF := fun ds M => match ds with
  | [d] => ((pysOf M d).bind blsP).map fun bs => .bl (bs.any id)
  | _ => none
theorem cr_all (hc : X.calm = true) : CallR X (.builtin "all") (rC X.K gAll) := by
  refine CallR.imp (call_allD hc) fun xs H Q ⟨ρ, M, ds, d, S, r, e, q⟩ => ?_
  unfold gAll at e
  split at e
  · rename_i d0
    obtain ⟨x, rfl, r1⟩ := dens1 r
    cases e1 : pysOf M d0 with
    | none => rw [e1] at e; cases e
    | some ps =>
      cases e2 : blsP ps with
      | none => simp [e1, e2] at e
      | some bs =>
        have e : D.bl (bs.all id) = d := by simpa [e1, e2] using e
        subst e
        obtain ⟨h1, h2, h3, h4⟩ := blsP_plain e2
        exact ⟨x, ps, rfl, pysOf_of S r1 e1, h1, h2, by rw [h3]; exact q _ H Nx.refl S (.bl _)⟩
  · cases e
theorem cr_any (hc : X.calm = true) : CallR X (.builtin "any") (rC X.K gAny) := by
  refine CallR.imp (call_anyD hc) fun xs H Q ⟨ρ, M, ds, d, S, r, e, q⟩ => ?_
  unfold gAny at e
  split at e
  · rename_i d0
    obtain ⟨x, rfl, r1⟩ := dens1 r
    cases e1 : pysOf M d0 with
    | none => rw [e1] at e; cases e
    | some ps =>
      cases e2 : blsP ps with
      | none => simp [e1, e2] at e
      | some bs =>
        have e : D.bl (bs.any id) = d := by simpa [e1, e2] using e
        subst e
        obtain ⟨h1, h2, h3, h4⟩ := blsP_plain e2
        exact ⟨x, ps, rfl, pysOf_of S r1 e1, h1, h2, by rw [h4]; exact q _ H Nx.refl S (.bl _)⟩
  · cases e
def gRepr : GF := fun ds M => match ds with
  | [d] => (match (vw M d).py with
    | some p => if p.showable = true ∧ p.hasDict = false ∧ p.depth ≤ 60 ∧ p.shown.length ≤ sizeLine then some (.str p.shown) else none
    | none => none)
  | _ => none
theorem cr_repr (hu : X.A.units + 64 < cLine) (hg : X.A.guards = some []) : CallR X (.builtin "repr") (rC X.K gRepr) := by
  refine CallR.imp (call_reprD hu hg) fun xs H Q ⟨ρ, M, ds, d, S, r, e, q⟩ => ?_
  unfold gRepr at e
  split at e
  · rename_i d0
    obtain ⟨x, rfl, r1⟩ := dens1 r
    split at e
    · rename_i p e1
      split at e
      · rename_i hp
        cases e
        exact ⟨x, p, rfl, (seen_of S r1).dp e1, hp.1, hp.2.1, hp.2.2.1, hp.2.2.2, q _ H Nx.refl S (.str _)⟩
      · cases e
    · cases e
  · cases e
end
end L2.MK

end

section
set_option Elab.async false
set_option linter.all false
set_option maxRecDepth 100000
set_option maxHeartbeats 1000000
set_option autoImplicit false
/-! sorted; sets of texts; setdefault; attributes. -/
namespace L2.MK
open PySem PySem.Spec PyProof.Rows PySem.W

def pyD (d : D) : PyData := (d.py).getD .none
def leD (a b : D) : Bool := dataLe false pyD a b
def tupP : PyData → Bool
  | .tuple (_ :: _) => true
  | _ => false
def othP : PyData → Bool
  | .none => false
  | .tuple _ => false
  | _ => true
def sortOk (ps : List PyData) : Bool := (ps.all fun a => ps.all fun b => alike a b) && ((ps.all tupP || ps.all othP) && ps.all fun p => decide (p.depth ≤ 60))
theorem sortOk_of {ps : List PyData} (h : sortOk ps = true) : AllAlike ps ∧ Sortable ps ∧ ∀ p ∈ ps, p.depth ≤ 60 := by
  unfold sortOk at h
  rw [Bool.and_eq_true, Bool.and_eq_true, Bool.or_eq_true] at h
  obtain ⟨h1, h2, h3⟩ := h
  refine ⟨fun a ha b hb => List.all_eq_true.mp (List.all_eq_true.mp h1 a ha) b hb, ?_, fun p hp => of_decide_eq_true (List.all_eq_true.mp h3 p hp)⟩
  rcases h2 with h2 | h2
  · refine .inl fun d hd => ?_
    have q := List.all_eq_true.mp h2 d hd
    unfold tupP at q
    split at q
    · exact ⟨_, _, rfl⟩
    · cases q
  · refine .inr fun d hd => ?_
    have q := List.all_eq_true.mp h2 d hd
    cases d <;> simp [othP] at q <;> simp
def gSort : GF := fun ds M => match ds with
  | [d] => (sqD M d).bind fun ys => (D.pys ys).bind fun ps => if sortOk ps = true then some (.lst (ys.mergeSort leD)) else none
  | _ => none
section
variable {K : Frag} {ρ : List (Option Addr)} {H : Hp} {M : Sto} {Φ : Hp}
theorem dens_zip : ∀ {ds : List D} {vs : List V}, Dens K ρ Φ ds vs → ∃ zs : List (D × V), zs.map (·.1) = ds ∧ zs.map (·.2) = vs ∧ ∀ z ∈ zs, Den K ρ Φ z.1 z.2
  | _, _, .nil => ⟨[], rfl, rfl, fun z h => (nomatch h)⟩
  | d :: ds, v :: vs, .cons h r => by
    obtain ⟨zs, e1, e2, h2⟩ := dens_zip r
    refine ⟨(d, v) :: zs, by rw [List.map_cons, e1], by rw [List.map_cons, e2], fun z hz => ?_⟩
    rcases List.mem_cons.mp hz with rfl | hz
    · exact h
    · exact h2 z hz
theorem dens_unzip : ∀ {zs : List (D × V)}, (∀ z ∈ zs, Den K ρ Φ z.1 z.2) → Dens K ρ Φ (zs.map (·.1)) (zs.map (·.2))
  | [], _ => .nil
  | z :: zs, h => .cons (h z List.mem_cons_self) (dens_unzip fun y hy => h y (List.mem_cons_of_mem _ hy))
theorem pys_mem : ∀ {ds : List D} {ps : List PyData}, D.pys ds = some ps → ps = ds.map pyD ∧ ∀ d ∈ ds, d.py = some (pyD d)
  | [], _, e => by cases e; exact ⟨rfl, fun d h => (nomatch h)⟩
  | d :: ds, ps, e => by
    unfold D.pys at e
    cases q : d.py with
    | none => rw [q] at e; cases e
    | some p =>
      cases q2 : D.pys ds with
      | none => rw [q, q2] at e; cases e
      | some qs =>
        rw [q, q2] at e
        cases e
        obtain ⟨h1, h2⟩ := pys_mem q2
        have e0 : pyD d = p := by unfold pyD; rw [q]; rfl
        refine ⟨by rw [List.map_cons, e0, ← h1], fun y hy => ?_⟩
        rcases List.mem_cons.mp hy with rfl | hy
        · rw [q, e0]
        · exact h2 y hy
end
section
variable {X : Cx} {W : WX}
theorem cr_sort (hu : X.A.units + 64 < cLine) : CallR X (.builtin "sorted") (rC X.K gSort) := by
  refine CallR.imp (call_sortDt hu) fun xs H Q ⟨ρ, M, ds, d, S, r, e, q⟩ => ?_
  unfold gSort at e
  split at e
  · rename_i d0
    obtain ⟨x, rfl, r1⟩ := dens1 r
    cases e1 : sqD M d0 with
    | none => rw [e1] at e; cases e
    | some ys =>
      cases e2 : D.pys ys with
      | none => simp [e1, e2] at e
      | some ps =>
        have e : (if sortOk ps = true then some (D.lst (ys.mergeSort leD)) else none) = some d := by simpa [e1, e2] using e
        split at e
        · rename_i hso
          cases e
          obtain ⟨a, vs, rfl, hs, hv⟩ := sqD_of S r1 e1
          obtain ⟨zs, z1, z2, z3⟩ := dens_zip hv
          obtain ⟨p1, p2⟩ := pys_mem e2
          obtain ⟨s1, s2, s3⟩ := sortOk_of hso
          have eb1 : (zs.map fun z => (z.2, pyD z.1)).map (·.1) = vs := by rw [List.map_map]; exact z2
          have eb2 : (zs.map fun z => (z.2, pyD z.1)).map (·.2) = ps := by
            rw [List.map_map, p1, ← z1, List.map_map]
            rfl
          have m1 : (zs.mergeSort fun a b => leD a.1 b.1).map (·.1) = ys.mergeSort leD := by
            rw [← z1]
            exact List.map_mergeSort fun a _ b _ => rfl
          have m2 : ((zs.map fun z => (z.2, pyD z.1)).mergeSort (dataLe false Prod.snd)).map (·.1) = (zs.mergeSort fun a b => leD a.1 b.1).map (·.2) := by
            rw [← List.map_mergeSort (r := fun a b => leD a.1 b.1) (f := fun z : D × V => (z.2, pyD z.1)) (fun a _ b _ => rfl), List.map_map]
            rfl
          refine ⟨a, zs.map fun z => (z.2, pyD z.1), rfl, by rw [eb1]; exact hs, fun b hb => ?_, by rw [eb2]; exact s1, by rw [eb2]; exact s2, fun b hb => ?_, fun p hp => ?_⟩
          · obtain ⟨z, hz, rfl⟩ := List.mem_map.mp hb
            have hd : z.1 ∈ ys := by rw [← z1]; exact List.mem_map.mpr ⟨z, hz, rfl⟩
            exact dp_same (frz_same ρ H) (den_dp (z3 z hz) (p2 _ hd))
          · have hb2 : b.2 ∈ ps := by rw [← eb2]; exact List.mem_map.mpr ⟨b, hb, rfl⟩
            exact s3 _ hb2
          · rw [m2]
            refine q _ _ (Nx.new hp) (S.new hp) (.lst (frz_at (S.notin hp) upd_same) (Dens.mono (Nx.new hp).ext ?_))
            rw [← m1]
            exact dens_unzip fun z hz => z3 z ((List.mergeSort_perm _ _).mem_iff.mp hz)
        · cases e
  · cases e
/-! ### sorted(set(xs)) of texts -/
def gSetS : D → Sto → Option D := fun d M => (sqD M d).bind fun ys => if isTup d = true then none else (strsD ys).bind fun ks => if ks.length < 1000 then some (.lst ((sortU ks).map .str)) else none
theorem dens_strs {K : Frag} {ρ : List (Option Addr)} {Φ : Hp} : ∀ xs : List Str, Dens K ρ Φ (xs.map .str) (xs.map V.str)
  | [] => .nil
  | x :: xs => .cons (.str x) (dens_strs xs)
theorem pd_sortSet {e : Expr} {f : EF} {p p2 q pos : Pos} (hc : X.calm = true) (hu : X.A.units + 64 < cLine) (hg : Gl X "sorted") (hm : X.mg "sorted" = none) (hg2 : Gl X "set") (hm2 : X.mg "set" = none) (he : PD X W e f)
    (h1 : starEach [e] X.env = (false, eval e X.env) :: starEach [] X.env := by rfl) (h2 : starEach [(.Call (.Name "set" p2) [e] [] q : Expr)] X.env = (false, eval (.Call (.Name "set" p2) [e] [] q) X.env) :: starEach [] X.env := by rfl) :
    PD X W (.Call (.Name "sorted" p) [.Call (.Name "set" p2) [e] [] q] [] pos) (eUn gSetS f) :=
  pe_mono (pe_callB (call_sortS hc hu) hg hm PyProof.Rows.boot_sorted (pa_cons (pe_callTy (call_setS hc) hg2 hm2 PyProof.Rows.boot_set (pa_cons he pa_nil h1) (by decide) (by decide) h1 rfl) pa_nil h2) (by decide) (by decide) h2 rfl) fun σ H Q ⟨ρ, δ, M, hE, hS, h⟩ =>
    rd_mono (rd_bind (f := f) (g := fun x => opt (gSetS x)) hE hS h) fun x H1 ⟨ρ1, d1, M1, n1, e1, s1, r1, hq⟩ => by
      obtain ⟨z, ez, hz⟩ := opt_of hq
      unfold gSetS at ez
      cases e2 : sqD M1 d1 with
      | none => simp [e2] at ez
      | some ys =>
        cases t : isTup d1 with
        | true => simp [e2, t] at ez
        | false =>
          cases e3 : strsD ys with
          | none => simp [e2, t, e3] at ez
          | some ks =>
            have ez : (if ks.length < 1000 then some (D.lst ((sortU ks).map .str)) else none) = some z := by simpa [e2, t, e3] using ez
            split at ez
            · rename_i hl
              cases ez
              obtain ⟨a, vs, rfl, hsq, hv⟩ := sqD_L s1 r1 e2 t
              have ev := strsD_of hv e3
              subst ev
              refine ⟨a, ks, rfl, hsq, hl, fun p hp => ⟨p, ks, rfl, upd_same, fun p2 hp2 => ?_⟩⟩
              have n2 := Nx.new (ρ := ρ1) (o := SetKO X.w p fun k => (ks.map Sum.inr).any fun x => decide (x = k)) hp
              have s2 := s1.new (o := SetKO X.w p fun k => (ks.map Sum.inr).any fun x => decide (x = k)) hp
              have n3 := Nx.new (ρ := ρ1) (o := .lst ((sortU ks).map V.str)) hp2
              exact hz _ _ (n2.trans n3) (s2.new hp2) (.lst (frz_at (s2.notin hp2) upd_same) (dens_strs _))
            · cases ez
end
end L2.MK

end

section
set_option Elab.async false
set_option linter.all false
set_option maxRecDepth 100000
set_option maxHeartbeats 2000000
set_option autoImplicit false
/-! Defs, calls. -/
namespace L2.MK
open PySem PySem.Spec PyProof.Rows PySem.W

/-! ### what is behind a call: new things that nobody changes any more -/
mutual
def thawW (g : Nat → Option D) : D → Option D
  | .tup xs => (thawsW g xs).map .tup
  | .lst xs => (thawsW g xs).map .lst
  | .rol xs => (thawsW g xs).map .rol
  | .dct ks xs => (thawsW g xs).map (.dct ks)
  | .ref i => g i
  | .ins C fs => (thawfW g fs).map (.ins C)
  | .exc C fs => (thawfW g fs).map (.exc C)
  | .non => some .non
  | .bl b => some (.bl b)
  | .int i => some (.int i)
  | .str x => some (.str x)
  | .ty T => some (.ty T)
  | .cls C => some (.cls C)
def thawsW (g : Nat → Option D) : List D → Option (List D)
  | [] => some []
  | d :: r => match thawW g d, thawsW g r with
    | some x, some xs => some (x :: xs)
    | _, _ => none
def thawfW (g : Nat → Option D) : List (Str × D) → Option (List (Str × D))
  | [] => some []
  | (f, d) :: r => match thawW g d, thawfW g r with
    | some x, some xs => some ((f, x) :: xs)
    | _, _ => none
end
/-- the new ones by their contents -/
def resN (n : Nat) (M : Sto) : Nat → Nat → Option D
  | 0, i => if i < n then some (.ref i) else none
  | k + 1, i => if i < n then some (.ref i) else match M[i]? with
    | some (.lst xs) => (thawsW (resN n M k) xs).map .lst
    | some (.ins C fs) => (thawfW (resN n M k) fs).map (.ins C)
    | some (.dK kvs) => (thawsW (resN n M k) (kvs.map (·.2))).map (.dct (kvs.map (·.1)))
    | _ => none
def thaw (n : Nat) (M : Sto) (d : D) : Option D := thawW (resN n M 4) d
def thawMO (n : Nat) (M : Sto) : MO → Option MO
  | .lst xs => (thawsW (resN n M 4) xs).map .lst
  | .dK kvs => (thawsW (resN n M 4) (kvs.map (·.2))).map fun ys => .dK ((kvs.map (·.1)).zip ys)
  | .ins C fs => (thawfW (resN n M 4) fs).map (.ins C)
  | .opq => some .opq
  | .dead => some .dead
def thawSto (n : Nat) (M : Sto) : List MO → Option (List MO)
  | [] => some []
  | m :: r => match thawMO n M m, thawSto n M r with
    | some x, some xs => some (x :: xs)
    | _, _ => none
def bothO {α : Type} (a : Option α) (m : Option Sto) (mk : α → Sto → Out D) : Out D := match a, m with
  | some x, some y => mk x y
  | _, _ => .stuck
/-- the end of a call made at n things -/
def trimO (n : Nat) : Out D → Out D
  | .ok d M => bothO (thaw n M d) (thawSto n M (M.take n)) .ok
  | .exc C fs M => bothO (thawfW (resN n M 4) fs) (thawSto n M (M.take n)) (.exc C)
  | .stuck => .stuck
section
variable {K : Frag} {ρ ρ0 : List (Option Addr)} {H : Hp} {M : Sto} {n : Nat}
theorem frz_less (h : ∀ a : Addr, some a ∈ ρ0 → some a ∈ ρ) : Same (frz ρ H) (frz ρ0 H) := fun a o e => by
  obtain ⟨n1, e1⟩ := frz_of e
  exact frz_at (fun z => n1 (h a z)) e1
/-- what g gives stands there too -/
def ResOk (K : Frag) (ρ ρ0 : List (Option Addr)) (H : Hp) (g : Nat → Option D) : Prop := ∀ i d v, g i = some d → Den K ρ (frz ρ H) (.ref i) v → Den K ρ0 (frz ρ0 H) d v
mutual
theorem thaw_den {g : Nat → Option D} (s : Same (frz ρ H) (frz ρ0 H)) (ok : ResOk K ρ ρ0 H g) : ∀ {d d' : D} {v : V}, thawW g d = some d' → Den K ρ (frz ρ H) d v → Den K ρ0 (frz ρ0 H) d' v
  | .non, _, _, e, .non => by cases e; exact .non
  | .bl b, _, _, e, .bl _ => by cases e; exact .bl b
  | .int i, _, _, e, .int _ => by cases e; exact .int i
  | .str x, _, _, e, .str _ => by cases e; exact .str x
  | .ty T, _, _, e, .ty _ => by cases e; exact .ty T
  | .cls C, _, _, e, .cls _ => by cases e; exact .cls C
  | .ref i, d', v, e, r => ok i d' v e r
  | .tup ds, d', _, e, .tup h r => by
    unfold thawW at e
    cases q : thawsW g ds with
    | none => rw [q] at e; cases e
    | some es => rw [q] at e; cases e; exact .tup (same_sqT s h) (thaws_den s ok q r)
  | .lst ds, d', _, e, .lst h r => by
    unfold thawW at e
    cases q : thawsW g ds with
    | none => rw [q] at e; cases e
    | some es => rw [q] at e; cases e; exact .lst (s _ _ h) (thaws_den s ok q r)
  | .rol ds, d', _, e, .rol h r => by
    unfold thawW at e
    cases q : thawsW g ds with
    | none => rw [q] at e; cases e
    | some es => rw [q] at e; cases e; exact .rol (s.seq h) (thaws_den s ok q r)
  | .dct ks ds, d', _, e, .dct h h2 r => by
    unfold thawW at e
    cases q : thawsW g ds with
    | none => rw [q] at e; cases e
    | some es => rw [q] at e; cases e; exact .dct (s _ _ h) h2 (thaws_den s ok q r)
  | .ins C fs, d', _, e, .ins h r => by
    unfold thawW at e
    cases q : thawfW g fs with
    | none => rw [q] at e; cases e
    | some es => rw [q] at e; cases e; exact .ins (s _ _ h) (thawf_den s ok q r)
  | .exc C fs, d', _, e, .exc h1 h2 h3 r => by
    unfold thawW at e
    cases q : thawfW g fs with
    | none => rw [q] at e; cases e
    | some es =>
      rw [q] at e
      cases e
      refine .exc (s _ _ h1) (fun dd z => s _ _ (h2 dd z)) (fun z => ?_) (thawf_den s ok q r)
      have := h3 z
      subst this
      cases q
      rfl
theorem thaws_den {g : Nat → Option D} (s : Same (frz ρ H) (frz ρ0 H)) (ok : ResOk K ρ ρ0 H g) : ∀ {ds ds' : List D} {vs : List V}, thawsW g ds = some ds' → Dens K ρ (frz ρ H) ds vs → Dens K ρ0 (frz ρ0 H) ds' vs
  | [], _, _, e, .nil => by cases e; exact .nil
  | d :: ds, _, _, e, .cons h r => by
    unfold thawsW at e
    cases q : thawW g d with
    | none => rw [q] at e; cases e
    | some x =>
      cases q2 : thawsW g ds with
      | none => rw [q, q2] at e; cases e
      | some xs => rw [q, q2] at e; cases e; exact .cons (thaw_den s ok q h) (thaws_den s ok q2 r)
theorem thawf_den {g : Nat → Option D} (s : Same (frz ρ H) (frz ρ0 H)) (ok : ResOk K ρ ρ0 H g) : ∀ {ds ds' : List (Str × D)} {vs : List (Str × V)}, thawfW g ds = some ds' → Denf K ρ (frz ρ H) ds vs → Denf K ρ0 (frz ρ0 H) ds' vs
  | [], _, _, e, .nil => by cases e; exact .nil
  | (f, d) :: ds, _, _, e, .cons h r => by
    unfold thawfW at e
    cases q : thawW g d with
    | none => rw [q] at e; cases e
    | some x =>
      cases q2 : thawfW g ds with
      | none => rw [q, q2] at e; cases e
      | some xs => rw [q, q2] at e; cases e; exact .cons (thaw_den s ok q h) (thawf_den s ok q2 r)
end
theorem take_mem {n : Nat} {a : Option Addr} (h : a ∈ ρ.take n) : a ∈ ρ := List.mem_of_mem_take h
theorem take_at {i n : Nat} (h : i < n) : (ρ.take n)[i]? = ρ[i]? := by rw [List.getElem?_take, if_pos h]
theorem take_at' {i n : Nat} {x : Option Addr} (h : (ρ.take n)[i]? = some x) : i < n ∧ ρ[i]? = some x := by
  rw [List.getElem?_take] at h
  split at h
  · exact ⟨by assumption, h⟩
  · cases h
theorem denK_split : ∀ {ds : List (Key × D)} {vs : List (Key × V)}, DenK K ρ (frz ρ H) ds vs → ds.map (·.1) = vs.map (·.1) ∧ Dens K ρ (frz ρ H) (ds.map (·.2)) (vs.map (·.2))
  | [], [], _ => ⟨rfl, .nil⟩
  | [], _ :: _, h => h.elim
  | _ :: _, [], h => h.elim
  | (k, d) :: ds, (j, v) :: vs, ⟨h1, h2, h3⟩ => by
    obtain ⟨h4, h5⟩ := denK_split h3
    exact ⟨by rw [List.map_cons, List.map_cons, h4]; simp only [h1], .cons h2 h5⟩
theorem resN_ok (S : StOk K ρ M H) : ∀ k, ResOk K ρ (ρ.take n) H (resN n M k)
  | 0 => fun i d v e r => by
    unfold resN at e
    split at e
    · rename_i hi
      cases e
      cases r with
      | ref h => exact .ref (by rw [take_at hi]; exact h)
    · cases e
  | k + 1 => fun i d v e r => by
    have sm : Same (frz ρ H) (frz (ρ.take n) H) := frz_less fun a h => take_mem h
    unfold resN at e
    split at e
    · rename_i hi
      cases e
      cases r with
      | ref h => exact .ref (by rw [take_at hi]; exact h)
    · rename_i hi
      cases r with
      | @ref _ a h =>
        have notin : some a ∉ ρ.take n := fun z => by
          obtain ⟨j, hj, e2⟩ := List.mem_iff_getElem.mp z
          have e3 : (ρ.take n)[j]? = some (some a) := by rw [List.getElem?_eq_getElem hj, e2]
          obtain ⟨h1, h2⟩ := take_at' e3
          exact hi (by rw [S.inj i j a h h2]; exact h1)
        obtain ⟨m, h1, h2⟩ := S.at_ i a h
        rw [h1] at e
        cases m with
        | lst xs =>
          simp only at e
          cases q : thawsW (resN n M k) xs with
          | none => rw [q] at e; cases e
          | some ys =>
            rw [q] at e
            cases e
            obtain ⟨vs, h3, h4⟩ := h2
            exact .lst (frz_at notin h3) (thaws_den sm (resN_ok S k) q h4)
        | ins C fs =>
          simp only at e
          cases q : thawfW (resN n M k) fs with
          | none => rw [q] at e; cases e
          | some ys =>
            rw [q] at e
            cases e
            obtain ⟨dx, vs, h3, h4⟩ := h2
            exact .ins (frz_at notin h3) (thawf_den sm (resN_ok S k) q h4)
        | dK kvs =>
          simp only at e
          cases q : thawsW (resN n M k) (kvs.map (·.2)) with
          | none => rw [q] at e; cases e
          | some ys =>
            rw [q] at e
            cases e
            obtain ⟨ws, h3, h4⟩ := h2
            obtain ⟨h5, h6⟩ := denK_split h4
            exact .dct (frz_at notin h3) h5.symm (thaws_den sm (resN_ok S k) q h6)
        | _ => cases e
theorem thawMO_ok (S : StOk K ρ M H) {a : Addr} {m m' : MO} (e : thawMO n M m = some m') (h : MOk K ρ H a m) : MOk K (ρ.take n) H a m' := by
  have sm : Same (frz ρ H) (frz (ρ.take n) H) := frz_less fun a h => take_mem h
  cases m with
  | lst xs =>
    replace e : (thawsW (resN n M 4) xs).map MO.lst = some m' := e
    cases q : thawsW (resN n M 4) xs with
    | none => rw [q] at e; cases e
    | some ys => rw [q] at e; cases e; obtain ⟨vs, h3, h4⟩ := h; exact ⟨vs, h3, thaws_den sm (resN_ok S 4) q h4⟩
  | ins C fs =>
    replace e : (thawfW (resN n M 4) fs).map (MO.ins C) = some m' := e
    cases q : thawfW (resN n M 4) fs with
    | none => rw [q] at e; cases e
    | some ys => rw [q] at e; cases e; obtain ⟨dx, vs, h3, h4⟩ := h; exact ⟨dx, vs, h3, thawf_den sm (resN_ok S 4) q h4⟩
  | dK kvs =>
    replace e : (thawsW (resN n M 4) (kvs.map (·.2))).map (fun ys => MO.dK ((kvs.map (·.1)).zip ys)) = some m' := e
    cases q : thawsW (resN n M 4) (kvs.map (·.2)) with
    | none => rw [q] at e; cases e
    | some ys =>
      rw [q] at e
      cases e
      obtain ⟨ws, h3, h4⟩ := h
      refine ⟨ws, h3, ?_⟩
      have split1 : ∀ {ds : List (Key × D)} {vs : List (Key × V)}, DenK K ρ (frz ρ H) ds vs → ds.map (·.1) = vs.map (·.1) ∧ Dens K ρ (frz ρ H) (ds.map (·.2)) (vs.map (·.2)) := by
        intro ds
        induction ds with
        | nil => intro vs h; cases vs with
          | nil => exact ⟨rfl, .nil⟩
          | cons _ _ => exact h.elim
        | cons d ds ih => intro vs h; cases vs with
          | nil => exact h.elim
          | cons v vs => obtain ⟨h1, h2, h3⟩ := h; obtain ⟨h4, h5⟩ := ih h3; exact ⟨by rw [List.map_cons, List.map_cons, h4, h1], .cons h2 h5⟩
      have join1 : ∀ {ys : List D} {vs : List (Key × V)}, Dens K (ρ.take n) (frz (ρ.take n) H) ys (vs.map (·.2)) → DenK K (ρ.take n) (frz (ρ.take n) H) ((vs.map (·.1)).zip ys) vs := by
        intro ys
        induction ys with
        | nil => intro vs h; cases vs with
          | nil => trivial
          | cons _ _ => cases h
        | cons d ds ih => intro vs h; cases vs with
          | nil => cases h
          | cons v vs => cases h with
            | cons h1 h2 => exact ⟨rfl, h1, ih h2⟩
      obtain ⟨k1, k2⟩ := split1 h4
      rw [k1]
      exact join1 (thaws_den sm (resN_ok S 4) q k2)
  | opq => cases e; exact h
  | dead => exact h.elim
theorem thawSto_at : ∀ {ms ms' : List MO}, thawSto n M ms = some ms' → ms.length = ms'.length ∧ ∀ (i : Nat) (m : MO), ms[i]? = some m → ∃ m', ms'[i]? = some m' ∧ thawMO n M m = some m'
  | [], _, e => by cases e; exact ⟨rfl, fun i m h => by simp at h⟩
  | m :: r, ms', e => by
    unfold thawSto at e
    cases q : thawMO n M m with
    | none => rw [q] at e; cases e
    | some x =>
      cases q2 : thawSto n M r with
      | none => rw [q, q2] at e; cases e
      | some xs =>
        rw [q, q2] at e
        cases e
        obtain ⟨h1, h2⟩ := thawSto_at q2
        refine ⟨by simp [h1], fun i m0 h => ?_⟩
        cases i with
        | zero => simp at h; subst h; exact ⟨x, rfl, q⟩
        | succ i => simpa using h2 i m0 (by simpa using h)
theorem trim_st (S : StOk K ρ M H) {M' : Sto} (e : thawSto n M (M.take n) = some M') : StOk K (ρ.take n) M' H := by
  obtain ⟨h1, h2⟩ := thawSto_at e
  refine ⟨by rw [← h1, List.length_take, List.length_take, S.len], fun i j a ha hb => S.inj i j a (take_at' ha).2 (take_at' hb).2, fun i a ha => ?_, fun i hi => ?_⟩
  · obtain ⟨hl, h3⟩ := take_at' ha
    obtain ⟨m, h4, h5⟩ := S.at_ i a h3
    obtain ⟨m', h6, h7⟩ := h2 i m (by rw [List.getElem?_take, if_pos hl]; exact h4)
    exact ⟨m', h6, thawMO_ok S h7 h5⟩
  · obtain ⟨hl, h3⟩ := take_at' hi
    have h4 := S.dead i h3
    obtain ⟨m', h6, h7⟩ := h2 i .dead (by rw [List.getElem?_take, if_pos hl]; exact h4)
    cases h7
    exact h6
theorem trim_nx {ρ1 : List (Option Addr)} {H1 : Hp} (nx : Nx ρ1 H1 ρ H) : Nx ρ1 H1 (ρ.take ρ1.length) H := ⟨fun i a h => by
  rw [take_at (List.getElem?_eq_some_iff.mp h).1]
  exact nx.refs i a h, fun a o h => frz_less (fun a h => take_mem h) a o (nx.same a o h), by rw [List.length_take]; have := nx.len; omega, nx.exts⟩
/-- a wish behind the trimmed end is a wish behind the call -/
theorem trim_of {W' : Value → Option Addr → Hp → Prop} {ρ1 : List (Option Addr)} {H1 : Hp} {Q : VK} {o : Out D} (hn : ρ1.length = n) (h : Res K W' ρ1 H1 Q (trimO n o)) : Res K W' ρ1 H1 Q o := by
  subst hn
  cases o with
  | stuck => exact h
  | ok d M =>
    replace h : Res K W' ρ1 H1 Q (bothO (thaw ρ1.length M d) (thawSto ρ1.length M (M.take ρ1.length)) .ok) := h
    cases e1 : thaw ρ1.length M d with
    | none => rw [e1] at h; exact h.elim
    | some d' =>
      cases e2 : thawSto ρ1.length M (M.take ρ1.length) with
      | none => rw [e1, e2] at h; exact h.elim
      | some M' =>
        rw [e1, e2] at h
        intro ρ' v H' nx S r
        exact h _ v H' (trim_nx nx) (trim_st S e2) (thaw_den (frz_less fun a h => take_mem h) (resN_ok S 4) e1 r)
  | exc C fs M =>
    replace h : Res K W' ρ1 H1 Q (bothO (thawfW (resN ρ1.length M 4) fs) (thawSto ρ1.length M (M.take ρ1.length)) (.exc C)) := h
    cases e1 : thawfW (resN ρ1.length M 4) fs with
    | none => rw [e1] at h; exact h.elim
    | some d' =>
      cases e2 : thawSto ρ1.length M (M.take ρ1.length) with
      | none => rw [e1, e2] at h; exact h.elim
      | some M' =>
        rw [e1, e2] at h
        intro ρ' d H' nx S r
        refine h _ d H' (trim_nx nx) (trim_st S e2) ?_
        rcases r with ⟨rfl, rfl⟩ | ⟨dd, vfs, rfl, h3, h4⟩
        · cases e1
          exact .inl ⟨rfl, rfl⟩
        · exact .inr ⟨dd, vfs, rfl, frz_less (fun a h => take_mem h) _ _ h3, thawf_den (frz_less fun a h => take_mem h) (resN_ok S 4) e1 h4⟩
end
end L2.MK

end

section
set_option Elab.async false
set_option linter.all false
set_option maxRecDepth 100000
set_option maxHeartbeats 2000000
set_option autoImplicit false
/-! Defs by what they give, calls of them. -/
namespace L2.MK
open PySem PySem.Spec PyProof.Rows PySem.W

/-- what a def's body gives -/
def bodyO : SO → Out D
  | .nx _ M => .ok .non M
  | .ret d M => .ok d M
  | .exc C fs _ M => .exc C fs M
  | .stuck => .stuck
def startD (N : List Str) (ds : List D) : Env := ds.map some ++ List.replicate (N.length - ds.length) none
/-- a def that gives what g gives -/
structure FnG (P : Program) (w : World) (K : Frag) (mg : Str → Option Value) (base : Heap) (k : Nat) (f : Addr) (fd : FuncData) (ps : List Str) (g : List D → Ev D) : Prop where
  run : ∀ (A : Around) (outer : List PySem.Env) (s : Shared) (H : Hp) (args : Args) (us : List Value) (vs : List V) (Q : VK) (E : XK) (ρ : List (Option Addr)) (M : Sto) (ds : List D), Room k A → A.guards = some [] → Env0 P w K mg base A outer s H →
    BindsTo s fd args (ps.zip us) → Vals vs us → vs.length = ps.length → StOk K ρ M H → Dens K ρ (frz ρ H) ds vs → Res K E ρ H Q (g ds M) →
    codeAny (model P w) A (.call (.ref f) args) (CR (CX P w) outer P w H s Q E) s
section
variable {P : Program} {w : World} {K : Frag} {mg : Str → Option Value} {base : Heap} {k : Nat} {f : Addr} {fd : FuncData} {ps : List Str} {g : List D → Ev D}
theorem FnG.mono {j k : Nat} (F : FnG P w K mg base j f fd ps g) (h : j ≤ k) : FnG P w K mg base k f fd ps g := ⟨fun A outer s H args us vs Q E ρ M ds hr => F.run A outer s H args us vs Q E ρ M ds (hr.mono h)⟩
/-- as the kit's defs are, with guards -/
def spG (K : Frag) (n : Nat) (g : List D → Ev D) : Sp := fun vs H Q E => vs.length = n ∧ ∃ ρ M ds, StOk K ρ M H ∧ Dens K ρ (frz ρ H) ds vs ∧ Res K E ρ H Q (g ds M)
theorem denE_none {ρ : List (Option Addr)} {Φ : Hp} : ∀ n : Nat, DenE K ρ Φ (List.replicate n none) (List.replicate n none)
  | 0 => trivial
  | n + 1 => denE_none n
theorem denE_start {ρ : List (Option Addr)} {Φ : Hp} {n : Nat} : ∀ {ds : List D} {vs : List V}, Dens K ρ Φ ds vs → DenE K ρ Φ (ds.map some ++ List.replicate n none) (vs.map some ++ List.replicate n none)
  | _, _, .nil => denE_none n
  | _, _, .cons h r => ⟨h, denE_start r⟩
/-- THE RULE for a def -/
theorem okG {x qual : Str} {params : Arguments} {body : List Stmt} {scope : Scope} {dvs : List V} {kws : List (Str × V)} {N : List Str} {fb : SF} (F : FunD K x qual params body scope dvs kws f fd) (S : FnScope N ps scope)
    (hbody : ∀ (cdv : Value) (A : Around) (outer : List PySem.Env) (s : Shared) (H : Hp) (E : XK), Room k (A.deeper (envOfC qual scope s.heap.objs.size f cdv)) → (A.deeper (envOfC qual scope s.heap.objs.size f cdv)).guards = some [] →
      Takes (cxOf (CX P w) P w K mg base N qual scope f cdv A outer s H E) (fun c d _ H' => E c d H') → PassesOwn (model P w) (A.deeper (envOfC qual scope s.heap.objs.size f cdv)) (envOfC qual scope s.heap.objs.size f cdv) (cxOf (CX P w) P w K mg base N qual scope f cdv A outer s H E).xe →
      PDSs (cxOf (CX P w) P w K mg base N qual scope f cdv A outer s H E) (fun c d _ H' => E c d H') body fb) : FnG P w K mg base (k + 1) f fd ps fun ds M => bodyO (fb (startD N ds) M) := by
  obtain ⟨oc, od, dV, kV, doc, pm, an, cdv, ct, osl, rfl, lk, hcd, _, _⟩ := F.ex
  refine ⟨fun A outer s H args us vs Q E ρ M ds hr hg e0 hb r hl hS hD hres => ?_⟩
  have KX : K.In s.heap := e0.mod.kin.keeps fun b o e => (e0.bs b o e).1
  have lim : s.heap.NoLimit := e0.mod.nolimit.keeps fun b o e => (e0.bs b o e).1
  have hkind : ∀ y ∈ ps.zip us, scope.names.lookup y.1 = some .local ∨ (scope.names.lookup y.1 = some .cell ∧ ((cellsFrom (s.heap.objs.size + 1) scope.names []).lookup y.1).isSome = true) := fun ⟨n, v⟩ hy => by
    rcases S.par n (List.of_mem_zip hy).1 with q | q
    · exact .inl q
    · exact .inr ⟨q, PySem.W.cellsFrom_some _ _ _ (.inl q)⟩
  refine codeAny_call_function hr.depth (KX _ _ lk) rfl S.co S.gen rfl (PySem.W.codeRec_of KX hcd) (hb _ _ _ _ ?_)
  refine wpAny_newFunctionEnv_cells S.kind hkind fun env he s1 x => ?_
  subst he
  refine ⟨lim.keeps x.toInCall.keep, codeAny_func ?_⟩
  have ht := hbody cdv A outer s H E (hr.deeper _) hg (takes_of rfl rfl rfl rfl) (passes_of rfl)
  have I : Inv (cxOf (CX P w) P w K mg base N qual scope f cdv A outer s H E) [] (start N vs) H s1 := inv_start S hr.hd e0 hl r x
  have hdl : ds.length = vs.length := hD.length
  have hE : DenE K ρ (frz ρ H) (startD N ds) (start N vs) := by
    unfold startD start
    rw [hdl]
    exact denE_start hD
  have q : rdS K (fun c d _ H' => E c d H') fb { nx := fun _ H' => Q .non H', rt := Q } (start N vs) H := by
    refine ⟨ρ, startD N ds, M, hE, hS, ?_⟩
    revert hres
    cases fb (startD N ds) M with
    | nx δ' M' => exact fun h ρ' σ' H' n s _ => h ρ' .non H' n s .non
    | ret d M' => exact fun h => h
    | exc C fs δ' M' => exact fun h ρ' d σ' H' n s _ r => h ρ' d H' n s r
    | stuck => exact fun h => h
  refine wpAny_mono (ht.run [] s1 (start N vs) H _ I q) (fun fl s' hs => ?_) fun e s' hs => hs
  have fin : ∀ {σ' : St} {H' : Hp} {v : V} {u : Value}, Inv (cxOf (CX P w) P w K mg base N qual scope f cdv A outer s H E) [] σ' H' s' → RelV v u → Q v H' → CE outer P w H s Q u s' :=
    fun {σ' H' v u} J rv q => ⟨v, H', J.os, J.bare, J.base, J.hok, rv, q⟩
  cases fl with
  | ret u =>
    obtain ⟨v, σ', H', J, rv, q⟩ := hs
    exact fin J rv q
  | next =>
    obtain ⟨σ', H', J, q⟩ := hs
    exact fin (v := V.non) (u := Value.none) J rfl q
  | brk =>
    obtain ⟨_, _, _, q⟩ := hs
    exact False.elim q
  | cont =>
    obtain ⟨_, _, _, q⟩ := hs
    exact False.elim q
end

/-! ### calls -/
/-- keep: what is new stays in the store -/
def callK (g : List D → Ev D) : List D → Ev D := g
/-- .. is frozen -/
def callT (g : List D → Ev D) : List D → Ev D := fun ds M => trimO M.length (g ds M)
def eFun (g : List D → Ev D) (f : AF) : EF := fun δ => f δ >>= g
section
variable {X : Cx} {W : WX} {k : Nat} {f C : Addr} {fd : FuncData} {ps : List Str} {g : List D → Ev D} {dds : List D} {ds : List Value} {dvs : List V} {x m : Str} {p pos apos : Pos} {e o : Expr} {es : List Expr} {fa : AF} {fo : EF}
/-- the callee runs -/
theorem run_fnG {pins : List (Addr × Obj)} {σ : St} {H : Hp} {s : Shared} {Q : VK} {us : List Value} {vs : List V} {ρ : List (Option Addr)} {M : Sto} {as : List D} (F : FnG X.prog X.w X.K X.mg X.base k f fd ps g) (hr : Room k X.A) (hg : X.A.guards = some []) (hb : Binds X.K fd ps ds) (hd : Vals dvs ds)
    (tk : Takes X W) (I : Inv X pins σ H s) (r : Vals vs us) (hl : (vs ++ dvs).length = ps.length) (S : StOk X.K ρ M H) (rd : Dens X.K ρ (frz ρ H) as (vs ++ dvs)) (h : Res X.K (fun c d H' => W c d σ H') ρ H Q (g as M)) :
    wpAny (model X.prog X.w) X.A (call (.ref f) us) (EP X pins σ Q) X.xe s := by
  have r2 : Vals (vs ++ dvs) (us ++ ds) := r.append hd
  have hl2 : (us ++ ds).length = ps.length := by rw [← r2.length]; exact hl
  refine wpAny_call (codeAny_mono (F.run X.A X.stack s H ⟨us, []⟩ (us ++ ds) (vs ++ dvs) Q (fun c d H' => W c d σ H') ρ M as hr hg I.env0 (hb s us I.kIn hl2) r2 hl S rd h) fun r s' hq => ?_)
  cases r with
  | error e => exact tk _ _ (XE.of_call I (fun cls d H' h => h) hq)
  | ok fl =>
    cases fl with
    | ret u => exact I.after hq
    | next => exact False.elim hq
    | brk => exact False.elim hq
    | cont => exact False.elim hq
/-- f(e, ..): n arguments, defaults dds -/
theorem pd_call {trim : Bool} (F : FnG X.prog X.w X.K X.mg X.base k f fd ps g) (hr : Room k X.A) (hgu : X.A.guards = some []) (tk : Takes X W) (hg : Gl X x) (hm : X.mg x = some (.ref f)) (hk : PySem.W.keepIn X.K (.ref f) = true) (hb : Binds X.K fd ps ds) (hd : Vals dvs ds)
    (hdd : ∀ ρ Φ, Dens X.K ρ Φ dds dvs) (ha : PDA X W (e :: es) fa) (hln : (e :: es).length + dds.length = ps.length) (hal : ∀ δ M as M', fa δ M = .ok as M' → as.length = (e :: es).length)
    (hdb : (x == ("__debug__" : Str)) = false := by decide) (he : starEach (e :: es) X.env = (false, eval e X.env) :: starEach es X.env := by rfl) (hpl : (backTo pos (starEach es X.env)).any (·.1) = false := by rfl) :
    PD X W (.Call (.Name x p) (e :: es) [] pos) (eFun (fun as => cond trim (callT g (as ++ dds)) (callK g (as ++ dds))) fa) := by
  refine ⟨fun pins s σ H Q I ⟨ρ, δ, M, hE, hS, h⟩ => ?_⟩
  refine wpAny_Call_Name_kw (ld_glob I hg hm ?_ hdb)
  have hq : rdA X.K W fa σ H fun vs H1 => ∃ ρ1 as M1, Nx ρ H ρ1 H1 ∧ DenE X.K ρ1 (frz ρ1 H1) δ σ ∧ StOk X.K ρ1 M1 H1 ∧ Dens X.K ρ1 (frz ρ1 H1) as vs ∧ as.length = (e :: es).length ∧ Res X.K (fun c d H' => W c d σ H') ρ1 H1 Q (g (as ++ dds) M1) := by
    refine ⟨ρ, δ, M, hE, hS, ?_⟩
    replace h : Res X.K (fun c d H' => W c d σ H') ρ H Q ((fa δ >>= fun as => cond trim (callT g (as ++ dds)) (callK g (as ++ dds))) M) := h
    rw [Ev.bind_run] at h
    cases e1 : fa δ M with
    | stuck => rw [e1] at h; exact h
    | exc C fs M' => rw [e1] at h; exact h
    | ok as M' =>
      rw [e1] at h
      intro ρ' vs H' n s r
      refine ⟨ρ', as, M', n, hE.mono n.ext, s, r, hal _ _ _ _ e1, ?_⟩
      have h := Res.nx n h
      cases trim with
      | false => exact h
      | true => exact trim_of s.len h
  refine PySem.W.callWith_K (h₀ := X.base) I.ok.mod.kin hk (thn (ha.run pos pins s σ H _ I hq) fun us s1 ⟨vs, H1, I1, r, ρ1, as, M1, n1, e1, s1', r1, l1, q1⟩ => ⟨I1.kIn, ?_⟩) he hpl
  have lv : (vs ++ dvs).length = ps.length := by
    rw [List.length_append, ← r1.length, l1, ← (hdd ρ1 (frz ρ1 H1)).length]
    exact hln
  exact run_fnG F hr hgu hb hd tk I1 r lv s1' (r1.append (hdd _ _)) q1
theorem pd_call0 {trim : Bool} (F : FnG X.prog X.w X.K X.mg X.base k f fd ps g) (hr : Room k X.A) (hgu : X.A.guards = some []) (tk : Takes X W) (hg : Gl X x) (hm : X.mg x = some (.ref f)) (hk : PySem.W.keepIn X.K (.ref f) = true) (hb : Binds X.K fd ps ds) (hd : Vals dvs ds)
    (hdd : ∀ ρ Φ, Dens X.K ρ Φ dds dvs) (hln : dds.length = ps.length)
    (hdb : (x == ("__debug__" : Str)) = false := by decide) :
    PD X W (.Call (.Name x p) [] [] pos) (eFun (fun as => cond trim (callT g (as ++ dds)) (callK g (as ++ dds))) aNil) := by
  refine ⟨fun pins s σ H Q I ⟨ρ, δ, M, hE, hS, h⟩ => ?_⟩
  refine wpAny_Call_Name_kw (ld_glob I hg hm ?_ hdb)
  have h : Res X.K (fun c d H' => W c d σ H') ρ H Q (g dds M) := by
    replace h : Res X.K (fun c d H' => W c d σ H') ρ H Q ((cond trim (callT g dds) (callK g dds)) M) := h
    cases trim with
    | false => exact h
    | true => exact trim_of hS.len h
  exact PySem.W.callWith_K0 I.kIn hk (run_fnG (us := []) (vs := []) F hr hgu hb hd tk I .nil (by rw [List.nil_append, ← (hdd ρ (frz ρ H)).length]; exact hln) hS (hdd _ _) h)

/-- the lengths of argument lists -/
def ALen (f : AF) (n : Nat) : Prop := ∀ δ M as M', f δ M = .ok as M' → as.length = n
theorem alen_nil : ALen aNil 0 := fun δ M as M' e => by cases e; rfl
theorem alen_cons {f : EF} {g : AF} {n : Nat} (h : ALen g n) : ALen (aCons f g) (n + 1) := fun δ M as M' e => by
  unfold aCons at e
  rw [Ev.bind_run] at e
  cases e1 : f δ M with
  | stuck => rw [e1] at e; cases e
  | exc C fs M' => rw [e1] at e; cases e
  | ok d M1 =>
    rw [e1] at e
    replace e : (g δ >>= fun ds => Ev.pure (d :: ds)) M1 = .ok as M' := e
    rw [Ev.bind_run] at e
    cases e2 : g δ M1 with
    | stuck => rw [e2] at e; cases e
    | exc C fs M' => rw [e2] at e; cases e
    | ok ds M3 =>
      rw [e2] at e
      cases e
      exact congrArg (· + 1) (h δ M1 ds _ e2)
end
end L2.MK

end

section
set_option Elab.async false
set_option linter.all false
set_option maxRecDepth 100000
set_option maxHeartbeats 2000000
set_option autoImplicit false
/-! Instances, exceptions. -/
namespace L2.MK
open PySem PySem.Spec PyProof.Rows PySem.W

section
variable {K : Frag} {ρ : List (Option Addr)} {H : Hp} {M : Sto}
/-- an instance, its dict -/
theorem Nx.push2 {x dx C : Addr} (hx : H x = none) (hd : H dx = none) (ne : dx ≠ x) {o1 o2 : HO} : Nx ρ H (ρ ++ [some x]) (upd (upd H dx o1) x o2) := by
  have hx' : upd H dx o1 x = none := by rw [upd_ne (Ne.symm ne)]; exact hx
  exact (Nx.new hd).trans (Nx.push hx')
theorem StOk.push2 {x dx : Addr} {C : Str} (S : StOk K ρ M H) (hx : H x = none) (hd : H dx = none) (ne : dx ≠ x) : StOk K (ρ ++ [some x]) (M ++ [.ins C []]) (upd (upd H dx (.own x)) x (.ins (He.ga K C) dx [])) := by
  have hx' : upd H dx (.own x) x = none := by rw [upd_ne (Ne.symm ne)]; exact hx
  exact (S.new hd).push hx' ⟨dx, [], upd_same, .nil⟩
end
section
variable {X : Cx} {W : WX} {k : Nat} {f : Addr} {fd : FuncData} {ps : List Str} {g : List D → Ev D} {dds : List D} {ds : List Value} {dvs : List V} {x m C : Str} {p pos apos : Pos} {e o : Expr} {es : List Expr} {fa : AF} {fo : EF}
/-- C(..): the new thing joins the store, __init__ works at it -/
def makeK (C : Str) (g : List D → Ev D) : List D → Ev D := fun ds M => match g (.ref M.length :: ds) (M ++ [.ins C []]) with
  | .ok .non M' => .ok (.ref M.length) M'
  | .exc C fs M' => .exc C fs M'
  | _ => .stuck
def makeT (C : Str) (g : List D → Ev D) : List D → Ev D := fun ds M => trimO M.length (makeK C g ds M)
theorem run_makeG {pins : List (Addr × Obj)} {σ : St} {H : Hp} {s : Shared} {Q : VK} {us : List Value} {vs : List V} {ρ : List (Option Addr)} {M : Sto} {as : List D} (Mq : Mk X.K (He.ga X.K C) f) (F : FnG X.prog X.w X.K X.mg X.base k f fd ps g) (hr : Room (k + 1) X.A) (hg : X.A.guards = some []) (hb : Binds X.K fd ps ds) (hd : Vals dvs ds)
    (tk : Takes X W) (I : Inv X pins σ H s) (r : Vals vs us) (hl : (vs ++ dvs).length + 1 = ps.length) (S : StOk X.K ρ M H) (rd : Dens X.K ρ (frz ρ H) as (vs ++ dvs)) (h : Res X.K (fun c d H' => W c d σ H') ρ H Q (makeK C g as M)) :
    wpAny (model X.prog X.w) X.A (call (.ref (He.ga X.K C)) us) (EP X pins σ Q) X.xe s := by
  have hx : H (s.heap.objs.size + 1) = none := I.hok.fresh (Nat.le_succ _)
  have hdx : H s.heap.objs.size = none := I.hok.fresh (Nat.le_refl _)
  have ne : s.heap.objs.size ≠ s.heap.objs.size + 1 := Nat.ne_of_lt (Nat.lt_succ_self _)
  have I2 := Inv.made (C := He.ga X.K C) I
  have n2 := Nx.push2 (ρ := ρ) (C := He.ga X.K C) (o1 := .own (s.heap.objs.size + 1)) (o2 := .ins (He.ga X.K C) s.heap.objs.size []) hx hdx ne
  have S2 := StOk.push2 (C := C) S hx hdx ne
  have r2 : Vals (V.ref (s.heap.objs.size + 1) :: (vs ++ dvs)) (Value.ref (s.heap.objs.size + 1) :: (us ++ ds)) := .cons rfl (r.append hd)
  have hl2 : (Value.ref (s.heap.objs.size + 1) :: us ++ ds).length = ps.length := by
    have e := r2.length
    rw [List.length_cons, List.length_cons] at e
    show (us ++ ds).length + 1 = ps.length
    omega
  have rd2 : Dens X.K (ρ ++ [some (s.heap.objs.size + 1)]) (frz (ρ ++ [some (s.heap.objs.size + 1)]) (upd (upd H s.heap.objs.size (.own (s.heap.objs.size + 1))) (s.heap.objs.size + 1) (.ins (He.ga X.K C) s.heap.objs.size []))) (.ref M.length :: as) (V.ref (s.heap.objs.size + 1) :: (vs ++ dvs)) := by
    refine .cons (.ref ?_) (rd.mono n2.ext)
    rw [← S.len, List.getElem?_append_right (Nat.le_refl _)]
    simp
  have h2 : Res X.K (fun c d H' => W c d σ H') (ρ ++ [some (s.heap.objs.size + 1)]) (upd (upd H s.heap.objs.size (.own (s.heap.objs.size + 1))) (s.heap.objs.size + 1) (.ins (He.ga X.K C) s.heap.objs.size []))
      (fun v H2 => v = .non ∧ Q (.ref (s.heap.objs.size + 1)) H2) (g (.ref M.length :: as) (M ++ [.ins C []])) := by
    unfold makeK at h
    revert h
    cases e1 : g (.ref M.length :: as) (M ++ [.ins C []]) with
    | stuck => exact fun h => h
    | exc C' fs M' => exact fun h ρ' d H' n s r => h ρ' d H' (n2.trans n) s r
    | ok d M' =>
      intro h
      cases d with
      | non =>
        intro ρ' v H' n s' r'
        cases r'
        refine ⟨rfl, h ρ' _ H' (n2.trans n) s' (.ref (n.refs _ _ ?_))⟩
        rw [← S.len, List.getElem?_append_right (Nat.le_refl _)]
        simp
      | _ => exact h.elim
  refine wpAny_call (make_map (f := f) I.kIn Mq.makes Mq.init (beq_iff_eq.mp Mq.fn) (codeAny_mono (F.run _ X.stack _ _ ⟨Value.ref (s.heap.objs.size + 1) :: us, []⟩ (Value.ref (s.heap.objs.size + 1) :: (us ++ ds)) _ _ (fun c d H' => W c d σ H') _ _ _ (hr.make _ us []) ?_
    (I2.env0.make _ us []) (hb _ (Value.ref (s.heap.objs.size + 1) :: us) I2.kIn hl2) r2 (by rw [List.length_cons]; exact hl) S2 rd2 h2) fun r s' hq' => ?_))
  · have e0 : (X.A.under (.builtin "type.__call__" ⟨.ref (He.ga X.K C) :: us, []⟩)).guards = X.A.guards := by
      first
        | rfl
        | simp [Around.under, pushGuards, Code.guards, Code.isGuard, guardIds]
    rw [e0]; exact hg
  · cases r with
    | error e => exact tk _ _ (XE.of_call I2 (fun cls d H' h => h) hq')
    | ok fl =>
      cases fl with
      | ret u =>
        obtain ⟨v, H', I3, rv, ev, q3⟩ := I2.after hq'
        subst ev
        exact ⟨rv, ⟨V.ref (s.heap.objs.size + 1), H', I3, rfl, q3⟩⟩
      | next => exact False.elim hq'
      | brk => exact False.elim hq'
      | cont => exact False.elim hq'
theorem pd_make {trim : Bool} (Mq : Mk X.K (He.ga X.K C) f) (F : FnG X.prog X.w X.K X.mg X.base k f fd ps g) (hr : Room (k + 1) X.A) (hgu : X.A.guards = some []) (tk : Takes X W) (hg : Gl X x) (hm : X.mg x = some (.ref (He.ga X.K C))) (hb : Binds X.K fd ps ds) (hd : Vals dvs ds)
    (hdd : ∀ ρ Φ, Dens X.K ρ Φ dds dvs) (ha : PDA X W (e :: es) fa) (hln : (e :: es).length + dds.length + 1 = ps.length) (hal : ALen fa (e :: es).length)
    (hdb : (x == ("__debug__" : Str)) = false := by decide) (he : starEach (e :: es) X.env = (false, eval e X.env) :: starEach es X.env := by rfl) (hpl : (backTo pos (starEach es X.env)).any (·.1) = false := by rfl) :
    PD X W (.Call (.Name x p) (e :: es) [] pos) (eFun (fun as => cond trim (makeT C g (as ++ dds)) (makeK C g (as ++ dds))) fa) := by
  refine ⟨fun pins s σ H Q I ⟨ρ, δ, M, hE, hS, h⟩ => ?_⟩
  refine wpAny_Call_Name_kw (ld_glob I hg hm ?_ hdb)
  have hq : rdA X.K W fa σ H fun vs H1 => ∃ ρ1 as M1, Nx ρ H ρ1 H1 ∧ DenE X.K ρ1 (frz ρ1 H1) δ σ ∧ StOk X.K ρ1 M1 H1 ∧ Dens X.K ρ1 (frz ρ1 H1) as vs ∧ as.length = (e :: es).length ∧ Res X.K (fun c d H' => W c d σ H') ρ1 H1 Q (makeK C g (as ++ dds) M1) := by
    refine ⟨ρ, δ, M, hE, hS, ?_⟩
    replace h : Res X.K (fun c d H' => W c d σ H') ρ H Q ((fa δ >>= fun as => cond trim (makeT C g (as ++ dds)) (makeK C g (as ++ dds))) M) := h
    rw [Ev.bind_run] at h
    cases e1 : fa δ M with
    | stuck => rw [e1] at h; exact h
    | exc C fs M' => rw [e1] at h; exact h
    | ok as M' =>
      rw [e1] at h
      intro ρ' vs H' n s r
      refine ⟨ρ', as, M', n, hE.mono n.ext, s, r, hal _ _ _ _ e1, ?_⟩
      have h := Res.nx n h
      cases trim with
      | false => exact h
      | true => exact trim_of s.len h
  refine PySem.W.callWith_K (h₀ := X.base) I.ok.mod.kin Mq.kp (thn (ha.run pos pins s σ H _ I hq) fun us s1 ⟨vs, H1, I1, r, ρ1, as, M1, n1, e1, s1', r1, l1, q1⟩ => ⟨I1.kIn, ?_⟩) he hpl
  have lv : (vs ++ dvs).length + 1 = ps.length := by
    rw [List.length_append, ← r1.length, l1, ← (hdd ρ1 (frz ρ1 H1)).length]
    exact hln
  exact run_makeG Mq F hr hgu hb hd tk I1 r lv s1' (r1.append (hdd _ _)) q1

/-! ### attributes -/
def fldD (M : Sto) (f : Str) : D → Option D
  | .ins _ fs => fs.lookup f
  | .exc _ fs => fs.lookup f
  | .ref i => (match M[i]? with
    | some (.ins _ fs) => fs.lookup f
    | _ => none)
  | _ => none
def clsOfD (M : Sto) : D → Option Str
  | .ins C _ => some C
  | .exc C _ => some C
  | .ref i => (match M[i]? with
    | some (.ins C _) => some C
    | _ => none)
  | _ => none
/-- o.f: Ci the classes of instances that are told, Ce of exceptions -/
def oFld (Ci Ce : List Str) (f : Str) : D → Sto → Option D := fun d M => match clsOfD M d with
  | some C => (match d with
    | .exc _ _ => if C ∈ Ce then fldD M f d else none
    | _ => if C ∈ Ci then fldD M f d else none)
  | none => none
theorem pe_or {e : Expr} {t t' : TE} (h : PE X e t) (h' : PE X e t') : PE X e (fun σ H Q => t σ H Q ∨ t' σ H Q) := ⟨fun pins s σ H Q I q => q.elim (fun z => h.run pins s σ H Q I z) fun z => h'.run pins s σ H Q I z⟩
/-- a reading that branches by what e gives -/
theorem rd_split {K : Frag} {f : EF} {g : D → Ev D} {P : D → Prop} [DecidablePred P] {σ : St} {H : Hp} {Q : VK} (h : rd K W (fun δ => f δ >>= g) σ H Q) {R R' : VK}
    (h1 : ∀ v H1 ρ1 d M1, StOk K ρ1 M1 H1 → Den K ρ1 (frz ρ1 H1) d v → P d → Res K (fun c d H' => W c d σ H') ρ1 H1 Q (g d M1) → R v H1)
    (h2 : ∀ v H1 ρ1 d M1, StOk K ρ1 M1 H1 → Den K ρ1 (frz ρ1 H1) d v → ¬ P d → Res K (fun c d H' => W c d σ H') ρ1 H1 Q (g d M1) → R' v H1) : rd K W f σ H R ∨ rd K W f σ H R' := by
  obtain ⟨ρ, δ, M, hE, hS, h⟩ := h
  replace h : Res K (fun c d H' => W c d σ H') ρ H Q ((f δ >>= g) M) := h
  rw [Ev.bind_run] at h
  cases e : f δ M with
  | stuck => rw [e] at h; exact h.elim
  | exc C fs M' => rw [e] at h; exact .inl ⟨ρ, δ, M, hE, hS, by rw [e]; exact h⟩
  | ok d M' =>
    rw [e] at h
    by_cases p : P d
    · refine .inl ⟨ρ, δ, M, hE, hS, ?_⟩
      rw [e]
      exact fun ρ' v H' n s r => h1 v H' ρ' d M' s r p (Res.nx n h)
    · refine .inr ⟨ρ, δ, M, hE, hS, ?_⟩
      rw [e]
      exact fun ρ' v H' n s r => h2 v H' ρ' d M' s r p (Res.nx n h)
def isExc : D → Bool
  | .exc _ _ => true
  | _ => false
theorem pd_fld {Ci Ce : List Str} {n : Str} (hI : ∀ C ∈ Ci, Cls X.K (He.ga X.K C) ∧ NoAttr X.K (He.ga X.K C) n) (hX : ∀ C ∈ Ce, XfC X.K (He.ga X.K C) ∧ findIn X.K (.ref (He.ga X.K C)) n = some none) (he : PD X W e fo) (hb : attributeBase e n X.env (eval e X.env) = eval e X.env := by rfl) :
    PD X W (.Attribute e n pos) (eUn (oFld Ci Ce n) fo) := pe_mono (pe_or (pe_xk he hb) (pe_fld he hb)) fun σ H Q h => by
  refine rd_split (P := fun d => isExc d = true) h (fun v H1 ρ1 d M1 S r p q => ?_) (fun v H1 ρ1 d M1 S r p q => ?_)
  · obtain ⟨z, ez, hz⟩ := opt_of q
    cases r with
    | @exc C fs a dd vfs h1 h2 h3 h4 =>
      unfold oFld at ez
      simp only [clsOfD, fldD] at ez
      split at ez
      · rename_i hc
        obtain ⟨t1, t2⟩ := hX C hc
        obtain ⟨w, l1, l2⟩ := h4.look ez
        cases dd with
        | none => rw [h3 rfl] at ez; cases ez
        | some dd => exact ⟨a, _, dd, vfs, w, rfl, (frz_of h1).2, t1, t2, (frz_of (h2 dd rfl)).2, l1, hz _ _ Nx.refl S l2⟩
      · cases ez
    | _ => cases p
  · obtain ⟨z, ez, hz⟩ := opt_of q
    cases r with
    | @ins C fs a dx vfs h1 h2 =>
      unfold oFld at ez
      simp only [clsOfD, fldD] at ez
      split at ez
      · rename_i hc
        obtain ⟨t1, t2⟩ := hI C hc
        obtain ⟨w, l1, l2⟩ := h2.look ez
        exact ⟨a, _, dx, vfs, w, rfl, (frz_of h1).2, t1, t2, l1, hz _ _ Nx.refl S l2⟩
      · cases ez
    | @ref i a h =>
      obtain ⟨m, h1, h2⟩ := S.at_ i a h
      unfold oFld at ez
      simp only [clsOfD, fldD, h1] at ez
      cases m with
      | ins C fs =>
        simp only at ez
        split at ez
        · rename_i hc
          obtain ⟨t1, t2⟩ := hI C hc
          obtain ⟨dx, vfs, h3, h4⟩ := h2
          obtain ⟨w, l1, l2⟩ := h4.look ez
          exact ⟨a, _, dx, vfs, w, rfl, h3, t1, t2, l1, hz _ _ Nx.refl S l2⟩
        · cases ez
      | _ => cases ez
    | exc _ _ _ _ => exact absurd rfl p
    | _ => cases ez
/-- o.f = e, o in the store -/
def setF (Ci : List Str) (f : Str) (o v : D) : Sto → Option Sto := fun M => match o with
  | .ref i => (match M[i]? with
    | some (.ins C fs) => if C ∈ Ci ∧ fs.length < 1000 then some (M.set i (.ins C (putD f v fs))) else none
    | _ => none)
  | _ => none
def sFldD (Ci : List Str) (f : Str) (fo fv : EF) : SF := sBind fv fun v => sBind fo fun o => fun δ M => match setF Ci f o v M with
  | some M' => .nx δ M'
  | none => .stuck
theorem pds_fld {Ci : List Str} {n : Str} {value : Expr} {fv : EF} {pos' : Pos} (hI : ∀ C ∈ Ci, Cls X.K (He.ga X.K C) ∧ NoAttr X.K (He.ga X.K C) n) (ho : PD X W o fo) (hv : PD X W value fv) (hs : swapsWith value (some (.Attribute o n pos')) pos.line X.env = pure false := by rfl) :
    PDS X W (.Assign [.Attribute o n pos'] value pos) (sFldD Ci n fo fv) := ps_mono (ps_fld ho hv hs) fun σ H E ⟨ρ, δ, M, hE, hS, h⟩ =>
  rd_mono (rd_bindS (f := fv) (g := fun v => sBind fo fun o => fun δ M => match setF Ci n o v M with
    | some M' => .nx δ M'
    | none => .stuck) hE hS h) fun y H1 ⟨ρ1, d1, M1, n1, e1, s1, r1, h1⟩ =>
    rd_mono (rd_bindS (f := fo) (g := fun o => fun δ M => match setF Ci n o d1 M with
      | some M' => .nx δ M'
      | none => .stuck) e1 s1 h1) fun x H2 ⟨ρ2, d2, M2, n2, e2, s2, r2, h2⟩ => by
      cases e : setF Ci n d2 d1 M2 with
      | none => simp only [e] at h2; exact h2.elim
      | some M3 =>
        simp only [e] at h2
        unfold setF at e
        cases r2 with
        | @ref i a h =>
          obtain ⟨m, h3, h4⟩ := s2.at_ i a h
          simp only [h3] at e
          cases m with
          | ins C fs =>
            simp only at e
            split at e
            · rename_i hc
              cases e
              obtain ⟨t1, t2⟩ := hI C hc.1
              obtain ⟨dx, vfs, h5, h6⟩ := h4
              have n3 := Nx.write (H := H2) (o := .ins (He.ga X.K C) dx (putF n y vfs)) h (fun φ q => by rw [h5] at q; cases q)
              refine ⟨a, _, dx, vfs, rfl, h5, t1, t2, by rw [← h6.length]; exact hc.2, ?_⟩
              exact h2 ρ2 σ _ n3 (s2.write h (fun φ q => by rw [h5] at q; cases q) ⟨dx, _, upd_same, Denf.put ((r1.mono n2.ext).mono n3.ext) (h6.mono n3.ext)⟩) (e2.mono n3.ext)
            · cases e
          | _ => cases e
        | _ => cases e
end
end L2.MK

end

section
set_option Elab.async false
set_option linter.all false
set_option maxRecDepth 100000
set_option maxHeartbeats 2000000
set_option autoImplicit false
/-! Comprehensions. -/
namespace L2.MK
open PySem PySem.Spec PyProof.Rows PySem.W

/-- what a target writes: a name, or parts -/
inductive Pt where
  | nm (i : Nat)
  | tp (ps : List Pt)
mutual
def setPt (M : Sto) : Pt → D → Env → Option Env
  | .nm i, d, δ => some (δ.set i (some d))
  | .tp ps, d, δ => match sqD M d with
    | some ys => setPts M ps ys δ
    | none => none
def setPts (M : Sto) : List Pt → List D → Env → Option Env
  | [], [], δ => some δ
  | p :: ps, d :: ds, δ => match setPt M p d δ with
    | some δ' => setPts M ps ds δ'
    | none => none
  | _, _, _ => none
end
mutual
def Pt.ixs : Pt → List Nat
  | .nm i => [i]
  | .tp ps => Pt.ixss ps
def Pt.ixss : List Pt → List Nat
  | [] => []
  | p :: ps => p.ixs ++ Pt.ixss ps
end
mutual
def tPt (K : Frag) : Pt → TG
  | .nm i => gName i
  | .tp ps => fun v σ H Q => gUnl K ps.length (tPts K ps) v σ H Q ∨ gTup K ps.length (tPts K ps) v σ H Q
def tPts (K : Frag) : List Pt → TGs
  | [] => gNil
  | p :: ps => gCons (tPt K p) (tPts K ps)
end
theorem setPts_len {M : Sto} : ∀ {ps : List Pt} {ds : List D} {δ δ' : Env}, setPts M ps ds δ = some δ' → ds.length = ps.length
  | [], [], _, _, _ => rfl
  | p :: ps, d :: ds, δ, δ', e => by
    unfold setPts at e
    cases q : setPt M p d δ with
    | none => rw [q] at e; cases e
    | some δ1 => rw [q] at e; exact congrArg (· + 1) (setPts_len e)
  | [], _ :: _, _, _, e => by cases e
  | _ :: _, [], _, _, e => by cases e
theorem set_wipe {σ : St} {i : Nat} {v : Option V} : ∀ {vs : List Nat}, i ∈ vs → L2.wipe (σ.set i v) vs = L2.wipe σ vs
  | [], h => (nomatch h)
  | w :: vs, h => by
    unfold L2.wipe
    by_cases e : i ∈ vs
    · rw [set_wipe e]
    · have e2 : i = w := by
        rcases List.mem_cons.mp h with z | z
        · exact z
        · exact absurd z e
      subst e2
      have key : ∀ {us : List Nat}, i ∉ us → L2.wipe (σ.set i v) us = (L2.wipe σ us).set i v := by
        intro us
        induction us with
        | nil => intro _; rfl
        | cons u us ih =>
          intro h
          unfold L2.wipe
          rw [ih (fun z => h (List.mem_cons_of_mem _ z)), List.set_comm _ _ (fun z => h (by rw [z]; exact List.mem_cons_self))]
      rw [key e, List.set_set]
theorem wipe_idem : ∀ {σ : St} {vs : List Nat}, L2.wipe (L2.wipe σ vs) vs = L2.wipe σ vs := by
  have key : ∀ {σ : St} {i : Nat} {v : Option V} {us : List Nat}, i ∉ us → L2.wipe (σ.set i v) us = (L2.wipe σ us).set i v := by
    intro σ i v us
    induction us with
    | nil => intro _; rfl
    | cons u us ih =>
      intro h
      unfold L2.wipe
      rw [ih (fun z => h (List.mem_cons_of_mem _ z)), List.set_comm _ _ (fun z => h (by rw [z]; exact List.mem_cons_self))]
  intro σ vs
  induction vs with
  | nil => rfl
  | cons w vs ih =>
    show (L2.wipe ((L2.wipe σ vs).set w none) vs).set w none = (L2.wipe σ vs).set w none
    by_cases e : w ∈ vs
    · rw [set_wipe e, ih]
    · rw [key e, ih, List.set_set]
theorem gAppend_ref {i : Nat} {y : D} {M : Sto} {q : D × Sto} (e : gAppend (.ref i) [y] M = some q) : ∃ acc, M[i]? = some (.lst acc) ∧ acc.length < sizeLine ∧ q = (.non, M.set i (.lst (acc ++ [y]))) := by
  replace e : (match M[i]? with
    | some (.lst xs) => if xs.length < sizeLine then some (D.non, M.set i (.lst (xs ++ [y]))) else none
    | _ => none) = some q := e
  split at e
  · rename_i acc e1
    split at e
    · rename_i hl
      cases e
      exact ⟨acc, e1, hl, rfl⟩
    · cases e
  · cases e
section
variable {K : Frag} {ρ : List (Option Addr)} {H : Hp} {M : Sto}
mutual
theorem pt_of (S : StOk K ρ M H) : ∀ (p : Pt) {d : D} {v : V} {δ δ' : Env} {σ : St} {vs : List Nat} {Q : St → Hp → Prop}, Den K ρ (frz ρ H) d v → DenE K ρ (frz ρ H) δ σ → setPt M p d δ = some δ' → (∀ i ∈ p.ixs, i ∈ vs) →
    (∀ σ', DenE K ρ (frz ρ H) δ' σ' → L2.wipe σ' vs = L2.wipe σ vs → Q σ' H) → tPt K p v σ H Q
  | .nm i, d, v, δ, δ', σ, vs, Q, r, hE, e, hv, hq => by
    cases e
    exact hq _ (hE.set r i) (set_wipe (hv i List.mem_cons_self))
  | .tp ps, d, v, δ, δ', σ, vs, Q, r, hE, e, hv, hq => by
    unfold setPt at e
    cases e1 : sqD M d with
    | none => rw [e1] at e; cases e
    | some ys =>
      rw [e1] at e
      obtain ⟨a, ws, rfl, hs, hd⟩ := sqD_of S r e1
      have hl : ws.length = ps.length := by rw [← hd.length]; exact setPts_len e
      have main := pts_of S ps hd hE e (vs := vs) (Q := Q) hv hq
      rcases hs with hs | hs
      · exact .inl ⟨a, ws, rfl, hs, hl, main⟩
      · exact .inr ⟨a, ws, rfl, hs, hl, main⟩
theorem pts_of (S : StOk K ρ M H) : ∀ (ps : List Pt) {ds : List D} {ws : List V} {δ δ' : Env} {σ : St} {vs : List Nat} {Q : St → Hp → Prop}, Dens K ρ (frz ρ H) ds ws → DenE K ρ (frz ρ H) δ σ → setPts M ps ds δ = some δ' → (∀ i ∈ Pt.ixss ps, i ∈ vs) →
    (∀ σ', DenE K ρ (frz ρ H) δ' σ' → L2.wipe σ' vs = L2.wipe σ vs → Q σ' H) → tPts K ps ws σ H Q
  | [], ds, ws, δ, δ', σ, vs, Q, r, hE, e, hv, hq => by
    cases r with
    | nil => cases e; exact ⟨rfl, hq σ hE rfl⟩
    | cons _ _ => cases e
  | p :: ps, ds, ws, δ, δ', σ, vs, Q, r, hE, e, hv, hq => by
    cases r with
    | nil => cases e
    | @cons d v ds' ws' r1 r2 =>
      unfold setPts at e
      cases e1 : setPt M p d δ with
      | none => rw [e1] at e; cases e
      | some δ1 =>
        rw [e1] at e
        refine ⟨v, ws', rfl, pt_of S p r1 hE e1 (vs := vs) (fun i hi => hv i (List.mem_append_left _ hi)) fun σ1 h1 w1 => ?_⟩
        exact pts_of S ps r2 h1 e (vs := vs) (fun i hi => hv i (List.mem_append_right _ hi)) fun σ2 h2 w2 => hq σ2 h2 (w2.trans w1)
end
end
section
variable {X : Cx} {W : WX}
/-- a target, read so -/
abbrev PP (X : Cx) (tg : Expr) (p : Pt) : Prop := PG X tg (tPt X.K p)
abbrev PPs (X : Cx) (tgs : List Expr) (ps : List Pt) : Prop := PGs X tgs (tPts X.K ps)
theorem pp_name {i : Nat} {x : Str} {pos : Pos} (hN : X.N.Nodup) (hi : X.N[i]? = some x) (hx : Loc X.env.scope x) (hf : X.fn x = true ∨ X.env.scope.names.lookup x = some .local := by first | exact .inl rfl | exact .inr rfl | assumption) : PP X (.Name x pos) (.nm i) := pg_name hN hi hx hf
theorem pps_nil : PPs X [] [] := pgs_nil
theorem pps_cons {e : Expr} {es : List Expr} {p : Pt} {ps : List Pt} (h1 : PP X e p) (h2 : PPs X es ps) (hx : (assignEach (e :: es) X.env).map (·.2) = assign e X.env :: (assignEach es X.env).map (·.2) := by rfl) : PPs X (e :: es) (p :: ps) := pgs_cons h1 h2 hx
theorem pp_tup {es : List Expr} {k : Nat} {ps : List Pt} {pos : Pos} (hc : X.calm = true) (h : PPs X es ps) (hn : (assignEach es X.env).length = ps.length := by rfl) (hst : (assignEach es X.env).findIdx? (·.1) = none := by rfl) : PP X (.Tuple es k pos) (.tp ps) :=
  pg_or (pg_unl hc h hn hst) (pg_tup hc h hn hst)
/-- nothing may be raised -/
def W0 : WX := fun _ _ _ _ => False
def bYes : BF := fun _ => Ev.pure true
abbrev PDTs (X : Cx) (W : WX) (ifs : List Expr) (f : BF) : Prop := PTs X ifs (rdB X.K W f)
theorem pts_mono {X : Cx} {e : List Expr} {t t' : TT} (h : PTs X e t) (m : ∀ σ H Q, t' σ H Q → t σ H Q) : PTs X e t' := ⟨fun pins s σ H Q I q => h.run pins s σ H Q I (m σ H Q q)⟩
theorem pdts_nil : PDTs X W [] bYes := pts_mono pts_nil fun σ H Q ⟨ρ, δ, M, hE, hS, h⟩ => h ρ H Nx.refl hS
theorem pdts_one {c : Expr} {f : BF} (h : PDB X W c f) : PDTs X W [c] f := pts_one h
/-- the turns of a comprehension: its list is the store's i0 -/
def lcO (it : ID) (p : Pt) (bt : BF) (f : EF) (i0 : Nat) (δw : Env) : Nat → Nat → Sto → Out D
  | 0, i => fun M => match it M i with
    | some none => .ok (.ref i0) M
    | _ => .stuck
  | r + 1, i => fun M => match it M i with
    | some none => .ok (.ref i0) M
    | some (some d) => (match setPt M p d δw with
      | some δ1 => (match bt δ1 M with
        | .ok false M2 => lcO it p bt f i0 δw r (i + 1) M2
        | .ok true M2 => (match f δ1 M2 with
          | .ok y M3 => (match gAppend (.ref i0) [y] M3 with
            | some q => lcO it p bt f i0 δw r (i + 1) q.2
            | none => .stuck)
          | _ => .stuck)
        | _ => .stuck)
      | none => .stuck)
    | none => .stuck
def eLcM (fi : IF) (p : Pt) (bt : BF) (f : EF) (vs : List Nat) : EF := fun δ M => match fi δ M with
  | .ok q M1 => lcO q.2 p bt f M1.length (wipeD δ vs) q.1 0 (M1 ++ [.lst []])
  | .exc C fs M1 => .exc C fs M1
  | .stuck => .stuck
def eLc (fi : IF) (p : Pt) (bt : BF) (f : EF) (vs : List Nat) : EF := fun δ M => trimO M.length (eLcM fi p bt f vs δ M)
theorem rd_trim {K : Frag} {f : EF} {σ : St} {H : Hp} {Q : VK} (h : rd K W (fun δ M => trimO M.length (f δ M)) σ H Q) : rd K W f σ H Q := by
  obtain ⟨ρ, δ, M, hE, hS, h⟩ := h
  exact ⟨ρ, δ, M, hE, hS, trim_of hS.len h⟩
theorem lc_of {K : Frag} {fi : IF} {p : Pt} {bt : BF} {f : EF} {vs : List Nat} {σ : St} {H : Hp} {Q : VK} (hv : ∀ i ∈ p.ixs, i ∈ vs) (h : rd K W (eLcM fi p bt f vs) σ H Q) : tLc (rdI K W fi) (tPt K p) (rdB K W0 bt) (rd K W0 f) vs σ H Q := by
  obtain ⟨ρ, δ, M, hE, hS, h⟩ := h
  refine ⟨ρ, δ, M, hE, hS, ?_⟩
  unfold eLcM at h
  cases e : fi δ M with
  | stuck => rw [e] at h; exact h
  | exc C fs M' => rw [e] at h; exact h
  | ok q M1 =>
    rw [e] at h
    intro ρ1 J H1 n1 S1 ok Dd hD
    have n2 := Nx.push (ρ := ρ1) (o := .lst []) hD
    have S2 : StOk K (ρ1 ++ [some Dd]) (M1 ++ [.lst []]) (upd H1 Dd (.lst [])) := S1.push hD ⟨[], upd_same, .nil⟩
    have at0 : (ρ1 ++ [some Dd])[M1.length]? = some (some Dd) := by
      rw [← S1.len, List.getElem?_append_right (Nat.le_refl _)]
      simp
    have E2 := ((hE.mono n1.ext).mono n2.ext).wipe vs
    have h2 := Res.nx (n1.trans n2) h
    refine ⟨fun i m H => ∃ ρ M, Nx (ρ1 ++ [some Dd]) (upd H1 Dd (.lst [])) ρ H ∧ StOk K ρ M H ∧ Res K (fun c d H' => W c d σ H') ρ H Q (lcO q.2 p bt f M1.length (wipeD δ vs) m i M), ⟨q.1, _, _, Nx.refl, S2, h2⟩, ?_⟩
    rintro i m H3 ⟨ρ3, M3, n3, S3, h3⟩
    obtain ⟨o1, o2⟩ := ok i ρ3 H3 M3 (n2.trans n3).ext S3
    have at3 := n3.refs _ _ at0
    cases e3 : q.2 M3 i with
    | none => cases m <;> (unfold lcO at h3; rw [e3] at h3; exact h3.elim)
    | some z =>
      cases z with
      | none =>
        refine .inl ⟨o1 e3, ?_⟩
        cases m <;> (unfold lcO at h3; rw [e3] at h3; exact h3.here S3 (.ref at3))
      | some d =>
        cases m with
        | zero => unfold lcO at h3; rw [e3] at h3; exact h3.elim
        | succ m =>
          unfold lcO at h3
          rw [e3] at h3
          obtain ⟨go, yl⟩ := o2 d e3
          refine .inr ⟨go, fun H' => ∃ ρ M, Nx (ρ1 ++ [some Dd]) (upd H1 Dd (.lst [])) ρ H' ∧ StOk K ρ M H' ∧ Res K (fun c d H' => W c d σ H') ρ H' Q (lcO q.2 p bt f M1.length (wipeD δ vs) m (i + 1) M), fun H' z => ⟨m, Nat.lt_succ_self _, z⟩, fun x H4 y => ?_⟩
          obtain ⟨n4, S4, r4⟩ := yl x H4 y
          cases e4 : setPt M3 p d (wipeD δ vs) with
          | none => simp only [e4] at h3; exact h3.elim
          | some δ1 =>
            simp only [e4] at h3
            refine pt_of S4 p r4 (E2.mono (n3.trans n4).ext) e4 hv fun σ2 E5 w5 => ⟨by rw [w5]; exact wipe_idem, ρ3, δ1, M3, E5, S4, ?_⟩
            cases e5 : bt δ1 M3 with
            | stuck => simp only [e5] at h3; exact h3.elim
            | exc C fs M' => simp only [e5] at h3; exact h3.elim
            | ok b M5 =>
              cases b with
              | false =>
                simp only [e5] at h3
                intro ρ6 H6 n6 S6
                rw [if_neg Bool.false_ne_true]
                exact ⟨ρ6, M5, (n3.trans n4).trans n6, S6, Res.nx (n4.trans n6) h3⟩
              | true =>
                simp only [e5] at h3
                intro ρ6 H6 n6 S6
                rw [if_pos rfl]
                refine ⟨ρ6, δ1, M5, E5.mono n6.ext, S6, ?_⟩
                cases e6 : f δ1 M5 with
                | stuck => simp only [e6] at h3; exact h3.elim
                | exc C fs M' => simp only [e6] at h3; exact h3.elim
                | ok y0 M6 =>
                  simp only [e6] at h3
                  intro ρ7 v7 H7 n7 S7 r7
                  have at7 := n7.refs _ _ (n6.refs _ _ (n4.refs _ _ at3))
                  cases e7 : gAppend (.ref M1.length) [y0] M6 with
                  | none => simp only [e7] at h3; exact h3.elim
                  | some q7 =>
                    simp only [e7] at h3
                    obtain ⟨acc, e8, hl, rfl⟩ := gAppend_ref e7
                    obtain ⟨m8, h8, h9⟩ := S7.at_ _ _ at7
                    rw [e8] at h8
                    cases h8
                    obtain ⟨ws, h10, h11⟩ := h9
                    have n8 := Nx.write (H := H7) (o := .lst (ws ++ [v7])) at7 (fun φ q => by rw [h10] at q; cases q)
                    have m8 : MOk K ρ7 (upd H7 Dd (.lst (ws ++ [v7]))) Dd (.lst (acc ++ [y0])) := ⟨_, upd_same, (h11.mono n8.ext).append (.cons (r7.mono n8.ext) .nil)⟩
                    exact ⟨ws, h10, by rw [← h11.length]; exact hl, ρ7, _, (((n3.trans n4).trans n6).trans n7).trans n8, S7.write at7 (fun φ q => by rw [h10] at q; cases q) m8, Res.nx (((n4.trans n6).trans n7).trans n8) h3⟩
/-- [elt for tg in iter if ..], frozen -/
theorem pd_lc {elt tg iter : Expr} {ifs : List Expr} {scope : Scope} {own : List (Str × Nat)} {pos : Pos} {fi : IF} {p : Pt} {bt : BF} {f : EF} (hc : X.calm = true) (hN : X.N.Nodup) (hi : PDI X W tg iter fi) (ok : BlkOk X.N X.env.scope scope own) (hv : ∀ i ∈ p.ixs, i ∈ own.map (·.2))
    (hg : ∀ (s : Shared) (H : Hp) (C : Addr) (cl : List (Str × Addr)) (fp : List Addr), PP (X.blk s H scope (compEnvC scope cl C X.env) fp) tg p) (ht : ∀ (s : Shared) (H : Hp) (C : Addr) (cl : List (Str × Addr)) (fp : List Addr), PDTs (X.blk s H scope (compEnvC scope cl C X.env) fp) W0 ifs bt)
    (he : ∀ (s : Shared) (H : Hp) (C : Addr) (cl : List (Str × Addr)) (fp : List Addr), PD (X.blk s H scope (compEnvC scope cl C X.env) fp) W0 elt f) (hs : ∀ x, foldedSetIterable iter X.env x = pure x := by intro _; rfl) :
    PD X W (.ListComp elt [⟨tg, iter, ifs, 0⟩] scope pos) (eLc fi p bt f (own.map (·.2))) := pe_mono (pe_lc hc hN hi ok hg ht he hs) fun _ _ _ h => lc_of hv (rd_trim h)
theorem pd_lcM {elt tg iter : Expr} {ifs : List Expr} {scope : Scope} {own : List (Str × Nat)} {pos : Pos} {fi : IF} {p : Pt} {bt : BF} {f : EF} (hc : X.calm = true) (hN : X.N.Nodup) (hi : PDI X W tg iter fi) (ok : BlkOk X.N X.env.scope scope own) (hv : ∀ i ∈ p.ixs, i ∈ own.map (·.2))
    (hg : ∀ (s : Shared) (H : Hp) (C : Addr) (cl : List (Str × Addr)) (fp : List Addr), PP (X.blk s H scope (compEnvC scope cl C X.env) fp) tg p) (ht : ∀ (s : Shared) (H : Hp) (C : Addr) (cl : List (Str × Addr)) (fp : List Addr), PDTs (X.blk s H scope (compEnvC scope cl C X.env) fp) W0 ifs bt)
    (he : ∀ (s : Shared) (H : Hp) (C : Addr) (cl : List (Str × Addr)) (fp : List Addr), PD (X.blk s H scope (compEnvC scope cl C X.env) fp) W0 elt f) (hs : ∀ x, foldedSetIterable iter X.env x = pure x := by intro _; rfl) :
    PD X W (.ListComp elt [⟨tg, iter, ifs, 0⟩] scope pos) (eLcM fi p bt f (own.map (·.2))) := pe_mono (pe_lc hc hN hi ok hg ht he hs) fun _ _ _ h => lc_of hv h
/-- name = [..] on one line -/
theorem pds_setLc {i : Nat} {y : Str} {py : Pos} {elt tg iter : Expr} {ifs : List Expr} {scope : Scope} {own : List (Str × Nat)} {pos spos : Pos} {fi : IF} {p : Pt} {bt : BF} {f : EF} {trim : Bool} (hc : X.calm = true) (hN : X.N.Nodup) (hy : X.N[i]? = some y) (hyl : X.env.scope.names.lookup y = some .local)
    (hsw : swapsWith (.ListComp elt [⟨tg, iter, ifs, 0⟩] scope pos) (some (.Name y py)) spos.line X.env = pure true) (hi : PDI X W tg iter fi) (ok : BlkOk X.N X.env.scope scope own) (hv : ∀ i ∈ p.ixs, i ∈ own.map (·.2))
    (hg : ∀ (s : Shared) (H : Hp) (C : Addr) (cl : List (Str × Addr)) (fp : List Addr), PP (X.blk s H scope (compEnvC scope cl C X.env) fp) tg p) (ht : ∀ (s : Shared) (H : Hp) (C : Addr) (cl : List (Str × Addr)) (fp : List Addr), PDTs (X.blk s H scope (compEnvC scope cl C X.env) fp) W0 ifs bt)
    (he : ∀ (s : Shared) (H : Hp) (C : Addr) (cl : List (Str × Addr)) (fp : List Addr), PD (X.blk s H scope (compEnvC scope cl C X.env) fp) W0 elt f) (hs : ∀ x, foldedSetIterable iter X.env x = pure x := by intro _; rfl) :
    PDS X W (.Assign [.Name y py] (.ListComp elt [⟨tg, iter, ifs, 0⟩] scope pos) spos) (sAsg (cond trim (eLc fi p bt f (own.map (·.2))) (eLcM fi p bt f (own.map (·.2)))) (gN i)) := ps_mono (ps_setLc (wi := rdI X.K W fi) (g := tPt X.K p) (tt := rdB X.K W0 bt) (te := rd X.K W0 f) hc hN hy hyl hsw hi ok hg ht he hs) fun σ H E ⟨ρ, δ, M, hE, hS, h⟩ => by
  refine lc_of (W := W) (bt := bt) (f := f) hv ?_
  have h2 := rd_bindS (f := cond trim (eLc fi p bt f (own.map (·.2))) (eLcM fi p bt f (own.map (·.2)))) (g := fun d δ M => noRet (gN i d δ M)) hE hS h
  have h3 : rd X.K W (eLcM fi p bt f (own.map (·.2))) σ H fun x H1 => ∃ ρ1 d M1, Nx ρ H ρ1 H1 ∧ DenE X.K ρ1 (frz ρ1 H1) δ σ ∧ StOk X.K ρ1 M1 H1 ∧ Den X.K ρ1 (frz ρ1 H1) d x ∧ ResS X.K W ρ1 H1 E (noRet (gN i d δ M1)) := by
    cases trim with
    | false => exact h2
    | true => exact rd_trim h2
  exact rd_mono h3 fun x H1 ⟨ρ1, d1, M1, n1, e1, s1, r1, q1⟩ => q1 ρ1 _ H1 Nx.refl s1 (e1.set r1 i)
end
end L2.MK

end

section
set_option Elab.async false
set_option linter.all false
set_option maxRecDepth 100000
set_option maxHeartbeats 2000000
set_option autoImplicit false
/-! raise, try; setdefault. -/
namespace L2.MK
open PySem PySem.Spec PyProof.Rows PySem.W

/-! ### raise -/
abbrev MkF := Env → Ev (Str × List (Str × D))
def ResM (K : Frag) (W' : Value → Option Addr → Hp → Prop) (ρ : List (Option Addr)) (H : Hp) (Q : XK) : Out (Str × List (Str × D)) → Prop
  | .ok p M' => ∀ ρ' d H', Nx ρ H ρ' H' → StOk K ρ' M' H' → ExD K ρ' (frz ρ' H') p.2 d → Q (.ref (He.ga K p.1)) d H'
  | .exc C fs M' => ∀ ρ' d H', Nx ρ H ρ' H' → StOk K ρ' M' H' → ExD K ρ' (frz ρ' H') fs d → W' (.ref (He.ga K C)) d H'
  | .stuck => False
def rdM (K : Frag) (W : WX) (f : MkF) : L2.St → Hp → XK → Prop := fun σ H Q => ∃ ρ δ M, DenE K ρ (frz ρ H) δ σ ∧ StOk K ρ M H ∧ ResM K (fun c d H' => W c d σ H') ρ H Q (f δ M)
def PDM (X : Cx) (W : WX) (e : Expr) (f : MkF) : Prop := PMk X e (rdM X.K W f)
theorem pmk_mono {X : Cx} {e : Expr} {t t' : L2.St → Hp → XK → Prop} (h : PMk X e t) (m : ∀ σ H Q, t' σ H Q → t σ H Q) : PMk X e t' := fun pins s σ H Q I q => h pins s σ H Q I (m σ H Q q)
def sRaise (f : MkF) : SF := fun δ M => match f δ M with
  | .ok p M' => .exc p.1 p.2 δ M'
  | .exc C fs M' => .exc C fs δ M'
  | .stuck => .stuck
section
variable {X : Cx} {W : WX} {x m : Str} {e : Expr} {es : List Expr} {f : MkF} {fa : AF} {p p2 pos : Pos} {j : Nat}
theorem pds_raise (hc : X.calm = true) (tk : Takes X W) (he : PDM X W e f) : PDS X W (.Raise (some e) none pos) (sRaise f) := ps_mono (ps_raise hc tk he) fun σ H E ⟨ρ, δ, M, hE, hS, h⟩ => by
  refine ⟨ρ, δ, M, hE, hS, ?_⟩
  unfold sRaise at h
  cases e1 : f δ M with
  | stuck => rw [e1] at h; exact h
  | exc C fs M' => rw [e1] at h; exact fun ρ' d H' n s r => h ρ' d σ H' n s (hE.mono n.ext) r
  | ok q M' => rw [e1] at h; exact fun ρ' d H' n s r => h ρ' d σ H' n s (hE.mono n.ext) r
/-- C('..') of a class without an own __init__ -/
def mkC (C : Str) : MkF := fun _ => Ev.pure (C, [])
theorem pdm_c {bmB : List Value} {B newId initId : String} (F : ExcBaseFacts B newId initId bmB) (q : PySem.W.excIn X.K (He.ga X.K x) bmB newId = true) (gC : X.mg x = some (.ref (He.ga X.K x))) (kC : PySem.W.keepIn X.K (.ref (He.ga X.K x)) = true) (r : Raises X (.ref (He.ga X.K x))) (hg : Gl X x)
    (hdb : (x == ("__debug__" : Str)) = false := by decide) : PDM X W (.Call (.Name x p) [.Constant (.str m) j p2] [] pos) (mkC x) :=
  pmk_mono (pmk_own F q gC kC r hg hdb) fun σ H Q ⟨ρ, δ, M, hE, hS, h⟩ => h ρ none H Nx.refl hS (.inl ⟨rfl, rfl⟩)
/-- what an __init__ of an exception with one field promises -/
def spXI (K : Frag) (C : Addr) (fld : Str) : Sp := fun vs H Q _ => ∃ (a : Addr) (v : V), vs = [.ref a, v] ∧ H a = some (exo a C none) ∧ OexC K C ∧ findIn K (.ref C) fld = some none ∧ ∀ dx, H dx = none → dx ≠ a → Q .non (upd (upd H dx (exd dx [(fld, v)])) a (exo a C (some dx)))
theorem okXI {P : Program} {w : World} {K : Frag} {mg : Str → Option Value} {base : Heap} {k : Nat} {f : Addr} {fd : FuncData} {y qual self arg m fld : Str} {params : Arguments} {body : List Stmt} {scope : Scope} {C : Addr} (F : FunD K y qual params body scope [] [] f fd) (S : FnScope [self, arg] [self, arg] scope)
    (hbody : ∀ (cdv : Value) (A : Around) (outer : List PySem.Env) (s : Shared) (H : Hp) (E : XK), Room k (A.deeper (envOfC qual scope s.heap.objs.size f cdv)) →
      PSs (cxOf (CX P w) P w K mg base [self, arg] qual scope f cdv A outer s H E) body (tSeq (tDrop (tVeI K (tCons (tVar 0) (tCons (tC (.str m)) tNil)))) (tOst K fld (tVar 0) (tVar 1)))) : FnOk P w K mg base (CX P w) (k + 1) f fd [self, arg] (spXI K C fld) := by
  refine F.ok S (fun vs H Q E h => ?_) fun cdv A outer s H vs Q E hr h => ⟨_, hbody cdv A outer s H E hr, ?_⟩
  · obtain ⟨a, v, rfl, _⟩ := h; rfl
  · obtain ⟨a, v, rfl, ha, ox, hno, hq⟩ := h
    exact ⟨.ref a, rfl, a, C, [.str m], rfl, (by show 1 ≤ 1000; decide), ox, ha, v, rfl, .ref a, rfl, a, C, rfl, ox, hno, .inl ⟨ha, fun dx n ne => hq dx n ne⟩⟩
def one : List D → Ev D
  | [d] => Ev.pure d
  | _ => Ev.fail
def mkX (C fld : Str) (fa : AF) : MkF := fun δ => fa δ >>= fun ds => one ds >>= fun v => Ev.pure (C, [(fld, v)])
theorem del_upd {H : Hp} {a : Addr} (ha : H a = none) {o : HO} : ∀ b o', H b = some o' → (del (upd H a o) a) b = some o' := fun b o' e => by
  have ne := ne_of_none e ha
  rw [del_ne ne, upd_ne ne]; exact e
theorem pdm_x {fld : Str} {k : Nat} {fI : Addr} {fd : FuncData} {ps : List Str} {dl : Nat} (T : OexC X.K (He.ga X.K x)) (hno : findIn X.K (.ref (He.ga X.K x)) fld = some none) (iC : findIn X.K (.ref (He.ga X.K x)) "__init__" = some (some (.ref fI))) (tI : typeIn X.K (.ref fI) = some (.type "function"))
    (F1 : FnOk X.prog X.w X.K X.mg X.base (CX X.prog X.w) k fI fd ps (spXI X.K (He.ga X.K x) fld)) (hr : Room (k + 1) X.A) (hb : Binds X.K fd ps []) (tk : Takes X W) (hg : Gl X x) (hm : X.mg x = some (.ref (He.ga X.K x))) (ha : PDA X W (e :: es) fa)
    (hdb : (x == ("__debug__" : Str)) = false := by decide) (he : starEach (e :: es) X.env = (false, eval e X.env) :: starEach es X.env := by rfl) (hpl : (backTo pos (starEach es X.env)).any (·.1) = false := by rfl) :
    PDM X W (.Call (.Name x p) (e :: es) [] pos) (mkX x fld fa) :=
  pmk_mono (pmk_oex (ds := []) (dvs := []) T iC tI F1 hr hb .nil (passes_call tk fun _ _ _ _ z => z.elim) hg hm ha hdb he hpl) fun σ H Q ⟨ρ, δ, M, hE, hS, h⟩ => by
    refine ⟨ρ, δ, M, hE, hS, ?_⟩
    replace h : ResM X.K (fun c d H' => W c d σ H') ρ H Q ((fa δ >>= fun ds => one ds >>= fun v => Ev.pure (x, [(fld, v)])) M) := h
    rw [Ev.bind_run] at h
    cases e1 : fa δ M with
    | stuck => rw [e1] at h; exact h
    | exc C fs M' => rw [e1] at h; exact h
    | ok ds M' =>
      rw [e1] at h
      intro ρ1 vs H1 n1 s1 r1
      cases r1 with
      | nil => exact h.elim
      | @cons d v ds' vs' r1 r2 =>
        cases r2 with
        | cons _ _ => exact h.elim
        | nil =>
          refine ⟨by simp, fun a ha => ⟨a, v, rfl, upd_same, T, hno, fun dx hdx ne => ⟨rfl, dx, [(fld, v)], upd_same, ?_, ?_, ?_⟩⟩⟩
          · rw [upd_ne ne, upd_same]
          · rw [upd_ne ne] at hdx; exact hdx
          · have hdx' : H1 dx = none := by rw [upd_ne ne] at hdx; exact hdx
            have sm : Same H1 (upd (del (upd (upd (upd H1 a (exo a (He.ga X.K x) none)) dx (exd dx [(fld, v)])) a (exo a (He.ga X.K x) (some dx))) a) dx (.xd [(fld, v)])) := fun b o eb => by
              have n1 := ne_of_none eb ha
              have n2 := ne_of_none eb hdx'
              rw [upd_ne n2, del_ne n1, upd_ne n1, upd_ne n2, upd_ne n1]; exact eb
            have n2 := Nx.of_same (ρ := ρ1) sm
            have s2 := s1.same sm
            refine h ρ1 (some dx) _ (n1.trans n2) s2 (.inr ⟨dx, [(fld, v)], rfl, frz_at (s1.notin hdx') upd_same, .cons (r1.mono n2.ext) .nil⟩)

/-! ### try: .. except C as n: .. -/
def unsetO (i : Nat) : SO → SO
  | .nx δ M => .nx (δ.set i none) M
  | .ret d M => .ret d M
  | _ => .stuck
def sTry (K : Frag) (cv : Value) (i : Nat) (fb fs : SF) : SF := fun δ M => match fb δ M with
  | .exc C xs δ' M' => (match exmOne K (.ref (He.ga K C)) cv with
    | some true => unsetO i (fs (δ'.set i (some (.exc C xs))) M')
    | some false => .exc C xs δ' M'
    | none => .stuck)
  | o => o
theorem pds_try {c : Value} {i : Nat} {n : Str} {body suite : List Stmt} {b₀ : Stmt} {np pos' : Pos} {fb fs : SF} (hs : X.stack = X.env :: X.outer) (hf : X.env.frame = some X.env.locals) (hN : X.N.Nodup) (hi : X.N[i]? = some n) (hln : X.env.kindOf n = some .local) (hc : Names X x c) (tk : Takes X W)
    (hex : ∀ b o, X.s_0.heap.get? b = some o → X.H_0 b = none → b ∈ X.ex → False)
    (hb : ∀ (W' : WX) (pn : List (Addr × Obj)) (xe : Value → Shared → Prop), Takes (X.tr pn xe) W' → PassesOwn (model X.prog X.w) X.A X.env xe → PDSs (X.tr pn xe) W' body fb)
    (hsu : ∀ (a : Addr) (pn : List (Addr × Obj)), PDSs (X.suite a pn) W0 (b₀ :: suite) fs) :
    PDS X W (.Try body [.ExceptHandler (some (.Name x np)) (some n) (b₀ :: suite) pos'] [] [] pos) (sTry X.K c i fb fs) :=
  ps_mono (ps_try_keep (tb := fun W' => rdS X.K W' fb) (ts := fun _ _ _ => rdS X.K W0 fs) hs hf hN hi hln hc tk hex (fun W' pn xe t1 t2 => hb W' pn xe t1 t2) (fun a cls d pn => hsu a pn)) fun σ H E ⟨ρ, δ, M, hE, hS, h⟩ => by
    refine ⟨ρ, δ, M, hE, hS, ?_⟩
    unfold sTry at h
    cases e1 : fb δ M with
    | nx δ' M' => rw [e1] at h; exact h
    | ret d M' => rw [e1] at h; exact h
    | stuck => rw [e1] at h; exact h
    | exc C xs δ' M' =>
      rw [e1] at h
      intro ρ1 d σ1 H1 n1 s1 E1 x1
      replace h : ResS X.K W ρ H E (match exmOne X.K (.ref (He.ga X.K C)) c with
        | some true => unsetO i (fs (δ'.set i (some (.exc C xs))) M')
        | some false => .exc C xs δ' M'
        | none => .stuck) := h
      cases e2 : exmOne X.K (.ref (He.ga X.K C)) c with
      | none => rw [e2] at h; exact h.elim
      | some b =>
        rw [e2] at h
        refine ⟨b, e2, fun hb a ha => ?_, fun hb => ?_⟩
        · subst hb
          have n2 := Nx.new (ρ := ρ1) (o := exk a (.ref (He.ga X.K C)) d) ha
          have s2 := s1.new (o := exk a (.ref (He.ga X.K C)) d) ha
          have x2 := x1.mono n2.ext
          have dn : Den X.K ρ1 (frz ρ1 (upd H1 a (exk a (.ref (He.ga X.K C)) d))) (.exc C xs) (.ref a) := by
            have h0 : frz ρ1 (upd H1 a (exk a (.ref (He.ga X.K C)) d)) a = some (exk a (.ref (He.ga X.K C)) d) := frz_at (s1.notin ha) upd_same
            rcases x2 with ⟨rfl, rfl⟩ | ⟨dd, vfs, rfl, h3, h4⟩
            · exact .exc (d := none) (vfs := []) h0 (fun dd z => nomatch z) (fun _ => rfl) .nil
            · exact .exc h0 (fun dd' z => by cases z; exact h3) (fun z => nomatch z) h4
          refine ⟨ρ1, δ'.set i (some (.exc C xs)), M', (E1.mono n2.ext).set dn i, s2, ?_⟩
          have h := ResS.nx (n1.trans n2) h
          cases e3 : fs (δ'.set i (some (.exc C xs))) M' with
          | stuck => rw [e3] at h; exact h
          | exc C' xs' δ'' M'' => rw [e3] at h; exact h.elim
          | ret d' M'' => rw [e3] at h; exact h
          | nx δ'' M'' => rw [e3] at h; exact fun ρ3 σ3 H3 n3 s3 E3 => h ρ3 _ H3 n3 s3 (E3.unset i)
        · subst hb
          exact h ρ1 d σ1 H1 n1 s1 E1 x1
end
end L2.MK

end

section
set_option Elab.async false
set_option linter.all false
set_option maxRecDepth 100000
set_option maxHeartbeats 2000000
set_option autoImplicit false
/-! setdefault; sorted({..}). -/
namespace L2.MK
open PySem PySem.Spec PyProof.Rows PySem.W

section
variable {X : Cx} {W : WX} {o e f : Expr} {fo fe ff : EF} {apos cpos pos : Pos}
def dctD (M : Sto) : D → Option (List (Key × D))
  | .ref i => (match M[i]? with
    | some (.dK kvs) => some kvs
    | _ => none)
  | _ => none
def evSetd (d y z : D) : Ev D := fun M => match d, keyD y with
  | .ref i, some k => (match M[i]? with
    | some (.dK kvs) => if kvs.length < sizeLine then (match valG kvs k with
      | some v => .ok v M
      | none => .ok z (M.set i (.dK (putG kvs k z)))) else .stuck
    | _ => .stuck)
  | _, _ => .stuck
def evIsD (d : D) : Ev Unit := fun M => match dctD M d with
  | some _ => .ok () M
  | none => .stuck
def eSetd (fo fe ff : EF) : EF := fun δ => fo δ >>= fun d => evIsD d >>= fun _ => fe δ >>= fun y => ff δ >>= fun z => evSetd d y z
theorem pd_setd (ho : PD X W o fo) (he : PD X W e fe) (hf : PD X W f ff) (m : L2.M2 X o "setdefault" apos e f cpos) : PD X W (.Call (.Attribute o "setdefault" apos) [e, f] [] cpos) (eSetd fo fe ff) := pe_mono (pe_dsetd ho he hf m) fun σ H Q ⟨ρ, δ, M, hE, hS, h⟩ =>
  rd_mono (rd_bind (f := fo) (g := fun d => evIsD d >>= fun _ => fe δ >>= fun y => ff δ >>= fun z => evSetd d y z) hE hS h) fun x H1 ⟨ρ1, d1, M1, n1, e1, s1, r1, h1⟩ => by
    rw [Ev.bind_run] at h1
    unfold evIsD at h1
    cases q1 : dctD M1 d1 with
    | none => rw [q1] at h1; exact h1.elim
    | some kvs1 =>
      rw [q1] at h1
      unfold dctD at q1
      split at q1
      · rename_i i
        split at q1
        · rename_i kvs0 q2
          cases q1
          obtain ⟨a, ws, rfl, at1, h2, h3⟩ := dct_at s1 r1 q2
          refine ⟨a, rfl, .inl ⟨ws, .of h2⟩, ?_⟩
          exact rd_mono (rd_bind (f := fe) (g := fun y => ff δ >>= fun z => evSetd (.ref i) y z) e1 s1 h1) fun y H2 ⟨ρ2, d2, M2, n2, e2, s2, r2, h4⟩ =>
            rd_mono (rd_bind (f := ff) (g := fun z => evSetd (.ref i) d2 z) e2 s2 h4) fun z H3 ⟨ρ3, d3, M3, n3, e3, s3, r3, h5⟩ => by
              have r1' := (r1.mono n2.ext).mono n3.ext
              have r2' := r2.mono n3.ext
              unfold evSetd at h5
              cases k1 : keyD d2 with
              | none => simp only [k1] at h5; exact h5.elim
              | some k =>
                simp only [k1] at h5
                cases k2 : M3[i]? with
                | none => simp only [k2] at h5; exact h5.elim
                | some m3 =>
                  simp only [k2] at h5
                  cases m3 with
                  | dK kvs3 =>
                    simp only at h5
                    by_cases hl : kvs3.length < sizeLine
                    · rw [if_pos hl] at h5
                      obtain ⟨a', ws', ea, at3, h6, h7⟩ := dct_at s3 r1' k2
                      cases ea
                      have ey := keyD_of r2' k1
                      refine ⟨ws', k, h6, ey, by rw [← h7.length]; exact hl, fun v hv => ?_, fun hv => ?_⟩
                      · rcases h7.val k with ⟨d', v', g1, g2, g3⟩ | ⟨g1, g2⟩
                        · rw [hv] at g2
                          cases g2
                          simp only [g1] at h5
                          exact h5.here s3 g3
                        · rw [hv] at g2; cases g2
                      · rcases h7.val k with ⟨d', v', g1, g2, g3⟩ | ⟨g1, g2⟩
                        · rw [hv] at g2; cases g2
                        · simp only [g1] at h5
                          have n4 := Nx.write (H := H3) (o := .dK (putK ws' k z)) at3 (fun φ q => by rw [h6] at q; cases q)
                          exact h5 ρ3 z _ n4 (s3.write at3 (fun φ q => by rw [h6] at q; cases q) ⟨_, upd_same, (h7.mono n4.ext).put k (r3.mono n4.ext)⟩) (r3.mono n4.ext)
                    · rw [if_neg hl] at h5; exact h5.elim
                  | _ => exact h5.elim
        · cases q1
      · cases q1

/-! ### sorted({elt for tg in iter for tg1 in iter1}), texts -/
/-- the inner turns: what was met, behind the former -/
def sc1O (it : ID) (p : Pt) (bt : BF) (f : EF) (δw : Env) : Nat → Nat → List Str → Sto → Out (List Str)
  | 0, i, acc => fun M => match it M i with
    | some none => .ok acc M
    | _ => .stuck
  | r + 1, i, acc => fun M => match it M i with
    | some none => .ok acc M
    | some (some d) => (match setPt M p d δw with
      | some δ1 => (match bt δ1 M with
        | .ok false M2 => sc1O it p bt f δw r (i + 1) acc M2
        | .ok true M2 => (match f δ1 M2 with
          | .ok (.str y) M3 => if acc.length < 1000 then sc1O it p bt f δw r (i + 1) (acc ++ [y]) M3 else .stuck
          | _ => .stuck)
        | _ => .stuck)
      | none => .stuck)
    | none => .stuck
def scO (it : ID) (p : Pt) (bt : BF) (fi1 : IF) (p1 : Pt) (bt1 : BF) (f : EF) (δw : Env) (vs1 : List Nat) : Nat → Nat → List Str → Sto → Out (List Str)
  | 0, i, acc => fun M => match it M i with
    | some none => .ok acc M
    | _ => .stuck
  | r + 1, i, acc => fun M => match it M i with
    | some none => .ok acc M
    | some (some d) => (match setPt M p d δw with
      | some δ1 => (match bt δ1 M with
        | .ok false M2 => scO it p bt fi1 p1 bt1 f δw vs1 r (i + 1) acc M2
        | .ok true M2 => (match fi1 δ1 M2 with
          | .ok q M3 => (match sc1O q.2 p1 bt1 f (wipeD δ1 vs1) q.1 0 acc M3 with
            | .ok acc' M4 => scO it p bt fi1 p1 bt1 f δw vs1 r (i + 1) acc' M4
            | _ => .stuck)
          | _ => .stuck)
        | _ => .stuck)
      | none => .stuck)
    | none => .stuck
def eSortSc (fi : IF) (p : Pt) (bt : BF) (fi1 : IF) (p1 : Pt) (bt1 : BF) (f : EF) (vs vs1 : List Nat) : EF := fun δ M => match fi δ M with
  | .ok q M1 => (match scO q.2 p bt fi1 p1 bt1 f (wipeD δ vs) vs1 q.1 0 [] (M1 ++ [.opq]) with
    | .ok acc M2 => if acc.length < 1000 then trimO M.length (.ok (.lst ((sortU acc).map .str)) M2) else .stuck
    | _ => .stuck)
  | .exc C fs M1 => .exc C fs M1
  | .stuck => .stuck
end
end L2.MK

end

section
set_option Elab.async false
set_option linter.all false
set_option maxRecDepth 100000
set_option maxHeartbeats 2000000
set_option autoImplicit false
/-! sorted({elt for tg in iter for tg1 in iter1}). -/
namespace L2.MK
open PySem PySem.Spec PyProof.Rows PySem.W

section
variable {X : Cx} {W : WX}
/-- sorted(set) of texts, the set counted -/
def rSortB (w : World) : List V → Hp → VK → Prop := fun xs H Q => ∃ (a : Addr) (S : Key → Bool) (n : Nat) (ks : List Str), xs = [.ref a] ∧ H a = some (SetBk w a S n) ∧ (∀ k, S k = (ks.map Sum.inr).any fun x => decide (x = k)) ∧ ∀ p, H p = none → Q (.ref p) (upd H p (.lst ((sortU ks).map V.str)))
theorem call_sortB (hc : X.calm = true) (hu : X.A.units + 64 < cLine) : CallR X (.builtin "sorted") (rSortB X.w) := by
  intro pins s σ H xs us Q I r h
  obtain ⟨a, S, n, ks, rfl, ha, hS, q⟩ := h
  obtain ⟨u, rfl, ru⟩ := vals1 r
  cases ru
  have R0 : SetB X.w s.heap a S n := (I.hok a _ ha).1
  have R : SetKs X.w s.heap a (fun k => (ks.map Sum.inr).any fun x => decide (x = k)) := ⟨n, R0.congr fun k => (hS k).symm⟩
  refine sorted_keys (I.ok.hd hc) hu R fun s' p out c kp hg ho' hp hget hs hl => ?_
  have hn : H p = none := I.hok.fresh hp
  have new : ObjOk X.prog X.w (upd H p (.lst ((sortU ks).map V.str))) s'.heap p (.lst ((sortU ks).map V.str)) := ⟨by rw [List.length_map]; exact hl, out, c, vals_strs hs, hget⟩
  exact inv_out (I.call (g' := s'.gens) (d' := s'.drawn) (t' := s'.toks) (ch := []) (Un.laid kp hp hn) (I.hok.laid kp hp new) (by rw [hg]; exact I.bare) (fun _ z => nomatch z)) ho' (v := .ref p) rfl (q p hn)
/-- the set at D has just these texts -/
def SetIs (w : World) (H : Hp) (D : Addr) (acc : List Str) : Prop := ∃ (S : Key → Bool) (n : Nat), H D = some (SetBk w D S n) ∧ n ≤ acc.length ∧ ∀ k, S k = (acc.map Sum.inr).any fun x => decide (x = k)
theorem SetIs.nx {w : World} {ρ ρ' : List (Option Addr)} {H H' : Hp} {D : Addr} {acc : List Str} (h : SetIs w H D acc) (m : some D ∈ ρ) (n : Nx ρ H ρ' H') : SetIs w H' D acc := by
  obtain ⟨S, k, h1, h2⟩ := h
  exact ⟨S, k, n.exts D _ m h1, h2⟩
/-- one thing more in the set -/
theorem Nx.wset {w : World} {ρ1 ρ : List (Option Addr)} {H1 H : Hp} {D : Addr} {o : HO} (n : Nx ρ1 H1 ρ H) (hD : H1 D = none) (m : some D ∈ ρ) : Nx ρ1 H1 ρ (upd H D o) := ⟨n.refs, fun b u e => by
  obtain ⟨n1, e1⟩ := frz_of (n.same b u e)
  refine frz_at n1 ?_
  rw [upd_ne (fun z => n1 (by rw [z]; exact m))]
  exact e1, n.len, fun b φ mb e => by
  rw [upd_ne (ne_of_none e hD)]
  exact n.exts b φ mb e⟩
theorem frz_wset {ρ : List (Option Addr)} {H : Hp} {D : Addr} {o : HO} (m : some D ∈ ρ) : Same (frz ρ H) (frz ρ (upd H D o)) := fun b u e => by
  obtain ⟨n1, e1⟩ := frz_of e
  refine frz_at n1 ?_
  rw [upd_ne (fun z => n1 (by rw [z]; exact m))]
  exact e1
theorem StOk.wset {K : Frag} {ρ : List (Option Addr)} {M : Sto} {H : Hp} {D : Addr} {o : HO} {i0 : Nat} (S : StOk K ρ M H) (at0 : ρ[i0]? = some (some D)) (hx : ∃ φ, H D = some (.ext φ)) : StOk K ρ M (upd H D o) := by
  have x : Ext ρ ρ (frz ρ H) (frz ρ (upd H D o)) := ⟨fun _ _ h => h, frz_wset (List.mem_of_getElem? at0)⟩
  refine ⟨S.len, S.inj, fun i a h => ?_, S.dead⟩
  obtain ⟨m, h1, h2⟩ := S.at_ i a h
  refine ⟨m, h1, ?_⟩
  obtain ⟨φ, hφ⟩ := hx
  by_cases e : a = D
  · subst e
    cases m with
    | lst ds => obtain ⟨vs, h3, _⟩ := h2; rw [hφ] at h3; cases h3
    | dK ds => obtain ⟨vs, h3, _⟩ := h2; rw [hφ] at h3; cases h3
    | ins C fs => obtain ⟨dx, vs, h3, _⟩ := h2; rw [hφ] at h3; cases h3
    | opq => exact ⟨_, upd_same⟩
    | dead => exact h2
  · cases m with
    | lst ds => obtain ⟨vs, h3, h4⟩ := h2; exact ⟨vs, by rw [upd_ne e]; exact h3, h4.mono x⟩
    | dK ds => obtain ⟨vs, h3, h4⟩ := h2; exact ⟨vs, by rw [upd_ne e]; exact h3, h4.mono x⟩
    | ins C fs => obtain ⟨dx, vs, h3, h4⟩ := h2; exact ⟨dx, vs, by rw [upd_ne e]; exact h3, h4.mono x⟩
    | opq => obtain ⟨o', h3⟩ := h2; exact ⟨o', by rw [upd_ne e]; exact h3⟩
    | dead => exact h2
/-- the end of the turns -/
def PEnd (P : List Str → Sto → Prop) : Out (List Str) → Prop
  | .ok acc M => P acc M
  | _ => False
theorem ext_trans {ρ ρ' ρ2 : List (Option Addr)} {Φ Φ' Φ2 : Hp} (a : Ext ρ ρ' Φ Φ') (b : Ext ρ' ρ2 Φ' Φ2) : Ext ρ ρ2 Φ Φ2 := ⟨fun i x h => b.refs i x (a.refs i x h), fun c o h => b.same c o (a.same c o h)⟩
theorem sc_of {K : Frag} {fi fi1 : IF} {p p1 : Pt} {bt bt1 : BF} {f : EF} {vs vs1 : List Nat} {σ : L2.St} {H : Hp} {Q : VK} (hv : ∀ i ∈ p.ixs, i ∈ vs) (hv1 : ∀ i ∈ p1.ixs, i ∈ vs1) (w : World) (h : rd K W (eSortSc fi p bt fi1 p1 bt1 f vs vs1) σ H Q) :
    tSc2 w (rdI K W fi) (tPt K p) (rdB K W0 bt) (rdI K W0 fi1) (tPt K p1) (rdB K W0 bt1) (rd K W0 f) vs vs1 σ H fun x H1 => rSortB w [x] H1 Q := by
  obtain ⟨ρ, δ, M, hE, hS, h⟩ := h
  refine ⟨ρ, δ, M, hE, hS, ?_⟩
  unfold eSortSc at h
  cases e : fi δ M with
  | stuck => rw [e] at h; exact h
  | exc C fs M' => rw [e] at h; exact h
  | ok q M1 =>
    rw [e] at h
    intro ρ1 J H1 n1 S1 ok Dd hD
    have n2 := Nx.push (ρ := ρ1) (o := SetBk w Dd (fun _ => false) 0) hD
    have S2 : StOk K (ρ1 ++ [some Dd]) (M1 ++ [.opq]) (upd H1 Dd (SetBk w Dd (fun _ => false) 0)) := S1.push hD ⟨_, upd_same⟩
    have at0 : (ρ1 ++ [some Dd])[M1.length]? = some (some Dd) := by
      rw [← S1.len, List.getElem?_append_right (Nat.le_refl _)]
      simp
    have E2 := ((hE.mono n1.ext).mono n2.ext).wipe vs
    -- what the end is to give
    replace h : Res K (fun c d H' => W c d σ H') ρ H Q (match scO q.2 p bt fi1 p1 bt1 f (wipeD δ vs) vs1 q.1 0 [] (M1 ++ [.opq]) with
      | .ok acc M2 => if acc.length < 1000 then trimO M.length (.ok (.lst ((sortU acc).map .str)) M2) else .stuck
      | _ => .stuck) := h
    have fin : PEnd (fun acc M2 => acc.length < 1000 ∧ Res K (fun c d H' => W c d σ H') ρ H Q (.ok (.lst ((sortU acc).map .str)) M2)) (scO q.2 p bt fi1 p1 bt1 f (wipeD δ vs) vs1 q.1 0 [] (M1 ++ [.opq])) := by
      revert h
      generalize scO q.2 p bt fi1 p1 bt1 f (wipeD δ vs) vs1 q.1 0 [] (M1 ++ [.opq]) = r
      intro h
      cases r with
      | stuck => exact h.elim
      | exc C fs M' => exact h.elim
      | ok acc M2 =>
        replace h : Res K (fun c d H' => W c d σ H') ρ H Q (if acc.length < 1000 then trimO M.length (.ok (.lst ((sortU acc).map .str)) M2) else .stuck) := h
        by_cases hl : acc.length < 1000
        · rw [if_pos hl] at h
          exact ⟨hl, trim_of hS.len h⟩
        · rw [if_neg hl] at h; exact h.elim
    have hq : q = (q.1, q.2) := rfl
    generalize hP : (fun (acc : List Str) (M2 : Sto) => acc.length < 1000 ∧ Res K (fun c d H' => W c d σ H') ρ H Q (.ok (.lst ((sortU acc).map .str)) M2)) = P at fin
    refine ⟨fun i m H3 => ∃ ρ3 M3 acc, Nx ρ1 H1 ρ3 H3 ∧ ρ3[M1.length]? = some (some Dd) ∧ DenE K ρ3 (frz ρ3 H3) (wipeD δ vs) (L2.wipe σ vs) ∧ StOk K ρ3 M3 H3 ∧ SetIs w H3 Dd acc ∧ PEnd P (scO q.2 p bt fi1 p1 bt1 f (wipeD δ vs) vs1 m i acc M3), ⟨q.1, ρ1 ++ [some Dd], M1 ++ [.opq], [], n2, at0, E2, S2, ⟨fun _ => false, 0, upd_same, Nat.le_refl _, fun k => rfl⟩, fin⟩, ?_⟩
    rintro i m H3 ⟨ρ3, M3, acc, n3, at3, E3, S3, set3, p3⟩
    obtain ⟨o1, o2⟩ := ok i ρ3 H3 M3 n3.ext S3
    cases e3 : q.2 M3 i with
    | none => cases m <;> (unfold scO at p3; rw [e3] at p3; exact p3.elim)
    | some z =>
      cases z with
      | none =>
        refine .inl ⟨o1 e3, ?_⟩
        have pe : P acc M3 := by cases m <;> (unfold scO at p3; rw [e3] at p3; exact p3)
        rw [← hP] at pe
        obtain ⟨S, n, a1, a2, a3⟩ := set3
        refine ⟨Dd, S, n, acc, rfl, a1, a3, fun pp hp => ?_⟩
        have n4 := Nx.new (ρ := ρ3) (o := .lst ((sortU acc).map V.str)) hp
        exact pe.2 ρ3 _ _ ((n1.trans n3).trans n4) (S3.new hp) (.lst (frz_at (S3.notin hp) upd_same) (dens_strs _))
      | some d =>
        cases m with
        | zero => unfold scO at p3; rw [e3] at p3; exact p3.elim
        | succ m =>
          unfold scO at p3
          rw [e3] at p3
          obtain ⟨go, yl⟩ := o2 d e3
          refine .inr ⟨go, fun H' => ∃ ρ3 M3 acc, Nx ρ1 H1 ρ3 H' ∧ ρ3[M1.length]? = some (some Dd) ∧ DenE K ρ3 (frz ρ3 H') (wipeD δ vs) (L2.wipe σ vs) ∧ StOk K ρ3 M3 H' ∧ SetIs w H' Dd acc ∧ PEnd P (scO q.2 p bt fi1 p1 bt1 f (wipeD δ vs) vs1 m (i + 1) acc M3), fun H' z => ⟨m, Nat.lt_succ_self _, z⟩, fun x H4 y => ?_⟩
          obtain ⟨n4, S4, r4⟩ := yl x H4 y
          have m3 := List.mem_of_getElem? at3
          cases e4 : setPt M3 p d (wipeD δ vs) with
          | none => simp only [e4] at p3; exact p3.elim
          | some δ1 =>
            simp only [e4] at p3
            refine pt_of S4 p r4 (E3.mono n4.ext) e4 hv fun σ2 E5 w5 => ⟨by rw [w5]; exact wipe_idem, ρ3, δ1, M3, E5, S4, ?_⟩
            have set4 := set3.nx m3 n4
            cases e5 : bt δ1 M3 with
            | stuck => simp only [e5] at p3; exact p3.elim
            | exc C fs M' => simp only [e5] at p3; exact p3.elim
            | ok b M5 =>
              cases b with
              | false =>
                simp only [e5] at p3
                intro ρ6 H6 n6 S6
                rw [if_neg Bool.false_ne_true]
                exact ⟨ρ6, M5, acc, (n3.trans n4).trans n6, n6.refs _ _ at3, (E3.mono n4.ext).mono n6.ext, S6, set4.nx m3 n6, p3⟩
              | true =>
                simp only [e5] at p3
                intro ρ6 H6 n6 S6
                rw [if_pos rfl]
                have at6 := n6.refs _ _ at3
                have set6 := set4.nx m3 n6
                refine ⟨ρ6, δ1, M5, E5.mono n6.ext, S6, ?_⟩
                cases e6 : fi1 δ1 M5 with
                | stuck => simp only [e6] at p3; exact p3.elim
                | exc C fs M' => simp only [e6] at p3; exact p3.elim
                | ok q1 M6 =>
                  simp only [e6] at p3
                  intro ρ7 J1 H7 n7 S7 ok1
                  have at7 := n7.refs _ _ at6
                  have set7 := set6.nx (List.mem_of_getElem? at6) n7
                  have n17 := ((n3.trans n4).trans n6).trans n7
                  have E7 := (((E5.mono n6.ext).mono n7.ext)).wipe vs1
                  have E7w := ((E3.mono n4.ext).mono n6.ext).mono n7.ext
                  -- the inner turns
                  have pin : PEnd (fun acc' M4 => PEnd P (scO q.2 p bt fi1 p1 bt1 f (wipeD δ vs) vs1 m (i + 1) acc' M4)) (sc1O q1.2 p1 bt1 f (wipeD δ1 vs1) q1.1 0 acc M6) := by
                    revert p3
                    generalize sc1O q1.2 p1 bt1 f (wipeD δ1 vs1) q1.1 0 acc M6 = r
                    intro p3
                    cases r with
                    | ok a b => exact p3
                    | exc C fs M' => exact p3
                    | stuck => exact p3
                  generalize hP1 : (fun acc' M4 => PEnd P (scO q.2 p bt fi1 p1 bt1 f (wipeD δ vs) vs1 m (i + 1) acc' M4)) = P1 at pin
                  refine ⟨fun j k H8 => ∃ ρ8 M8 acc8, Ext ρ7 ρ8 (frz ρ7 H7) (frz ρ8 H8) ∧ Nx ρ1 H1 ρ8 H8 ∧ ρ8[M1.length]? = some (some Dd) ∧ DenE K ρ8 (frz ρ8 H8) (wipeD δ1 vs1) (L2.wipe σ2 vs1) ∧ StOk K ρ8 M8 H8 ∧ SetIs w H8 Dd acc8 ∧ PEnd P1 (sc1O q1.2 p1 bt1 f (wipeD δ1 vs1) k j acc8 M8),
                    ⟨q1.1, ρ7, M6, acc, Nx.refl.ext, n17, at7, E7, S7, set7, pin⟩, ?_⟩
                  rintro j k H8 ⟨ρ8, M8, acc8, x8, n8, at8, E8, S8, set8, p8⟩
                  obtain ⟨o3, o4⟩ := ok1 j ρ8 H8 M8 x8 S8
                  have m8 := List.mem_of_getElem? at8
                  cases e8 : q1.2 M8 j with
                  | none => cases k <;> (unfold sc1O at p8; rw [e8] at p8; exact p8.elim)
                  | some z1 =>
                    cases z1 with
                    | none =>
                      refine .inl ⟨o3 e8, ?_⟩
                      have pe : P1 acc8 M8 := by cases k <;> (unfold sc1O at p8; rw [e8] at p8; exact p8)
                      rw [← hP1] at pe
                      exact ⟨ρ8, M8, acc8, n8, at8, E7w.mono x8, S8, set8, pe⟩
                    | some d8 =>
                      cases k with
                      | zero => unfold sc1O at p8; rw [e8] at p8; exact p8.elim
                      | succ k =>
                        unfold sc1O at p8
                        rw [e8] at p8
                        obtain ⟨go1, yl1⟩ := o4 d8 e8
                        refine .inr ⟨go1, fun H' => ∃ ρ8 M8 acc8, Ext ρ7 ρ8 (frz ρ7 H7) (frz ρ8 H') ∧ Nx ρ1 H1 ρ8 H' ∧ ρ8[M1.length]? = some (some Dd) ∧ DenE K ρ8 (frz ρ8 H') (wipeD δ1 vs1) (L2.wipe σ2 vs1) ∧ StOk K ρ8 M8 H' ∧ SetIs w H' Dd acc8 ∧ PEnd P1 (sc1O q1.2 p1 bt1 f (wipeD δ1 vs1) k (j + 1) acc8 M8),
                          fun H' z => ⟨k, Nat.lt_succ_self _, z⟩, fun x9 H9 y9 => ?_⟩
                        obtain ⟨n9, S9, r9⟩ := yl1 x9 H9 y9
                        cases e9 : setPt M8 p1 d8 (wipeD δ1 vs1) with
                        | none => simp only [e9] at p8; exact p8.elim
                        | some δ9 =>
                          simp only [e9] at p8
                          refine pt_of S9 p1 r9 (E8.mono n9.ext) e9 hv1 fun σ9 E9 w9 => ⟨by rw [w9]; exact wipe_idem, ρ8, δ9, M8, E9, S9, ?_⟩
                          have set9 := set8.nx m8 n9
                          cases e10 : bt1 δ9 M8 with
                          | stuck => simp only [e10] at p8; exact p8.elim
                          | exc C fs M' => simp only [e10] at p8; exact p8.elim
                          | ok b M10 =>
                            cases b with
                            | false =>
                              simp only [e10] at p8
                              intro ρ10 H10 n10 S10
                              rw [if_neg Bool.false_ne_true]
                              exact ⟨ρ10, M10, acc8, ext_trans x8 (n9.trans n10).ext, (n8.trans n9).trans n10, n10.refs _ _ at8, (E8.mono n9.ext).mono n10.ext, S10, set9.nx m8 n10, p8⟩
                            | true =>
                              simp only [e10] at p8
                              intro ρ10 H10 n10 S10
                              rw [if_pos rfl]
                              have at10 := n10.refs _ _ at8
                              have set10 := set9.nx m8 n10
                              refine ⟨ρ10, δ9, M10, E9.mono n10.ext, S10, ?_⟩
                              cases e11 : f δ9 M10 with
                              | stuck => simp only [e11] at p8; exact p8.elim
                              | exc C fs M' => simp only [e11] at p8; exact p8.elim
                              | ok y0 M11 =>
                                simp only [e11] at p8
                                cases y0 with
                                | str y1 =>
                                  simp only at p8
                                  by_cases hl : acc8.length < 1000
                                  · rw [if_pos hl] at p8
                                    intro ρ11 v11 H11 n11 S11 r11
                                    cases r11
                                    have at11 := n11.refs _ _ at10
                                    have m11 := List.mem_of_getElem? at11
                                    obtain ⟨S, n, a1, a2, a3⟩ := set10.nx (List.mem_of_getElem? at10) n11
                                    refine ⟨.inr y1, S, n, rfl, a1, by unfold scanBound; omega, ?_⟩
                                    have nn := ((n8.trans n9).trans n10).trans n11
                                    have fw := frz_wset (H := H11) (o := SetBk w Dd (fun j => S j || decide (j = Sum.inr y1)) (if S (.inr y1) = true then n else n + 1)) m11
                                    have xx : Ext ρ7 ρ11 (frz ρ7 H7) (frz ρ11 (upd H11 Dd (SetBk w Dd (fun j => S j || decide (j = Sum.inr y1)) (if S (.inr y1) = true then n else n + 1)))) := ext_trans (ext_trans x8 ((n9.trans n10).trans n11).ext) ⟨fun _ _ h => h, fw⟩
                                    refine ⟨ρ11, M11, acc8 ++ [y1], xx, Nx.wset (w := w) nn hD m11, at11, ((((E8.mono n9.ext).mono n10.ext).mono n11.ext)).mono ⟨fun _ _ h => h, fw⟩, S11.wset at11 ⟨_, a1⟩, ⟨_, _, upd_same, ?_, fun k' => ?_⟩, p8⟩
                                    · rw [List.length_append, List.length_singleton]
                                      split <;> omega
                                    · rw [List.map_append, List.any_append, a3]
                                      simp only [List.map_cons, List.map_nil, List.any_cons, List.any_nil, Bool.or_false]
                                      congr 1
                                      by_cases hk : k' = Sum.inr y1
                                      · rw [decide_eq_true hk, decide_eq_true hk.symm]
                                      · rw [decide_eq_false hk, decide_eq_false (fun z => hk z.symm)]
                                  · rw [if_neg hl] at p8; exact p8.elim
                                | _ => exact p8.elim
theorem pd_sortSc2 {elt tg iter tg1 iter1 : Expr} {ifs ifs1 : List Expr} {scope : Scope} {own : List (Str × Nat)} {vs1 : List Nat} {p0 pos spos : Pos} {fi fi1 : IF} {p p1 : Pt} {bt bt1 : BF} {f : EF} (hc : X.calm = true) (hu : X.A.units + 64 < cLine) (hN : X.N.Nodup) (hgs : Gl X "sorted") (hms : X.mg "sorted" = none) (hi : PDI X W tg iter fi)
    (ok : BlkOk X.N X.env.scope scope own) (hv : ∀ i ∈ vs1, i ∈ own.map (·.2)) (hp : ∀ i ∈ p.ixs, i ∈ own.map (·.2)) (hp1 : ∀ i ∈ p1.ixs, i ∈ vs1)
    (hg : ∀ (s : Shared) (H : Hp) (C : Addr) (cl : List (Str × Addr)) (fp : List Addr), PP (X.blk s H scope (compEnvC scope cl C X.env) fp) tg p) (ht : ∀ (s : Shared) (H : Hp) (C : Addr) (cl : List (Str × Addr)) (fp : List Addr), PDTs (X.blk s H scope (compEnvC scope cl C X.env) fp) W0 ifs bt)
    (hi1 : ∀ (s : Shared) (H : Hp) (C : Addr) (cl : List (Str × Addr)) (fp : List Addr), PDI (X.blk s H scope (compEnvC scope cl C X.env) fp) W0 tg1 iter1 fi1)
    (hg1 : ∀ (s : Shared) (H : Hp) (C : Addr) (cl : List (Str × Addr)) (fp : List Addr), PP (X.blk s H scope (compEnvC scope cl C X.env) fp) tg1 p1) (ht1 : ∀ (s : Shared) (H : Hp) (C : Addr) (cl : List (Str × Addr)) (fp : List Addr), PDTs (X.blk s H scope (compEnvC scope cl C X.env) fp) W0 ifs1 bt1)
    (he : ∀ (s : Shared) (H : Hp) (C : Addr) (cl : List (Str × Addr)) (fp : List Addr), PD (X.blk s H scope (compEnvC scope cl C X.env) fp) W0 elt f) (hs : ∀ x, foldedSetIterable iter X.env x = pure x := by intro _; rfl) (hs1 : ∀ env x, foldedSetIterable iter1 env x = pure x := by intro _ _; rfl)
    (h2 : starEach [(.SetComp elt [⟨tg, iter, ifs, 0⟩, ⟨tg1, iter1, ifs1, 0⟩] scope pos : Expr)] X.env = (false, eval (.SetComp elt [⟨tg, iter, ifs, 0⟩, ⟨tg1, iter1, ifs1, 0⟩] scope pos) X.env) :: starEach [] X.env := by rfl) :
    PD X W (.Call (.Name "sorted" p0) [.SetComp elt [⟨tg, iter, ifs, 0⟩, ⟨tg1, iter1, ifs1, 0⟩] scope pos] [] spos) (eSortSc fi p bt fi1 p1 bt1 f (own.map (·.2)) vs1) :=
  pe_mono (pe_callB (call_sortB hc hu) hgs hms PyProof.Rows.boot_sorted (pa_cons (pe_sc2 (wi := rdI X.K W fi) (g := tPt X.K p) (tt := rdB X.K W0 bt) (wi1 := rdI X.K W0 fi1) (g1 := tPt X.K p1) (tt1 := rdB X.K W0 bt1) (te := rd X.K W0 f) hc hN hi ok hv hg ht hi1 hg1 ht1 he hs hs1) pa_nil h2) (by decide) (by decide) h2 rfl) fun σ H Q h => sc_of hp hp1 X.w h
end
end L2.MK

end

section
set_option Elab.async false
set_option linter.all false
set_option maxRecDepth 100000
set_option maxHeartbeats 2000000
set_option autoImplicit false
/-! The head, the end. -/
namespace L2.MK
open PySem PySem.Spec PyProof.Rows PySem.W He

/-! ### facts of the written part -/
def oexB (K : Frag) (C : Addr) : Bool := (match K.lookup C with
  | some ⟨.type "type", _, .cls cd, sl⟩ => (match cd.mro, sl.toList with
    | .ref C' :: bm, [_, _, _, _, some (.builtin n), _] => C' == C && n == "ValueError.__new__" && !cd.hasDel && cd.hasDict && PySem.HandSPX.refsVE bm
    | _, _ => false)
  | _ => false) && (eqO (findIn K (.ref C) "__setattr__") (some (some (.builtin "object.__setattr__"))) && (decide (subIn K (.ref C) (.type "BaseException") = some true) && (decide (typeIn K (.ref C) = some (.type "type")) && keepIn K (.ref C))))
theorem oexB_ok {K : Frag} {C : Addr} (h : oexB K C = true) : OexC K C := by
  obtain ⟨q, h⟩ := ba h
  obtain ⟨h1, h⟩ := ba h
  obtain ⟨h2, h⟩ := ba h
  obtain ⟨h3, h4⟩ := ba h
  refine ⟨?_, eqO_ok h1, of_decide_eq_true h2, of_decide_eq_true h3, h4⟩
  split at q
  · rename_i dd cd sl ho
    split at q
    · rename_i C' bm k0 k1 k2 k3 n k5 hm hs
      simp only [Bool.and_eq_true, beq_iff_eq, Bool.not_eq_true'] at q
      obtain ⟨⟨⟨⟨rfl, rfl⟩, hdel⟩, hdd⟩, ht⟩ := q
      obtain ⟨nm, bs, mro, ns, qn, hd, sn, sub, ab, col, del⟩ := cd
      dsimp only at hm hdel hdd
      subst hm hdel hdd
      have hsl : sl = #[k0, k1, k2, k3, some (.builtin "ValueError.__new__"), k5] := by
        obtain ⟨l⟩ := sl
        simp only at hs
        rw [hs]
      subst hsl
      exact ⟨nm, qn, ns, bs, bm, sn, sub, ab, col, dd, k0, k1, k2, k3, k5, ho, ht⟩
    · cases q
  · cases q
def excB (K : Frag) (D : Addr) : Bool := eqO (findIn K (.ref D) "__getattribute__") (some (some (.builtin "BaseException.__getattribute__"))) && (eqO (findIn K (.ref D) "__getattr__") (some none) && (decide (subIn K (.ref D) (.type "BaseException") = some true) && (hasDictIn K D &&
  (eqO (findIn K (.ref D) "__class__") (some (some (.builtin "object.__class__"))) && (eqO (specialIn K (.builtin "object.__class__") "__get__") (some (some (.builtin "getset_descriptor.__get__"))) && (decide (takesIn K (.builtin "object.__class__") = some true) && decide (mroIn K D (.type "object") = some true)))))))
theorem excB_ok {K : Frag} {D : Addr} (h : excB K D = true) : ExcC K D := by
  obtain ⟨h1, h⟩ := ba h
  obtain ⟨h2, h⟩ := ba h
  obtain ⟨h3, h⟩ := ba h
  obtain ⟨h4, h⟩ := ba h
  obtain ⟨h5, h⟩ := ba h
  obtain ⟨h6, h⟩ := ba h
  obtain ⟨h7, h8⟩ := ba h
  exact ⟨eqO_ok h1, eqO_ok h2, of_decide_eq_true h3, h4, eqO_ok h5, eqO_ok h6, of_decide_eq_true h7, of_decide_eq_true h8⟩
def insB (K : Frag) (x : Str) : Bool := (Fa.cls x).ok K && (eqO (findIn K (.ref (ga K x)) "__class__") (some (some (.builtin "object.__class__"))) && (eqO (specialIn K (.builtin "object.__class__") "__get__") (some (some (.builtin "getset_descriptor.__get__"))) &&
  (decide (takesIn K (.builtin "object.__class__") = some true) && decide (mroIn K (ga K x) (.type "object") = some true))))
theorem insB_ok {K : Frag} {x : Str} (h : insB K x = true) : InsC K (ga K x) := by
  obtain ⟨h1, h⟩ := ba h
  obtain ⟨h5, h⟩ := ba h
  obtain ⟨h6, h⟩ := ba h
  obtain ⟨h7, h8⟩ := ba h
  exact ⟨cls_ok h1, eqO_ok h5, eqO_ok h6, of_decide_eq_true h7, of_decide_eq_true h8⟩
/-- a class with ValueError's __init__, read off the class -/
def veiB (K : Frag) (C : Addr) : Bool := readsIn K C (.type "type") && (eqO (specialIn K (.ref C) "__getattribute__") (some (some (.builtin "type.__getattribute__"))) && (match findCls K (.ref C) (.type "type") "__init__" with
  | some (.val (.builtin n)) => n == "ValueError.__init__"
  | _ => false))
theorem veiB_ok {K : Frag} {C : Addr} (h : veiB K C = true) : ClX.CRead K C (.type "type") ∧ findCls K (.ref C) (.type "type") "__init__" = some (.val (.builtin "ValueError.__init__")) := by
  obtain ⟨h1, h⟩ := ba h
  obtain ⟨h2, h⟩ := ba h
  refine ⟨⟨h1, eqO_ok h2⟩, ?_⟩
  split at h
  · rename_i n e
    rw [e, beq_iff_eq.mp h]
  · cases h
/-! ### the Hook, with any tests -/
def asX (g : Addr → Option Obj) : Nat → List Addr
  | 0 => [mainGlobals, cStatics]
  | n + 1 => growD g (asX g n)
def fnA (K : Frag) (a : Addr) : FnW := match K.lookup a with
  | some ⟨_, _, .func fd, _⟩ => some (fd.name, fd.qualname, fd.params, fd.body, fd.scope, fd.globals, fd.closure, fd.builtins)
  | _ => none
def okA (K : Frag) (a : Addr) (d : DefD) : Bool := PySem.W.keepIn K (.ref a) && (match K.lookup a with
  | some ⟨_, _, .func fd, _⟩ => PySem.W.codeIn K fd.code d.qual && (dflB K fd.defaults (d.dvs K) && kwdB K fd.kwdefaults (d.kws K))
  | _ => false)
theorem funA {K : Frag} {a : Addr} {d : DefD} (e : fnA K a = d.val) (c : okA K a d = true) : ∃ fd, FunD K d.name d.qual d.params d.body d.scope (d.dvs K) (d.kws K) a fd := by
  obtain ⟨kp, c2⟩ := ba c
  unfold fnA at e
  cases q : K.lookup a with
  | none =>
    rw [q] at c2
    cases c2
  | some o =>
    obtain ⟨oc, od, dt, osl⟩ := o
    rw [q] at c2 e
    cases dt with
    | func fd =>
      obtain ⟨n1, n2, n3, n4, n5, n6, n7, n8, n9, n10, n11, n12, n13, n14, n15⟩ := fd
      have e2 : (some (n1, n2, n3, n4, n5, n6, n7, n15) : FnW) = some (d.name, d.qual, d.params, .stmts d.body, d.scope, mainGlobals, [], builtinsNs) := e
      simp only [Option.some.injEq, Prod.mk.injEq] at e2
      obtain ⟨h1, h2, h3, h4, h5, h6, h7, h8⟩ := e2
      subst h1 h2 h3 h4 h5 h6 h7 h8
      have c3 : (PySem.W.codeIn K n13 d.qual && (dflB K n8 (d.dvs K) && kwdB K n9 (d.kws K))) = true := c2
      obtain ⟨k1, k2⟩ := ba c3
      obtain ⟨k3, k4⟩ := ba k2
      exact ⟨_, ⟨oc, od, n8, n9, n10, n11, n12, n13, n14, osl, rfl, q, k1, dflB_ok k3, kwdB_ok k4⟩, kp⟩
    | _ => cases c2
/-- a def; pr: it stands behind a property -/
structure DefX where
  d : DefD
  pr : Bool
def pAd (K : Frag) (p : Str × Option Str) : Addr := match PySem.W.recIn K (fAd K p) "property" with
  | some (.ref g :: _) => g
  | _ => 0
def DefX.ad (K : Frag) (x : DefX) : Addr := cond x.pr (pAd K x.d.at_) (fAd K x.d.at_)
def valX (fn : List DefX) : AlD := (true, fn.map fun x => x.d.val)
def obsX (fb : List (Frag → Bool)) (fn : List DefX) (K : Frag) : AlD := ((fb.all fun f => f K) && fn.all fun x => okA K (x.ad K) x.d, fn.map fun x => fnA K (x.ad K))
def SaysX (fb : List (Frag → Bool)) (fn : List DefX) (K : Frag) : Prop := obsX fb fn K = valX fn
def obsXG (n : Nat) (fb : List (Frag → Bool)) (fn : List DefX) (g : Addr → Option Obj) : AlD := obsX fb fn (frG g (asX g n))
def hookX (n : Nat) (fb : List (Frag → Bool)) (fn : List DefX) : Hook where
  α := AlD
  obs := fun s => obsXG n fb fn s.heap.get?
  val := fun _ => valX fn
  says := fun _ h => ∃ K : Frag, K.In h ∧ SaysX fb fn K
  of := fun _ _ e => ⟨_, frG_in, e⟩
  keeps := fun _ _ _ ⟨K, hK, c⟩ k => ⟨K, Frag.In.keeps hK k, c⟩
theorem obsXG_eq {n : Nat} {fb : List (Frag → Bool)} {fn : List DefX} {g : Addr → Option Obj} {s : Shared} (h : ∀ a, g a = s.heap.get? a) : obsXG n fb fn g = (hookX n fb fn).obs s := by
  have e : g = s.heap.get? := funext h
  rw [e] <;> rfl
section
variable {fb : List (Frag → Bool)} {fn : List DefX} {K : Frag}
theorem SaysX.fact (c : SaysX fb fn K) (i : Nat) {f : Frag → Bool} (h : fb[i]? = some f := by rfl) : f K = true := by
  have c1 := (ba (show ((fb.all fun f => f K) && fn.all fun x => okA K (x.ad K) x.d) = true from congrArg (fun z : AlD => z.1) c)).1
  exact List.all_eq_true.mp c1 f (List.mem_of_getElem? h)
theorem SaysX.def_ (c : SaysX fb fn K) (i : Nat) {x : DefX} (h : fn[i]? = some x := by rfl) : ∃ fd, FunD K x.d.name x.d.qual x.d.params x.d.body x.d.scope (x.d.dvs K) (x.d.kws K) (x.ad K) fd := by
  have c2 := (ba (show ((fb.all fun f => f K) && fn.all fun x => okA K (x.ad K) x.d) = true from congrArg (fun z : AlD => z.1) c)).2
  have e : fn.map (fun x => fnA K (x.ad K)) = fn.map (fun x => x.d.val) := congrArg (fun z : AlD => z.2) c
  have e2 : (fn.map fun x => fnA K (x.ad K))[i]? = (fn.map fun x => x.d.val)[i]? := by rw [e]
  rw [List.getElem?_map, List.getElem?_map, h] at e2
  exact funA (Option.some.inj e2) (List.all_eq_true.mp c2 x (List.mem_of_getElem? h))
end
/-! ### the end -/
theorem same_frz0 (H : Hp) : Same H (frz [] H) := fun a o h => frz_at (fun z => nomatch z) h
theorem dens_ints {K : Frag} {ρ : List (Option Addr)} {Φ : Hp} : ∀ ns : List Int, Dens K ρ Φ (ns.map .int) (ns.map V.int)
  | [] => .nil
  | n :: ns => .cons (.int n) (dens_ints ns)
theorem law_callG {P : Program} {w : World} {K : PySem.W.Frag} {mg mb : Str → Option Value} {k : Nat} {fa a : Addr} {fd : FuncData} {x : Str} {g : List D → Ev D} {s₁ : Shared} {vs : List Value} {ns : List Int}
    (KX : K.In s₁.heap) (hns : s₁.heap.Ns mainGlobals mg) (hb : s₁.heap.Ns builtinsNs mb) (hbb : ∀ x : Str, x ≠ "__name__" → mb x = bootBuiltins x) (hlim : s₁.heap.NoLimit) (hg : s₁.gens = #[])
    (ha : s₁.heap.get? a = some { cls := .type "list", data := .seq vs.toArray }) (hi : IntsAre vs ns) (hl : ns.length ≤ sizeLine) (hr : Room k callerA)
    (F : ∀ base : Heap, K.In base → base.Ns mainGlobals mg → FnG P w K mg base k fa fd [x] g) (hbind : ∀ (s : Shared) (u : Value), BindsTo s fd ⟨[u], []⟩ [(x, u)])
    (hlaw : ∃ M, g [.rol (ns.map .int)] [] = .ok (.bl true) M) :
    codeAny (model P w) callerA (.call (.ref fa) ⟨[.ref a], []⟩) (fun r s' => r = .ok (.ret (.bool true)) ∧ OldK s₁.heap s'.heap ∧ s'.os = s₁.os ∧ AllBare s'.gens) s₁ := by
  have rv := vals_ints hi
  have lenV := hi.length
  -- from an abstract heap in which nothing but the script may be tracked
  have core : ∀ H : Hp, Only H → SqL K H a (ns.map V.int) → HOk P w H s₁.heap → (∀ b, H b ≠ none → b = a) → (H a ≠ none → K.lookup a = none) →
      codeAny (model P w) callerA (.call (.ref fa) ⟨[.ref a], []⟩) (fun r s' => r = .ok (.ret (.bool true)) ∧ OldK s₁.heap s'.heap ∧ s'.os = s₁.os ∧ AllBare s'.gens) s₁ := by
    intro H hO hS hok hA hK
    have base_of : ∀ {b : Addr} {o : Obj}, s₁.heap.get? b = some o → H b = none → (hidT s₁.heap H).get? b = some o := fun e n => hidT_get e n
    have noA : ∀ {b : Addr} {o : Obj} {es : Array DictEntry} {ep : Nat}, s₁.heap.get? b = some o → o.data = .dict es ep → H b = none := fun {b o es ep} e d => by
      cases q : H b with
      | none => rfl
      | some u =>
        have e' : b = a := hA b (by rw [q]; simp)
        subst e'
        rw [ha] at e; cases e
        have d' : Data.seq vs.toArray _ = Data.dict es ep := d
        cases d'
    have nsK : ∀ {b : Addr} {m : Str → Option Value}, s₁.heap.Ns b m → (hidT s₁.heap H).Ns b m := fun {b m} ⟨o, es, ep, e, d, r⟩ => ⟨o, es, ep, base_of e (noA e d), d, r⟩
    have hKb : K.In (hidT s₁.heap H) := fun b o e => base_of (KX b o e) (by
      cases q : H b with
      | none => rfl
      | some u =>
        have e' : b = a := hA b (by rw [q]; simp)
        subst e'
        rw [hK (by rw [q]; simp)] at e; cases e)
    have hM : Mod K mg (hidT s₁.heap H) := ⟨hKb, nsK hns, ⟨mb, nsK hb, hbb⟩, let ⟨mc, h1, h2⟩ := hlim; ⟨mc, nsK h1, h2⟩⟩
    have e0 : Env0 P w K mg (hidT s₁.heap H) callerA [] s₁ H := ⟨rfl, hM, fun b o e => of_hidT e, Nat.le_of_eq (hidT_size _ _), trivial, fun b hb => absurd (show b ∈ ([] : List Addr) from hb) (by simp), hok, .of_eq hg⟩
    refine codeAny_mono ((F _ hKb (nsK hns)).run callerA [] s₁ H ⟨[.ref a], []⟩ [.ref a] [.ref a] (fun v _ => v = .bl true) (fun _ _ _ => False) [] [] [.rol (ns.map .int)] hr rfl e0 (hbind s₁ (.ref a)) (.cons rfl .nil) rfl ⟨rfl, fun i j a h => (by simp at h), fun i a h => (by simp at h), fun i h => (by simp at h)⟩ (.cons (.rol (Same.seq (same_frz0 H) hS) (dens_ints ns)) .nil) (by
      obtain ⟨M, hM⟩ := hlaw
      rw [hM]
      intro ρ' v H' _ _ rd
      cases rd
      rfl)) fun r s' h => ?_
    cases r with
    | error e =>
      obtain ⟨_, _, _, _, _, _, _, _, _, _, _, _, z⟩ := h
      exact z.elim
    | ok fl =>
      cases fl with
      | next => exact False.elim h
      | brk => exact False.elim h
      | cont => exact False.elim h
      | ret u =>
        obtain ⟨v, H', os, bare, un, hok', r', q⟩ := h
        have q' : v = .bl true := q
        subst q'
        obtain rfl : u = Value.bool true := r'
        refine ⟨rfl, OldK.of_keep fun b o e => ?_, os, bare⟩
        cases q : H b with
        | none => exact un.keep b o e q (by intro z; exact absurd (show b ∈ ([] : List Addr) from z) (by simp)) (by simp)
        | some u =>
          rcases hO b with z | ⟨ob, xs, z⟩
          · rw [q] at z; cases z
          · have z2 := un.frzs b ob _ z
            obtain ⟨e1, _⟩ := hok b _ z
            obtain ⟨e2, _⟩ := hok' b _ z2
            rw [e] at e1; cases e1
            exact e2
  cases hk : K.lookup a with
  | some o =>
    -- the script is one of the module's own objects
    have e := KX a o hk
    rw [ha] at e
    cases e
    refine core (fun _ => none) (fun _ => .inl rfl) (.inr ⟨_, vs.toArray, _, hk, rfl, rfl, rfl, by rw [List.size_toArray, lenV]; exact hl, by simpa using rv⟩) (fun b u z => by have z' : (none : Option HO) = some u := z; cases z') (fun b z => absurd rfl z) fun z => absurd rfl z
  | none =>
    refine core (fun b => if b = a then some (.frz { cls := .type "list", data := .seq vs.toArray } (.lst (ns.map V.int))) else none) (fun b => ?_) (.inl (.inr ⟨{ cls := .type "list", data := .seq vs.toArray }, if_pos rfl⟩)) (fun b u z => ?_) (fun b z => ?_) fun _ => hk
    · by_cases hb : b = a
      · exact .inr ⟨_, _, if_pos hb⟩
      · exact .inl (if_neg hb)
    · by_cases hb : b = a
      · have z' := (if_pos hb).symm.trans z
        cases z'
        subst hb
        exact ⟨ha, by rw [List.length_map]; exact hl, vs, _, rv, ha⟩
      · have z' := (if_neg hb).symm.trans z
        cases z'
    · by_cases hb : b = a
      · exact hb
      · exact absurd (if_neg hb) z

theorem walk_ofG {l : PySem.W.OpenLaw} {n k : Nat} {q : Program} {loose : List Str} {XP : (Str → Option Value) → Heap → Prop} {YP : World → Heap → Prop} {d : DefRec} {x : Str}
    (hn : l.most = some n) (hn2 : n ≤ sizeLine) (hdf : d.params.defaults = []) (hr : Room k callerA)
    (F : ∀ (w : World) (mg : Str → Option Value) (fa : Addr) (h : Heap), YP w h → h.Ns mainGlobals mg → mg d.name = some (.ref fa) →
      ∃ (K : Frag) (fd : FuncData) (g : List D → Ev D), K.In h ∧ (∀ (s : Shared) (u : Value), BindsTo s fd ⟨[u], []⟩ [(x, u)]) ∧
        (∀ ns : List Int, ns.length ≤ n → ∃ M, g [.rol (ns.map .int)] [] = .ok (.bl true) M) ∧
        ∀ base : Heap, K.In base → base.Ns mainGlobals mg → FnG l.prog w K mg base k fa fd [x] g) :
    PySem.W.WalkO q loose XP YP l.row.toRowW d [] (fun f vs => PySem.call f vs) := by
  refine Att.attach_call hn hdf fun w s₀ s₁ mg mb fa o pm cd doc a vs ns G Y ho hd hcd hmg hobj hints hlen hg => ?_
  obtain ⟨K, fd, g, KX, hb, hlaw, hF⟩ := F w mg fa _ Y G.T.g hmg
  exact law_callG KX G.T.g G.T.b G.T.builtins G.T.nolimit hg hobj hints (Nat.le_trans hlen hn2) hr hF hb (hlaw ns hlen)
end L2.MK

end

section
set_option Elab.async false
set_option linter.all false
set_option maxRecDepth 100000
set_option maxHeartbeats 2000000
set_option autoImplicit false
/-! Rules as they are printed. -/
namespace L2.MK
open PySem PySem.Spec PyProof.Rows PySem.W

theorem takes_W0 {X : Cx} : Takes X W0 := fun u s' ⟨_, _, _, _, _, _, _, _, _, _, _, _, _, _, _, _, w⟩ => w.elim
section
variable {X : Cx} {W : WX} {k : Nat} {f : Addr} {fd : FuncData} {ps : List Str} {g : List D → Ev D} {x C : Str} {p pos : Pos} {e : Expr} {es : List Expr} {fa : AF}
theorem nil_dens {K : Frag} : ∀ (ρ : List (Option Addr)) (Φ : Hp), Dens K ρ Φ [] [] := fun _ _ => .nil
/-- f(e, ..), the new frozen -/
theorem pd_callT (F : FnG X.prog X.w X.K X.mg X.base k f fd ps g) (hb : Binds X.K fd ps []) (hk : PySem.W.keepIn X.K (.ref f) = true) (hm : X.mg x = some (.ref f)) (hr : Room k X.A) (hgu : X.A.guards = some []) (tk : Takes X W) (hg : Gl X x)
    (ha : PDA X W (e :: es) fa) (hal : ALen fa (e :: es).length) (hln : (e :: es).length = ps.length)
    (hdb : (x == ("__debug__" : Str)) = false := by decide) (he : starEach (e :: es) X.env = (false, eval e X.env) :: starEach es X.env := by rfl) (hpl : (backTo pos (starEach es X.env)).any (·.1) = false := by rfl) :
    PD X W (.Call (.Name x p) (e :: es) [] pos) (eFun (callT g) fa) := by
  have h := pd_call (pos := pos) (p := p) (trim := true) (dds := []) (dvs := []) (ds := []) F hr hgu tk hg hm hk hb .nil nil_dens ha hln hal hdb he hpl
  simpa only [List.append_nil, cond_true] using h
theorem pd_callK (F : FnG X.prog X.w X.K X.mg X.base k f fd ps g) (hb : Binds X.K fd ps []) (hk : PySem.W.keepIn X.K (.ref f) = true) (hm : X.mg x = some (.ref f)) (hr : Room k X.A) (hgu : X.A.guards = some []) (tk : Takes X W) (hg : Gl X x)
    (ha : PDA X W (e :: es) fa) (hal : ALen fa (e :: es).length) (hln : (e :: es).length = ps.length)
    (hdb : (x == ("__debug__" : Str)) = false := by decide) (he : starEach (e :: es) X.env = (false, eval e X.env) :: starEach es X.env := by rfl) (hpl : (backTo pos (starEach es X.env)).any (·.1) = false := by rfl) :
    PD X W (.Call (.Name x p) (e :: es) [] pos) (eFun (callK g) fa) := by
  have h := pd_call (pos := pos) (p := p) (trim := false) (dds := []) (dvs := []) (ds := []) F hr hgu tk hg hm hk hb .nil nil_dens ha hln hal hdb he hpl
  simpa only [List.append_nil, cond_false] using h
theorem pd_makeT (Mq : Mk X.K (He.ga X.K C) f) (F : FnG X.prog X.w X.K X.mg X.base k f fd ps g) (hb : Binds X.K fd ps []) (hm : X.mg C = some (.ref (He.ga X.K C))) (hr : Room (k + 1) X.A) (hgu : X.A.guards = some []) (tk : Takes X W) (hg : Gl X C)
    (ha : PDA X W (e :: es) fa) (hal : ALen fa (e :: es).length) (hln : (e :: es).length + 1 = ps.length)
    (hdb : (C == ("__debug__" : Str)) = false := by decide) (he : starEach (e :: es) X.env = (false, eval e X.env) :: starEach es X.env := by rfl) (hpl : (backTo pos (starEach es X.env)).any (·.1) = false := by rfl) :
    PD X W (.Call (.Name C p) (e :: es) [] pos) (eFun (makeT C g) fa) := by
  have h := pd_make (pos := pos) (p := p) (trim := true) (dds := []) (dvs := []) (ds := []) Mq F hr hgu tk hg hm hb .nil nil_dens ha hln hal hdb he hpl
  simpa only [List.append_nil, cond_true] using h
end
end L2.MK

end

section
set_option Elab.async false
set_option linter.all false
set_option maxRecDepth 100000
set_option maxHeartbeats 1000000
set_option autoImplicit false
/-! Instances whose class says what ==, in, len are; properties; constants of a class. -/
namespace L2.MK
open PySem PySem.Spec PyProof.Rows

/-- an instance's class -/
def insOf (M : Sto) : D → Option Str
  | .ins C _ => some C
  | .ref i => (match M[i]? with
    | some (.ins C _) => some C
    | _ => none)
  | _ => none
/-- nothing is raised -/
def noX (m : Ev D) : Ev D := fun M => match m M with
  | .ok d M' => .ok d M'
  | _ => .stuck
/-- a value whose class is known -/
def knD (Ci : List Str) (M : Sto) (d : D) : Bool := (btD M d).isSome || (match insOf M d with
  | some C => decide (C ∈ Ci)
  | none => false)
section
variable {K : PySem.W.Frag} {ρ : List (Option Addr)} {H : Hp} {M : Sto}
theorem insOf_of (S : StOk K ρ M H) {d : D} {v : V} {C : Str} (r : Den K ρ (frz ρ H) d v) (e : insOf M d = some C) : ∃ a dx fs, v = .ref a ∧ H a = some (.ins (He.ga K C) dx fs) := by
  cases r with
  | @ins C' fs a dx vfs h1 h2 => cases e; exact ⟨a, dx, vfs, rfl, (frz_of h1).2⟩
  | @ref i a h =>
    obtain ⟨m, h1, h2⟩ := S.at_ i a h
    unfold insOf at e
    simp only [h1] at e
    cases m with
    | ins C' fs => cases e; obtain ⟨dx, vfs, h3, h4⟩ := h2; exact ⟨a, dx, vfs, rfl, h3⟩
    | _ => cases e
  | _ => cases e
theorem noX_of {W1 W2 : Value → Option Addr → Hp → Prop} {Q : VK} {m : Ev D} (h : Res K W1 ρ H Q (noX m M)) : Res K W2 ρ H Q (m M) := by
  unfold noX at h
  cases e : m M with
  | ok d M' => rw [e] at h; exact h
  | exc C fs M' => rw [e] at h; exact h.elim
  | stuck => rw [e] at h; exact h.elim
theorem Res.mono' {W1 : Value → Option Addr → Hp → Prop} {Q Q' : VK} {o : Out D} (h : Res K W1 ρ H Q o) (m : ∀ v H', Q v H' → Q' v H') : Res K W1 ρ H Q' o := by
  cases o with
  | ok d M' => exact fun ρ' v H' n s r => m _ _ (h ρ' v H' n s r)
  | exc C fs M' => exact h
  | stuck => exact h
end
/-- a two-place operation that may call -/
def rE (K : PySem.W.Frag) (g : D → D → Ev D) : R2 := fun x y H Q => ∃ ρ M a b, StOk K ρ M H ∧ Den K ρ (frz ρ H) a x ∧ Den K ρ (frz ρ H) b y ∧ Res K (fun _ _ _ => False) ρ H Q (noX (g a b) M)
def eBinE (g : D → D → Ev D) (fa fb : EF) : EF := fun δ => fa δ >>= fun x => fb δ >>= fun y => noX (g x y)
section
variable {X : Cx} {W : WX}
theorem binE_of {K : PySem.W.Frag} {g : D → D → Ev D} {fa fb : EF} {σ : L2.St} {H : Hp} {Q : VK} (h : rd K W (eBinE g fa fb) σ H Q) : tOp (rE K g) (rd K W fa) (rd K W fb) σ H Q := by
  obtain ⟨ρ, δ, M, hE, hS, h⟩ := h
  exact rd_mono (rd_bind (f := fa) (g := fun x => fb δ >>= fun y => noX (g x y)) hE hS h) fun x H1 ⟨ρ1, d1, M1, n1, e1, s1, r1, h1⟩ =>
    rd_mono (rd_bind (f := fb) (g := fun y => noX (g d1 y)) e1 s1 h1) fun y H2 ⟨ρ2, d2, M2, n2, e2, s2, r2, h2⟩ => by
      refine ⟨ρ2, M2, d1, d2, s2, r1.mono n2.ext, r2, ?_⟩
      have z : Res K (fun _ _ _ => False) ρ2 H2 Q (g d1 d2 M2) := noX_of h2
      unfold noX
      cases e : g d1 d2 M2 with
      | ok d M' => rw [e] at z; exact z
      | exc C fs M' => unfold noX at h2; rw [e] at h2; exact h2.elim
      | stuck => rw [e] at z; exact z
theorem binE_ofB {K : PySem.W.Frag} {g : D → D → Ev D} {fa fb : EF} {σ : L2.St} {H : Hp} {Q : Bool → Hp → Prop} (h : rdB K W (bOf (eBinE g fa fb)) σ H Q) : tTest (tOp (rE K g) (rd K W fa) (rd K W fb)) σ H Q := by
  have q := tst_of h
  unfold tTest at q ⊢
  exact binE_of q
theorem pd_cmpE {op : CmpOp} {g : D → D → Ev D} {a b : Expr} {fa fb : EF} {pos : Pos} (ho : OpR X (compareOp op) (rE X.K g)) (ha : PD X W a fa) (hb : PD X W b fb) (hm : behindInMarks op b = false) : PD X W (.Compare a [op] [b] pos) (eBinE g fa fb) := pe_mono (pe_cmpR ho ha hb hm) fun _ _ _ h => binE_of h
theorem pd_cmpEB {op : CmpOp} {g : D → D → Ev D} {a b : Expr} {fa fb : EF} {pos : Pos} (ho : OpR X (compareOp op) (rE X.K g)) (ha : PD X W a fa) (hb : PD X W b fb) (hm : behindInMarks op b = false) : PDB X W (.Compare a [op] [b] pos) (bOf (eBinE g fa fb)) := pt_mono (pt_cmpR ho ha hb hm) fun _ _ _ h => binE_ofB h
end
/-! ### the own defs -/
/-- the class C has the name nm as a def that gives g -/
structure OwnF (P : Program) (w : World) (K : PySem.W.Frag) (mg : Str → Option Value) (base : Heap) (k : Nat) (C nm : Str) (n : Nat) (g : List D → Ev D) : Prop where
  ex : ∃ (f : Addr) (fd : FuncData) (ps : List Str), PySem.W.findIn K (.ref (He.ga K C)) nm = some (some (.ref f)) ∧ PySem.W.isFn K (.ref f) = true ∧ FnG P w K mg base k f fd ps g ∧ Binds K fd ps [] ∧ ps.length = n
abbrev GT := List (Str × (List D → Ev D))
section
variable {X : Cx} {pins : List (Addr × Obj)} {σ : L2.St} {H : Hp} {s : Shared} {Q : VK} {ρ : List (Option Addr)} {M : Sto} {k : Nat} {f : Addr} {fd : FuncData} {ps : List Str} {g : List D → Ev D}
/-- an own def runs below -/
theorem run_in1 {us : List Value} {vs : List V} {as : List D} {E' : Value → Shared → Prop} (F : FnG X.prog X.w X.K X.mg X.base k f fd ps g) (hr : Room (k + 1) X.A) (hg : X.A.guards = some []) (hb : Binds X.K fd ps [])
    (I : Inv X pins σ H s) (r : Vals vs us) (hl : vs.length = ps.length) (S : StOk X.K ρ M H) (rd : Dens X.K ρ (frz ρ H) as vs) (h : Res X.K (fun _ _ _ => False) ρ H Q (g as M)) :
    wpAny (model X.prog X.w) X.A.in1 (call (.ref f) us) (EP X pins σ Q) E' s := by
  have hl2 : us.length = ps.length := by rw [← r.length]; exact hl
  refine wpAny_call (codeAny_mono (F.run X.A.in1 X.stack s H ⟨us, []⟩ us vs Q (fun _ _ _ => False) ρ M as hr.in1 hg I.env0.in1 (by simpa using hb s us I.kIn (by simpa using hl2)) r hl S rd h) fun r s' hq => ?_)
  cases r with
  | error e =>
    obtain ⟨_, _, _, _, _, _, _, _, _, _, _, _, z⟩ := hq
    exact z.elim
  | ok fl =>
    cases fl with
    | ret u => exact I.after hq
    | next => exact False.elim hq
    | brk => exact False.elim hq
    | cont => exact False.elim hq
/-! ### ==, !=, in, len -/
def seven : List String := ["NoneType", "bool", "int", "str", "tuple", "list", "dict"]
/-- what the classes say of the name nm -/
structure OwnC (P : Program) (w : World) (K : PySem.W.Frag) (mg : Str → Option Value) (base : Heap) (k : Nat) (nm : Str) (n : Nat) (Ci : List Str) (ms : GT) : Prop where
  fn : ∀ p ∈ ms, OwnF P w K mg base k p.1 nm n p.2
  ins : ∀ C ∈ Ci, InsC K (He.ga K C)
  nf : ∀ p ∈ ms, ∀ T ∈ seven, PySem.W.notFirst K (He.ga K p.1) (.type T) = true
  nfi : ∀ p ∈ ms, ∀ C ∈ Ci, PySem.W.notFirst K (He.ga K p.1) (.ref (He.ga K C)) = true
theorem btD_seven {M : Sto} {d : D} {T : String} (e : btD M d = some T) : T ∈ seven := by
  unfold seven
  cases d <;> simp only [btD, Option.some.injEq, reduceCtorEq] at e <;> first | (subst e; simp) | skip
  split at e <;> simp only [Option.some.injEq, reduceCtorEq] at e <;> (subst e; simp)
theorem gt_mem {ms : GT} {C : Str} {g : List D → Ev D} (e : ms.lookup C = some g) : (C, g) ∈ ms := by
  induction ms with
  | nil => simp at e
  | cons p r ih =>
    obtain ⟨C', g'⟩ := p
    rw [List.lookup_cons] at e
    cases q : C == C' with
    | true =>
      rw [q] at e
      simp only [Option.some.injEq] at e
      subst e
      rw [beq_iff_eq.mp q]
      exact List.mem_cons_self ..
    | false => rw [q] at e; exact List.mem_cons_of_mem _ (ih e)
theorem looks_kn {Ci : List Str} {d : D} {v : V} {u : Value} (I : Inv X pins σ H s) (hI : ∀ C ∈ Ci, InsC X.K (He.ga X.K C)) (S : StOk X.K ρ M H) (r : Den X.K ρ (frz ρ H) d v) (ru : RelV v u) (e : knD Ci M d = true) :
    ∃ t, PySem.W.Looks (model X.prog X.w) s.heap (typeOf u) t ∧ ((∃ T ∈ seven, t = .type T) ∨ ∃ C ∈ Ci, t = .ref (He.ga X.K C)) := by
  unfold knD at e
  cases q : btD M d with
  | some T =>
    obtain ⟨P, Z, p, _⟩ := kit_of I ru (btD_of S r q)
    exact ⟨_, Z.ty _ _ I.kIn p, .inl ⟨T, btD_seven q, rfl⟩⟩
  | none =>
    rw [q] at e
    cases q2 : insOf M d with
    | none => rw [q2] at e; cases e
    | some C =>
      rw [q2] at e
      have hc : C ∈ Ci := of_decide_eq_true (by simpa using e)
      obtain ⟨a, dx, fs, rfl, hA⟩ := insOf_of S r q2
      cases (show u = Value.ref a from ru)
      obtain ⟨mA, O, _⟩ := ins_get I.hok hA
      obtain ⟨od, J, _⟩ := O.look
      exact ⟨_, J.type, .inr ⟨C, hc, rfl⟩⟩
def evEq (Ci : List Str) (ms : GT) (x y : D) : Ev D := fun M => match insOf M x with
  | none => opt (oEq x y) M
  | some C => (match ms.lookup C with
    | some g => if knD Ci M y = true then callT g [x, y] M else .stuck
    | none => .stuck)
def notO : Out D → Out D
  | .ok (.bl b) M => .ok (.bl !b) M
  | _ => .stuck
def blO : Out D → Out D
  | .ok (.bl b) M => .ok (.bl b) M
  | _ => .stuck
def lenO : Out D → Out D
  | .ok (.int n) M => if 0 ≤ n ∧ n < 2 ^ 63 then .ok (.int n) M else .stuck
  | _ => .stuck
theorem notO_of {W1 W2 : Value → Option Addr → Hp → Prop} {K : PySem.W.Frag} {o : Out D} (h : Res K W1 ρ H Q (notO o)) : Res K W2 ρ H (fun v H' => ∃ b, v = .bl b ∧ Q (.bl !b) H') o := by
  cases o with
  | ok d M' =>
    cases d with
    | bl b => exact fun ρ' v H' n s r => by cases r; exact ⟨b, rfl, h ρ' _ H' n s (.bl _)⟩
    | _ => exact h.elim
  | exc C fs M' => exact h.elim
  | stuck => exact h.elim
theorem blO_of {W1 W2 : Value → Option Addr → Hp → Prop} {K : PySem.W.Frag} {o : Out D} (h : Res K W1 ρ H Q (blO o)) : Res K W2 ρ H (fun v H' => ∃ b, v = .bl b ∧ Q (.bl b) H') o := by
  cases o with
  | ok d M' =>
    cases d with
    | bl b => exact fun ρ' v H' n s r => by cases r; exact ⟨b, rfl, h ρ' _ H' n s (.bl _)⟩
    | _ => exact h.elim
  | exc C fs M' => exact h.elim
  | stuck => exact h.elim
theorem lenO_of {W1 W2 : Value → Option Addr → Hp → Prop} {K : PySem.W.Frag} {o : Out D} (h : Res K W1 ρ H Q (lenO o)) : Res K W2 ρ H (fun v H' => ∃ n, v = .int n ∧ 0 ≤ n ∧ n < 2 ^ 63 ∧ Q (.int n) H') o := by
  cases o with
  | ok d M' =>
    cases d with
    | int n =>
      intro ρ' v H' nx s r
      cases r
      replace h : Res K W1 ρ H Q (if 0 ≤ n ∧ n < 2 ^ 63 then .ok (.int n) M' else .stuck) := h
      by_cases c : 0 ≤ n ∧ n < 2 ^ 63
      · rw [if_pos c] at h; exact ⟨n, rfl, c.1, c.2, h ρ' _ H' nx s (.int _)⟩
      · rw [if_neg c] at h; exact h.elim
    | _ => exact h.elim
  | exc C fs M' => exact h.elim
  | stuck => exact h.elim
theorem op_eqE {Ci : List Str} {ms : GT} (hu : X.A.units + 64 < cLine) (hr : Room (k + 1) X.A) (hg : X.A.guards = some []) (o : OwnC X.prog X.w X.K X.mg X.base k "__eq__" 2 Ci ms) : OpR X (compareOp .Eq) (rE X.K (evEq Ci ms)) := by
  rintro pins s σ H x y v u Q I rx ry ⟨ρ, M, a, b, S, ra, rb, h⟩
  replace h : Res X.K (fun _ _ _ => False) ρ H Q (evEq Ci ms a b M) := noX_of h
  unfold evEq at h
  cases e : insOf M a with
  | none =>
    rw [e] at h
    obtain ⟨d, e1, h1⟩ := opt_of h
    exact op_eq' hu pins s σ H x y v u Q I rx ry ⟨ρ, M, a, b, d, S, ra, rb, e1, h1⟩
  | some C =>
    rw [e] at h
    simp only at h
    cases e2 : ms.lookup C with
    | none => rw [e2] at h; exact h.elim
    | some g =>
      rw [e2] at h
      simp only at h
      by_cases hk : knD Ci M b = true
      · rw [if_pos hk] at h
        have hmem := gt_mem e2
        obtain ⟨ad, dx, fs, rfl, hA⟩ := insOf_of S ra e
        cases (show v = Value.ref ad from rx)
        obtain ⟨mA, O, _⟩ := ins_get I.hok hA
        obtain ⟨od, J, _⟩ := O.look
        obtain ⟨m, hF⟩ := I.fr
        obtain ⟨f, fd, ps, hs, hf, F, hb, hl⟩ := (o.fn _ hmem).ex
        obtain ⟨t, ht, hn⟩ := looks_kn I o.ins S rb ry hk
        have nf : PySem.W.notFirst X.K (He.ga X.K C) t = true := by
          rcases hn with ⟨T, hT, rfl⟩ | ⟨C', hC, rfl⟩
          · exact o.nf _ hmem T hT
          · exact o.nfi _ hmem C' hC
        show wpAny _ _ (richCompare .Eq _ _) _ _ _
        refine PySem.W.cmp_K (op := .Eq) (tb := t) hr.units0 hF I.ok.mod.kin J ht nf hs hf ?_
        refine wpAny_mono (run_fnG (W := W0) (us := [.ref ad, u]) (vs := [.ref ad, y]) (ds := []) (dvs := []) (as := [a, b]) F (Room.mono hr (Nat.le_succ _)) hg hb .nil takes_W0 I (.cons rfl (.cons ry .nil)) hl.symm S (.cons ra (.cons rb .nil)) (trim_of S.len h)) (fun w s' z => ?_) fun _ _ x => x
        obtain ⟨z', H', I', rz, qz⟩ := z
        exact SlX.cmpback rz ⟨z', H', I', rz, qz⟩
      · rw [if_neg hk] at h; exact h.elim
/-! != -/
def evNe (Ci : List Str) (ms : GT) (x y : D) : Ev D := fun M => match insOf M x with
  | none => opt (oNe x y) M
  | some C => (match ms.lookup C with
    | some g => if knD Ci M y = true then notO (callT g [x, y] M) else .stuck
    | none => .stuck)
end
section
variable {prog : Program} {w : World} {A : Around} {E : Value → Shared → Prop} {s : Shared} {K : PySem.W.Frag} {x C f L : Addr} {ox : Obj} {od : Option Obj} {b tb : Value} {h₀ : Heap} {m : Str → Option Value}
theorem ne_entry (hu : A.units < cLine) (X : K.In s.heap) (I : PySem.W.InstAt s.heap x ox C od) (he : PySem.W.findIn K (.ref C) "__eq__" = some (some (.ref f))) (hf : PySem.W.isFn K (.ref f) = true) {Q : Fin → Shared → Prop}
    (hcall : wpAny (model prog w) A (call (.ref f) [.ref x, b]) (fun v s' => ∃ k, v = .bool k ∧ Q (.done (.ret (.bool (!k)))) s') E s) : wpAny (model prog w) A (Builtin.«object.__ne__» ⟨[.ref x, b], []⟩) Q E s := by
  unfold Builtin.«object.__ne__»
  repeat (first
    | with_reducible refine wpAny_cRoomFor hu ?_
    | (refine wpAny_bind (m := callSpecialIfBound? (.ref x) (Str.ofString "__eq__") [b])
        (PySem.W.ifBound_K X I he hf (wpAny_mono hcall (fun r s' hr => by
          obtain ⟨b, rfl, hq⟩ := hr
          repeat (first | exact hq | exact wpAny_pure hq | exact wpAny_truthy_bool hq | (refine wpAny_bind (m := truthy (.bool _)) (wpAny_truthy_bool ?_)) | wp_step)) fun _ _ e => e)))
    | wp_step)
theorem ifBound_ne {M : Model} {args : List Value} {Q : Option Value → Shared → Prop} (X : K.In s.heap) (I : PySem.W.InstAt s.heap x ox C od) (hs : PySem.W.findIn K (.ref C) "__ne__" = some (some (.builtin "object.__ne__")))
    (h : wpAny M A (call (.builtin "object.__ne__") (.ref x :: args)) (fun v => Q (some v)) E s) : wpAny M A (callSpecialIfBound? (.ref x) "__ne__" args) Q E s := by
  simp only [callSpecialIfBound?, bindSpecialIfBound?]
  refine wpAny_holding (wpAny_bind (wpAny_bind (wpAny_bind (I.type.here ((PySem.W.looks_findIn X hs).here ?_)))))
  refine wpAny_bind (wpAny_askSetting (wpAny_ite ?_))
  have fin : wpAny M A (call (.builtin "object.__ne__") ([.ref x] ++ args) >>= fun v => pure (some v)) Q E s := wpAny_bind (wpAny_mono h (fun v s' h' => wpAny_pure h') fun _ _ h' => h')
  split
  · exact wpAny_bind (wpAny_of_eq (F.cmp_object.ne.bind _) (wpAny_pure (by exact fin)))
  · exact wpAny_tryCatch (wpAny_bind (wpAny_of_eq (F.cmp_object.ne.bind _) (wpAny_pure (by exact fin))))
theorem ne_K {Q : Value → Shared → Prop} (hu : A.units + 1 < cLine) (fF : PyProof.Rows.Fr h₀ L s.heap m) (X₀ : K.In h₀) (I : PySem.W.InstAt s.heap x ox C od) (hb : PySem.W.Looks (model prog w) s.heap (typeOf b) tb) (hn : PySem.W.notFirst K C tb = true)
    (hs : PySem.W.findIn K (.ref C) "__ne__" = some (some (.builtin "object.__ne__"))) (hm : PySem.W.mroIn K C (.type "object") = some true) (he : PySem.W.findIn K (.ref C) "__eq__" = some (some (.ref f))) (hf : PySem.W.isFn K (.ref f) = true)
    (h : wpAny (model prog w) A.in1 (call (.ref f) [.ref x, b]) (fun v s' => ∃ k, v = .bool k ∧ Q (.bool (!k)) s') E s) : wpAny (model prog w) A (richCompare .NotEq (.ref x) b) Q E s := by
  have X := X₀.keeps fF.keep
  have one : wpAny (model prog w) A (tryCompare (.ref x) (cmpInfo .NotEq).2.1 b) (fun r s' => ∃ v, r = some v ∧ Q v s') E s := by
    unfold tryCompare
    refine wpAny_bind (ifBound_ne X I hs (wpAny_call (codeAny_call_builtin F.cmp_object.ne.plain F.cmpEntry_ne (PySem.W.check_slot F.cmpKind_ne F.cmpSplit_ne (I.type.andThen (PySem.W.looks_mroIn X hm)) (F.cmpArgs_ne _ _)
      (ne_entry (A := A.in1) hu X I he hf (wpAny_mono h (fun v s' hv => ?_) fun _ _ e => e))))))
    obtain ⟨k, rfl, hq⟩ := hv
    exact ⟨k, rfl, wpAny_pure ⟨_, rfl, hq⟩⟩
  unfold richCompare
  simp only [oneThing_ref]
  refine wpAny_holding (wpAny_bind (wpAny_cRoomFor (Nat.lt_of_succ_lt hu) ?_))
  refine wpAny_bind (I.type.here (wpAny_bind (hb.here ?_)))
  split
  · rename_i q
    have e : PySem.W.subIn K tb (.ref C) = some false := by
      rcases Bool.or_eq_true_iff.mp hn with e | e
      · rw [beq_iff_eq.mp e] at q; simp at q
      · exact beq_iff_eq.mp e
    refine wpAny_bind ((PySem.W.looks_subIn X e).here ?_)
    simp only [Bool.false_eq_true, if_false]
    refine wpAny_bind (wpAny_mono one (fun r s' z => ?_) fun _ _ e => e)
    obtain ⟨v, rfl, hq⟩ := z
    exact wpAny_pure hq
  · refine wpAny_bind (wpAny_pure ?_)
    simp only [Bool.false_eq_true, if_false]
    refine wpAny_bind (wpAny_mono one (fun r s' z => ?_) fun _ _ e => e)
    obtain ⟨v, rfl, hq⟩ := z
    exact wpAny_pure hq
end
/-- .. whose != is object's -/
def NeC (K : PySem.W.Frag) (ms : GT) : Prop := ∀ p ∈ ms, PySem.W.findIn K (.ref (He.ga K p.1)) "__ne__" = some (some (.builtin "object.__ne__")) ∧ PySem.W.mroIn K (He.ga K p.1) (.type "object") = some true
section
variable {X : Cx} {k : Nat} {W : WX}
theorem op_neE {Ci : List Str} {ms : GT} (hu : X.A.units + 64 < cLine) (hr : Room (k + 1) X.A) (hg : X.A.guards = some []) (o : OwnC X.prog X.w X.K X.mg X.base k "__eq__" 2 Ci ms) (on : NeC X.K ms) : OpR X (compareOp .NotEq) (rE X.K (evNe Ci ms)) := by
  rintro pins s σ H x y v u Q I rx ry ⟨ρ, M, a, b, S, ra, rb, h⟩
  replace h : Res X.K (fun _ _ _ => False) ρ H Q (evNe Ci ms a b M) := noX_of h
  unfold evNe at h
  cases e : insOf M a with
  | none =>
    rw [e] at h
    obtain ⟨d, e1, h1⟩ := opt_of h
    exact op_ne' hu pins s σ H x y v u Q I rx ry ⟨ρ, M, a, b, d, S, ra, rb, e1, h1⟩
  | some C =>
    rw [e] at h
    simp only at h
    cases e2 : ms.lookup C with
    | none => rw [e2] at h; exact h.elim
    | some g =>
      rw [e2] at h
      simp only at h
      by_cases hk : knD Ci M b = true
      · rw [if_pos hk] at h
        have hmem := gt_mem e2
        obtain ⟨ad, dx, fs, rfl, hA⟩ := insOf_of S ra e
        cases (show v = Value.ref ad from rx)
        obtain ⟨mA, O, _⟩ := ins_get I.hok hA
        obtain ⟨od, J, _⟩ := O.look
        obtain ⟨m, hF⟩ := I.fr
        obtain ⟨f, fd, ps, hs, hf, F, hb, hl⟩ := (o.fn _ hmem).ex
        obtain ⟨t, ht, hn⟩ := looks_kn I o.ins S rb ry hk
        have nf : PySem.W.notFirst X.K (He.ga X.K C) t = true := by
          rcases hn with ⟨T, hT, rfl⟩ | ⟨C', hC, rfl⟩
          · exact o.nf _ hmem T hT
          · exact o.nfi _ hmem C' hC
        obtain ⟨n1, n2⟩ := on _ hmem
        show wpAny _ _ (richCompare .NotEq _ _) _ _ _
        refine ne_K (tb := t) (by omega) hF I.ok.mod.kin J ht nf n1 n2 hs hf ?_
        refine wpAny_mono (run_in1 (us := [.ref ad, u]) (vs := [.ref ad, y]) (as := [a, b]) F hr hg hb I (.cons rfl (.cons ry .nil)) hl.symm S (.cons ra (.cons rb .nil)) (trim_of S.len (notO_of h))) (fun w s' z => ?_) fun _ _ x => x
        obtain ⟨z', H', I', rz, b', rfl, qz⟩ := z
        cases (show w = Value.bool b' from rz)
        exact ⟨b', rfl, .bl !b', H', I', rfl, qz⟩
      · rw [if_neg hk] at h; exact h.elim
/-! in -/
def evIn (ms : GT) (x y : D) : Ev D := fun M => match insOf M y with
  | none => opt (oIn x y) M
  | some C => (match ms.lookup C with
    | some g => blO (callT g [y, x] M)
    | none => .stuck)
def evNotIn (ms : GT) (x y : D) : Ev D := fun M => match insOf M y with
  | none => opt (oNotIn x y) M
  | some C => (match ms.lookup C with
    | some g => notO (callT g [y, x] M)
    | none => .stuck)
theorem op_inE {ms : GT} (hu : X.A.units + 64 < cLine) (hr : Room (k + 1) X.A) (hg : X.A.guards = some []) (o : ∀ p ∈ ms, OwnF X.prog X.w X.K X.mg X.base k p.1 "__contains__" 2 p.2) : OpR X (compareOp .In) (rE X.K (evIn ms)) := by
  rintro pins s σ H x y v u Q I rx ry ⟨ρ, M, a, b, S, ra, rb, h⟩
  replace h : Res X.K (fun _ _ _ => False) ρ H Q (evIn ms a b M) := noX_of h
  unfold evIn at h
  cases e : insOf M b with
  | none =>
    rw [e] at h
    obtain ⟨d, e1, h1⟩ := opt_of h
    exact op_in' hu pins s σ H x y v u Q I rx ry ⟨ρ, M, a, b, d, S, ra, rb, e1, h1⟩
  | some C =>
    rw [e] at h
    simp only at h
    cases e2 : ms.lookup C with
    | none => rw [e2] at h; exact h.elim
    | some g =>
      rw [e2] at h
      simp only at h
      have hmem := gt_mem e2
      obtain ⟨ad, dx, fs, rfl, hA⟩ := insOf_of S rb e
      cases (show u = Value.ref ad from ry)
      obtain ⟨mA, O, _⟩ := ins_get I.hok hA
      obtain ⟨od, J, _⟩ := O.look
      obtain ⟨m, hF⟩ := I.fr
      obtain ⟨f, fd, ps, hs, hf, F, hb, hl⟩ := (o _ hmem).ex
      refine PySem.W.in_K hF I.ok.mod.kin J hs hf ?_
      refine wpAny_mono (run_fnG (W := W0) (us := [.ref ad, v]) (vs := [.ref ad, x]) (ds := []) (dvs := []) (as := [b, a]) F (Room.mono hr (Nat.le_succ _)) hg hb .nil takes_W0 I (.cons rfl (.cons rx .nil)) hl.symm S (.cons rb (.cons ra .nil)) (trim_of S.len (blO_of h))) (fun w s' z => ?_) fun _ _ x => x
      obtain ⟨z', H', I', rz, b', rfl, qz⟩ := z
      cases (show w = Value.bool b' from rz)
      exact wpAny_truthy_bool ⟨.bl b', H', I', rfl, qz⟩
theorem op_notInE {ms : GT} (hu : X.A.units + 64 < cLine) (hr : Room (k + 1) X.A) (hg : X.A.guards = some []) (o : ∀ p ∈ ms, OwnF X.prog X.w X.K X.mg X.base k p.1 "__contains__" 2 p.2) : OpR X (compareOp .NotIn) (rE X.K (evNotIn ms)) := by
  rintro pins s σ H x y v u Q I rx ry ⟨ρ, M, a, b, S, ra, rb, h⟩
  replace h : Res X.K (fun _ _ _ => False) ρ H Q (evNotIn ms a b M) := noX_of h
  unfold evNotIn at h
  cases e : insOf M b with
  | none =>
    rw [e] at h
    obtain ⟨d, e1, h1⟩ := opt_of h
    exact op_notIn' hu pins s σ H x y v u Q I rx ry ⟨ρ, M, a, b, d, S, ra, rb, e1, h1⟩
  | some C =>
    rw [e] at h
    simp only at h
    cases e2 : ms.lookup C with
    | none => rw [e2] at h; exact h.elim
    | some g =>
      rw [e2] at h
      simp only at h
      have hmem := gt_mem e2
      obtain ⟨ad, dx, fs, rfl, hA⟩ := insOf_of S rb e
      cases (show u = Value.ref ad from ry)
      obtain ⟨mA, O, _⟩ := ins_get I.hok hA
      obtain ⟨od, J, _⟩ := O.look
      obtain ⟨m, hF⟩ := I.fr
      obtain ⟨f, fd, ps, hs, hf, F, hb, hl⟩ := (o _ hmem).ex
      refine PySem.W.notIn_K hF I.ok.mod.kin J hs hf ?_
      refine wpAny_mono (run_fnG (W := W0) (us := [.ref ad, v]) (vs := [.ref ad, x]) (ds := []) (dvs := []) (as := [b, a]) F (Room.mono hr (Nat.le_succ _)) hg hb .nil takes_W0 I (.cons rfl (.cons rx .nil)) hl.symm S (.cons rb (.cons ra .nil)) (trim_of S.len (notO_of h))) (fun w s' z => ?_) fun _ _ x => x
      obtain ⟨z', H', I', rz, b', rfl, qz⟩ := z
      cases (show w = Value.bool b' from rz)
      exact wpAny_truthy_bool ⟨.bl !b', H', I', rfl, qz⟩
/-! len -/
abbrev GE := List D → Ev D
def rCE (K : PySem.W.Frag) (g : GE) : List V → Hp → VK → Prop := fun xs H Q => ∃ ρ M ds, StOk K ρ M H ∧ Dens K ρ (frz ρ H) ds xs ∧ Res K (fun _ _ _ => False) ρ H Q (noX (g ds) M)
def eCallE (g : GE) (f : AF) : EF := fun δ => f δ >>= fun ds => noX (g ds)
theorem callE_of {K : PySem.W.Frag} {g : GE} {f : AF} {σ : L2.St} {H : Hp} {Q : VK} (h : rd K W (eCallE g f) σ H Q) : tCB (rCE K g) (rdA K W f) σ H Q := by
  obtain ⟨ρ, δ, M, hE, hS, h⟩ := h
  refine rdA_mono (rdA_bind (f := f) (g := fun ds => noX (g ds)) hE hS h) fun xs H1 ⟨ρ1, ds, M1, n1, e1, s1, r1, h1⟩ => ?_
  refine ⟨ρ1, M1, ds, s1, r1, ?_⟩
  have z : Res K (fun _ _ _ => False) ρ1 H1 Q (g ds M1) := noX_of h1
  unfold noX
  cases e : g ds M1 with
  | ok d M' => rw [e] at z; exact z
  | exc C fs M' => rw [e] at z; exact False.elim (by unfold noX at h1; rw [e] at h1; exact h1)
  | stuck => rw [e] at z; exact z
theorem pd_callBE {x : Str} {id : String} {g : GE} {e : Expr} {es : List Expr} {f : AF} {p pos : Pos} (hc : CallR X (.builtin id) (rCE X.K g)) (hg : Gl X x) (hm : X.mg x = none) (hv : bootBuiltins x = some (.builtin id)) (ha : PDA X W (e :: es) f)
    (hn : x ≠ "__name__" := by decide) (hdb : (x == ("__debug__" : Str)) = false := by decide)
    (he : starEach (e :: es) X.env = (false, eval e X.env) :: starEach es X.env := by rfl) (hpl : (backTo pos (starEach es X.env)).any (·.1) = false := by rfl) : PD X W (.Call (.Name x p) (e :: es) [] pos) (eCallE g f) :=
  pe_mono (pe_callB hc hg hm hv ha hn hdb he hpl) fun _ _ _ h => callE_of h
def gLenE (ms : GT) : GE := fun ds M => match ds with
  | [d] => (match insOf M d with
    | none => opt (gLen [d]) M
    | some C => (match ms.lookup C with
      | some g => lenO (callT g [d] M)
      | none => .stuck))
  | _ => .stuck
theorem cr_lenE {ms : GT} (hr : Room (k + 1) X.A) (hg : X.A.guards = some []) (o : ∀ p ∈ ms, OwnF X.prog X.w X.K X.mg X.base k p.1 "__len__" 1 p.2) : CallR X (.builtin "len") (rCE X.K (gLenE ms)) := by
  rintro pins s σ H xs us Q I rx ⟨ρ, M, ds, S, rs, h⟩
  replace h : Res X.K (fun _ _ _ => False) ρ H Q (gLenE ms ds M) := noX_of h
  unfold gLenE at h
  split at h
  · rename_i d
    cases e : insOf M d with
    | none =>
      rw [e] at h
      obtain ⟨d', e1, h1⟩ := opt_of h
      exact cr_len pins s σ H xs us Q I rx ⟨ρ, M, [d], d', S, rs, e1, h1⟩
    | some C =>
      rw [e] at h
      simp only at h
      cases e2 : ms.lookup C with
      | none => rw [e2] at h; exact h.elim
      | some g =>
        rw [e2] at h
        simp only at h
        have hmem := gt_mem e2
        obtain ⟨x, rfl, rd1⟩ := dens1 rs
        obtain ⟨ad, dx, fs, rfl, hA⟩ := insOf_of S rd1 e
        obtain ⟨u, rfl, ru⟩ := rx.one
        cases (show u = Value.ref ad from ru)
        obtain ⟨mA, O, _⟩ := ins_get I.hok hA
        obtain ⟨od, J, _⟩ := O.look
        obtain ⟨m, hF⟩ := I.fr
        obtain ⟨f, fd, ps, hs, hf, F, hb, hl⟩ := (o _ hmem).ex
        refine PySem.W.len_K hF I.ok.mod.kin J hs hf ?_
        refine wpAny_mono (run_in1 (us := [.ref ad]) (vs := [.ref ad]) (as := [d]) F hr hg hb I (.cons rfl .nil) hl.symm S (.cons rd1 .nil) (trim_of S.len (lenO_of h))) (fun w s' z => ?_) fun _ _ x => x
        obtain ⟨z', H', I', rz, n, rfl, h0, h1, qz⟩ := z
        obtain ⟨t, ht⟩ := (show ∃ t, w = Value.int n t from rz)
        subst ht
        exact ⟨⟨h0, h1⟩, .int n, H', I'.tok _, ⟨_, rfl⟩, qz⟩
  · exact h.elim
/-! properties -/
def evPr (ms : GT) (d : D) : Ev D := fun M => match insOf M d with
  | some C => (match ms.lookup C with
    | some g => callT g [d] M
    | none => .stuck)
  | none => .stuck
def eUnE (g : D → Ev D) (f : EF) : EF := fun δ => f δ >>= fun x => noX (g x)
/-- the class C has the name nm as a property whose getter gives g -/
structure OwnP (P : Program) (w : World) (K : PySem.W.Frag) (mg : Str → Option Value) (base : Heap) (k : Nat) (C nm : Str) (g : List D → Ev D) : Prop where
  cl : Cls K (He.ga K C)
  ex : ∃ (p f : Addr) (fd : FuncData) (ps : List Str), PropOf K (He.ga K C) nm p f ∧ FnG P w K mg base k f fd ps g ∧ Binds K fd ps [] ∧ ps.length = 1
theorem pd_prop {ms : GT} {n : Str} {e : Expr} {fo : EF} {pos : Pos} (hr : Room (k + 1) X.A) (hg : X.A.guards = some []) (o : ∀ p ∈ ms, OwnP X.prog X.w X.K X.mg X.base k p.1 n p.2) (he : PD X W e fo) (hb : attributeBase e n X.env (eval e X.env) = eval e X.env := by rfl) :
    PD X W (.Attribute e n pos) (eUnE (evPr ms) fo) := by
  refine ⟨fun pins s σ H Q I ⟨ρ, δ, M, hE, hS, h⟩ => ?_⟩
  refine attr_of hb (thn (he.run pins s σ H _ I (rd_bind (f := fo) (g := fun x => noX (evPr ms x)) hE hS h)) fun u s1 ⟨x, H1, I1, rx, ρ1, d, M1, n1, e1, S, ra, h1⟩ => ?_)
  replace h1 : Res X.K (fun _ _ _ => False) ρ1 H1 Q (evPr ms d M1) := noX_of h1
  unfold evPr at h1
  cases e0 : insOf M1 d with
  | none => rw [e0] at h1; exact h1.elim
  | some C =>
    rw [e0] at h1
    simp only at h1
    cases e2 : ms.lookup C with
    | none => rw [e2] at h1; exact h1.elim
    | some g =>
      rw [e2] at h1
      simp only at h1
      obtain ⟨c, p, f, fd, ps, hp, F, hbi, hl⟩ := o _ (gt_mem e2)
      obtain ⟨ad, dx, fs, rfl, hA⟩ := insOf_of S ra e0
      cases (show u = Value.ref ad from rx)
      obtain ⟨mA, O, _, _, _, _⟩ := ins_get I1.hok hA
      obtain ⟨od, J, _⟩ := O.look
      obtain ⟨rest, hrec⟩ := hp.rec_
      have I2 := I1.tok (s1.toks + 1)
      have hc : (PySem.W.clsIn X.K (He.ga X.K C)).isSome = true := by
        obtain ⟨cd, hc, _⟩ := PySem.W.any_some c.hd
        rw [hc]
        rfl
      refine PySem.W.get_bind I1.kIn J (PySem.W.plainGet_of (c.get n)).1 (PySem.W.findObj_data hc hp.at_ hp.get hp.tak) (PySem.W.plainGet_of (c.get n)).2 (wpAny_call (PySem.W.prop_get (s := { s1 with toks := s1.toks + 1 }) I1.kIn hrec ?_))
      refine codeAny_mono (F.run X.A.in1 X.stack { s1 with toks := s1.toks + 1 } H1 ⟨[.ref ad], []⟩ [.ref ad] [.ref ad] Q (fun _ _ _ => False) ρ1 M1 [d] hr.in1 hg I2.env0.in1 (by simpa using hbi { s1 with toks := s1.toks + 1 } [.ref ad] I2.kIn (by simpa using hl.symm)) (.cons rfl .nil) hl.symm S (.cons ra .nil) (trim_of S.len h1)) fun r s' hq => ?_
      cases r with
      | error er =>
        obtain ⟨_, _, _, _, _, _, _, _, _, _, _, _, z⟩ := hq
        exact z.elim
      | ok fl =>
        cases fl with
        | ret u =>
          obtain ⟨v, H', I3, rv, q3⟩ := I2.after hq
          show wpAny _ _ (handedOut u) _ _ _
          rw [PySem.W.handedOut_of (handed_of rv)]
          exact wpAny_pure ⟨v, H', I3, rv, q3⟩
        | next => exact False.elim hq
        | brk => exact False.elim hq
        | cont => exact False.elim hq
end
end L2.MK

end

section
set_option Elab.async false
set_option linter.all false
set_option maxRecDepth 100000
set_option maxHeartbeats 1000000
set_option autoImplicit false
/-! Turned sequences, dicts of constants, constants of a class, kept sums, an empty dict shown. -/
namespace HT
open PySem PyProof.Rows
open PySem.SeqAt
open PySem.AutoSeq1 (wpAny_loadPart')
open PySem.MeetsSeq PySem.MeetsSeq2 PySem.MeetsSeq3
section
variable {prog : Program} {w : World} {A : Around} {E : Value → Shared → Prop} {s : Shared}
theorem sliceApplied_rev {sl : Addr} {vl vu vs : Value} {n : Nat} {Q : Int × Int × Nat → Shared → Prop} (hs : s.heap.IsSliceOf sl vl vu vs) (pl : IsPart vl none) (pu : IsPart vu none) (ps : IsPart vs (some (-1)))
    (h : Q ((n : Int) - 1, -1, n) s) : wpAny (model prog w) A (Builtin.Slice.sliceApplied (.ref sl) (pure (n : Int))) Q E s := by
  obtain ⟨os, hos, hcs, hds⟩ := id hs
  unfold Builtin.Slice.sliceApplied Builtin.Slice.sliceFields
  refine wpAny_bind (wpAny_bind (wpAny_field hos hds (x := vl) rfl (wpAny_bind (wpAny_field hos hds (x := vu) rfl (wpAny_bind (wpAny_field hos hds (x := vs) rfl (wpAny_pure ?_)))))))
  refine wpAny_bind (slicePart_ ps ?_)
  show wpAny _ _ (if ((-1 : Int) == 0) = true then _ else _) _ _ s
  rw [if_neg (by decide)]
  refine wpAny_bind (slicePart_ pl (wpAny_bind (slicePart_ pu (wpAny_bind (wpAny_pure ?_)))))
  show wpAny _ _ (pure ((n : Int) - 1, (-1 : Int), Builtin.Slice.slicePlaces ((n : Int) - 1) (-1) (-1))) _ _ s
  have e : Builtin.Slice.slicePlaces ((n : Int) - 1) (-1) (-1) = n := by
    unfold Builtin.Slice.slicePlaces
    rw [if_neg (by decide)]
    by_cases h0 : (n : Int) - 1 > -1
    · rw [if_pos h0]
      have : ((n : Int) - 1 - -1 - 1) / (- -1) + 1 = n := by
        rw [show (- -1 : Int) = 1 by decide, Int.ediv_one]; omega
      rw [this]; simp
    · rw [if_neg h0]; omega
  rw [e]
  exact wpAny_pure h
theorem pick_rev (xs : Array Value) : ((List.range xs.size).filterMap fun (k : Nat) => xs[(((xs.size : Int) - 1) + (k : Int) * (-1)).toNat]?).toArray = xs.toList.reverse.toArray := by
  have e : ((List.range xs.size).filterMap fun (k : Nat) => xs[(((xs.size : Int) - 1) + (k : Int) * (-1)).toNat]?) = ((List.range xs.size).map fun k => xs.size - 1 - k).filterMap (xs[·]?) := by
    rw [List.filterMap_map]
    have cong : ∀ l : List Nat, (∀ k ∈ l, k < xs.size) → (l.filterMap fun (k : Nat) => xs[(((xs.size : Int) - 1) + (k : Int) * (-1)).toNat]?) = l.filterMap ((fun x => xs[x]?) ∘ fun k => xs.size - 1 - k) := by
      intro l
      induction l with
      | nil => exact fun _ => rfl
      | cons k r ih =>
        intro hl
        have := hl k (List.mem_cons_self ..)
        have e2 : (((xs.size : Int) - 1) + (k : Int) * (-1)).toNat = xs.size - 1 - k := by omega
        rw [List.filterMap_cons, List.filterMap_cons, ih fun k hk => hl k (List.mem_cons_of_mem _ hk), e2]
        rfl
    exact cong _ fun k hk => List.mem_range.mp hk
  rw [e, PySem.W.krv_range, List.filterMap_reverse, PySem.W.krv_all]
theorem getItem_tuple_rev {t sl : Addr} {items : Array Value} {vl vu vs : Value} {Q : Value → Shared → Prop} (ht : IsTup s.heap t items) (hs : s.heap.IsSliceOf sl vl vu vs) (pl : IsPart vl none) (pu : IsPart vu none) (ps : IsPart vs (some (-1)))
    (h : Q (.ref s.heap.objs.size) { s with heap := s.heap.push { cls := .type "tuple", data := .seq items.toList.reverse.toArray } })
    (hsz : items.size ≤ sizeLine) : wpAny (model prog w) A (getItem (.ref t) (.ref sl)) Q E s := by
  have htake : sizeOk (.seq items.toList.reverse.toArray) := by
    show items.toList.reverse.toArray.size ≤ sizeLine
    rw [List.size_toArray, List.length_reverse, Array.length_toList]
    exact hsz
  obtain ⟨os, hos, hcs, hds⟩ := id hs
  have hTs : s.TypeIs (.ref sl) "slice" := ⟨os, hos, hcs⟩
  unfold getItem
  try with_reducible refine wpAny_holding ?_
  first | refine wpAny_bind (wpAny_pure ?_) | skip
  refine wpAny_bind (wpAny_sequenceKey ht.typeIs (by decide) ?_)
  refine wpAny_bind (wpAny_callSpecial?_slot (name := Str.ofString "__getitem__") ht.typeIs PyProof.Rows.slot_tuple_getitem
    (wpAny_call_entry PyProof.Rows.slot_tuple_getitem ht.typeIs entry_tuple_getitem ?_ (args_tuple_getitem _ _)))
  show wpAny _ _ (Builtin.Tuple.tupleItemsOf (.ref t) >>= _) _ _ s
  refine wpAny_bind (tupleItemsOf_ ht ?_)
  refine wpAny_bind (wpAny_typeOf hTs ?_)
  rw [if_pos (by decide)]
  refine wpAny_bind (sliceApplied_rev hs pl pu ps ?_)
  have hno : ¬ ((((items.size : Int) - 1) == 0 && (-1 : Int) == 1 && items.size == items.size) = true) := by simp
  show wpAny _ _ (if (((items.size : Int) - 1) == 0 && (-1 : Int) == 1 && items.size == items.size) = true then _ else _) _ _ s
  rw [if_neg hno, pick_rev]
  first
    | exact wpAny_bind (m := Builtin.Tuple.tupleExact _) (wpAny_newObj_type (wpAny_pure ⟨_, rfl, wpAny_pure h⟩) htake)
    | exact wpAny_bind (m := Builtin.Tuple.tupleExact _) (wpAny_newObj_type (wpAny_bind (wpAny_pure (wpAny_pure ⟨_, rfl, wpAny_pure h⟩))) htake)
    | exact wpAny_bind (wpAny_bind (m := Builtin.Tuple.tupleExact _) (wpAny_newObj_type (wpAny_pure (wpAny_pure ⟨_, rfl, wpAny_pure h⟩)) htake))
    | exact wpAny_bind (wpAny_bind (m := Builtin.Tuple.tupleExact _) (wpAny_newObj_type (wpAny_pure ⟨_, rfl, wpAny_pure h⟩) htake))
end
end HT
namespace L2.MK
open PySem PySem.Spec PyProof.Rows
/-- t[::-1] -/
def tRevT (K : PySem.W.Frag) (te : TE) : TE := fun σ H Q => te σ H fun x H1 => ∃ a xs, x = .ref a ∧ SqT K H1 a xs ∧ ∀ p, H1 p = none → Q (.ref p) (upd H1 p (.tup xs.reverse))
section
variable {X : Cx} {W : WX}
theorem pe_revT {e : Expr} {te : TE} {k : Nat} {p1 p2 p3 pos : Pos} (he : PE X e te) : PE X (.Subscript e (.Slice none none (some (.UnaryOp .USub (.Constant (.int 1) k p1) p2)) p3) pos) (tRevT X.K te) := by
  refine ⟨fun pins s σ H Q I h => ?_⟩
  refine Subscript_ (thn (he.run pins s σ H _ I h) fun v s1 ⟨x, H1, I1, r1, q1⟩ => ?_)
  obtain ⟨a, xs, ex, hx, q⟩ := q1
  subst ex
  cases r1
  have hst : PO X (some (.UnaryOp .USub (.Constant (.int 1) k p1) p2)) (tPart (tUn (rU fun i => .int (-i)) (tC (.int 1)))) := po_some (pe_un un_neg pe_int)
  refine wpAny_Slice (thn (po_none.run pins s1 σ H1 (fun o H2 => o = none ∧ H2 = H1) I1 ⟨rfl, rfl⟩) fun vl s2 ⟨l, H2, I2, pl, el, e2⟩ => ?_)
  subst el e2
  refine thn (po_none.run pins s2 σ H2 (fun o H3 => o = none ∧ H3 = H2) I2 ⟨rfl, rfl⟩) fun vu s3 ⟨u, H3, I3, pu, eu, e3⟩ => ?_
  subst eu e3
  refine thn (hst.run pins s3 σ H3 (fun o H4 => o = some (-1) ∧ H4 = H3) I3 ⟨1, rfl, -1, rfl, rfl, rfl⟩) fun vs s4 ⟨o, H4, I4, ps, eo, e4⟩ => ?_
  subst eo e4
  have I5 : Inv X pins σ H4 { s4 with heap := s4.heap.push { cls := .type "slice", data := .fields #[vl, vu, vs] } } := I4.kept (t' := s4.toks) fun b ob q => Heap.get?_push_of_some _ q
  obtain ⟨its, r, ht, hz⟩ := I5.tuple hx
  have hlen := r.length
  show wpAny (model X.prog X.w) X.A (subscriptTail e (.Slice none none (some (.UnaryOp .USub (.Constant (.int 1) k p1) p2)) p3) (.ref a) (.ref s4.heap.objs.size)) (EP X pins σ Q) X.xe { s4 with heap := s4.heap.push { cls := .type "slice", data := .fields #[vl, vu, vs] } }
  refine tail_any (ops := [.ref a, .ref s4.heap.objs.size]) ht.typeIs (PyProof.Rows.slot_tuple_getitem.lookup) ?_ (by with_unfolding_all rfl)
  refine HT.getItem_tuple_rev ht (Heap.IsSliceOf.new _ vl vu vs) pl pu ps ?_ (by rw [List.size_toArray]; omega)
  refine ⟨.ref _, _, I5.laid (t' := s4.toks) (o := .tup xs.reverse) (fun b ob q => Heap.get?_push_of_some _ q) (Nat.le_refl _) ?_, rfl, q _ (I5.hok.fresh (Nat.le_refl _))⟩
  exact ⟨by rw [List.length_reverse]; exact hz, _, r.reverse, IsTup.new _ _⟩
theorem Dens.reverse {K : PySem.W.Frag} {ρ : List (Option Addr)} {Φ : Hp} : ∀ {ds : List D} {vs : List V}, Dens K ρ Φ ds vs → Dens K ρ Φ ds.reverse vs.reverse
  | _, _, .nil => .nil
  | _, _, .cons h r => by
    rw [List.reverse_cons, List.reverse_cons]
    exact (Dens.reverse r).append (.cons h .nil)
def oRev : D → Sto → Option D := fun x M => match vw M x with
  | .lst xs => some (.lst xs.reverse)
  | .rol xs => some (.lst xs.reverse)
  | .tup xs => some (.tup xs.reverse)
  | _ => none
theorem pd_rev {e : Expr} {f : EF} {k : Nat} {p1 p2 p3 pos : Pos} (he : PD X W e f) : PD X W (.Subscript e (.Slice none none (some (.UnaryOp .USub (.Constant (.int 1) k p1) p2)) p3) pos) (eUn oRev f) := by
  refine pe_mono (pe_or (pe_revL he) (pe_revT he)) fun σ H Q h => ?_
  obtain ⟨ρ, δ, M, hE, hS, h⟩ := h
  replace h : Res X.K (fun c d H' => W c d σ H') ρ H Q ((f δ >>= fun x => opt (oRev x)) M) := h
  rw [Ev.bind_run] at h
  cases e0 : f δ M with
  | stuck => rw [e0] at h; exact h.elim
  | exc C fs M' => rw [e0] at h; exact .inl ⟨ρ, δ, M, hE, hS, by rw [e0]; exact h⟩
  | ok d M' =>
    rw [e0] at h
    replace h : Res X.K (fun c d H' => W c d σ H') ρ H Q (opt (oRev d) M') := h
    cases e1 : oRev d M' with
    | none => unfold opt at h; rw [e1] at h; exact h.elim
    | some z =>
      have hz : ∀ ρ' v H', Nx ρ H ρ' H' → StOk X.K ρ' M' H' → Den X.K ρ' (frz ρ' H') z v → Q v H' := by
        unfold opt at h; rw [e1] at h; exact h
      unfold oRev at e1
      by_cases ht : isTup d = true
      · refine .inr ⟨ρ, δ, M, hE, hS, ?_⟩
        rw [e0]
        intro ρ' v H' n S r
        cases d with
        | tup xs =>
          cases r with
          | tup h1 h2 =>
            cases e1
            exact ⟨_, _, rfl, same_sqT (frz_same ρ' H') h1, fun p hp => hz ρ' _ _ (n.trans (Nx.new hp)) (S.new hp) (.tup (.of (frz_at (S.notin hp) upd_same)) (h2.mono (Nx.new hp).ext).reverse)⟩
        | _ => cases ht
      · refine .inl ⟨ρ, δ, M, hE, hS, ?_⟩
        rw [e0]
        intro ρ' v H' n S r
        have sn := seen_of S r
        have hnt : ∀ xs, vw M' d ≠ .tup xs := fun xs q => by
          cases d with
          | tup _ => exact ht rfl
          | ref i =>
            unfold vw at q
            revert q
            simp only
            split
            · exact fun q => D.noConfusion q
            · exact fun q => D.noConfusion q
          | _ => cases q
        generalize vw M' d = d' at sn e1 hnt
        cases sn with
        | den z =>
          cases z with
          | lst h1 r1 =>
            cases e1
            exact ⟨_, _, rfl, .of (frz_of h1).2, fun p hp => hz ρ' _ _ (n.trans (Nx.new hp)) (S.new hp) (.lst (frz_at (S.notin hp) upd_same) (r1.mono (Nx.new hp).ext).reverse)⟩
          | rol h1 r1 =>
            cases e1
            exact ⟨_, _, rfl, (frz_same ρ' H').seq h1, fun p hp => hz ρ' _ _ (n.trans (Nx.new hp)) (S.new hp) (.lst (frz_at (S.notin hp) upd_same) (r1.mono (Nx.new hp).ext).reverse)⟩
          | tup h1 r1 => exact absurd rfl (hnt _)
          | _ => cases e1
        | lst h1 r1 =>
          cases e1
          exact ⟨_, _, rfl, .of h1, fun p hp => hz ρ' _ _ (n.trans (Nx.new hp)) (S.new hp) (.lst (frz_at (S.notin hp) upd_same) (r1.mono (Nx.new hp).ext).reverse)⟩
/-- .. of a list, kept -/
def evRevM (x : D) : Ev D := fun M => match rvw M x with
  | some xs => .ok (.ref M.length) (M ++ [.lst xs.reverse])
  | none => .stuck
def eRevM (f : EF) : EF := fun δ => f δ >>= evRevM
theorem pd_revM {e : Expr} {f : EF} {k : Nat} {p1 p2 p3 pos : Pos} (he : PD X W e f) : PD X W (.Subscript e (.Slice none none (some (.UnaryOp .USub (.Constant (.int 1) k p1) p2)) p3) pos) (eRevM f) :=
  pe_mono (pe_revL he) fun σ H Q ⟨ρ, δ, M, hE, hS, q⟩ =>
    rd_mono (rd_bind (f := f) (g := evRevM) hE hS q) fun x H1 ⟨ρ1, d1, M1, n1, e1, s1, r1, h1⟩ => by
      unfold evRevM at h1
      cases ev : rvw M1 d1 with
      | none => rw [ev] at h1; exact h1.elim
      | some xs =>
        rw [ev] at h1
        obtain ⟨a, vs, rfl, hs, r⟩ := rvw_of s1 r1 ev
        exact ⟨_, _, rfl, hs, fun p hp => joinL h1 s1 r.reverse hp⟩
/-! ### dicts of constants -/
theorem pd_dctF {pos : Pos} : PD X W (.Dict [] [] pos) (eC (.dct [] [])) := pe_mono pe_dnewK fun σ H Q ⟨ρ, δ, M, hE, S, h⟩ p hp =>
  Res.made (W' := fun c d H' => W c d σ H') (show Res X.K _ ρ H Q (.ok (.dct [] []) M) from h) S hp (.dct (vs := []) (frz_at (S.notin hp) upd_same) rfl .nil)
/-- {k: v}, both written -/
theorem pd_dct1 {ke ve : Expr} {k : Key} {d : D} {v : V} {pos : Pos} (hk : PE X ke (tC (kV k))) (hv : PE X ve (tC v)) (r : ∀ ρ Φ, Den X.K ρ Φ d v) : PD X W (.Dict [some ke] [ve] pos) (eC (.dct [k] [d])) :=
  pe_mono (pe_disp (L2.pps_cons hk hv L2.pps_nil) rfl rfl (by simp) (by simp)) fun σ H Q ⟨ρ, δ, M, hE, S, h⟩ p hp => by
    refine ⟨upd_same, [(k, v)], rfl, by simp, ?_⟩
    have e : upd (upd H p (.dK [])) p (.dK (mergeK [] [(k, v)])) = upd H p (.dK [(k, v)]) := by
      funext b
      unfold upd
      by_cases hb : b = p
      · simp only [hb]; rfl
      · simp only [hb, if_false]
    rw [e]
    exact Res.made (W' := fun c d H' => W c d σ H') (show Res X.K _ ρ H Q (.ok (.dct [k] [d]) M) from h) S hp (.dct (vs := [(k, v)]) (frz_at (S.notin hp) upd_same) rfl (.cons (r _ _) .nil))
/-! ### constants of a class -/
theorem pd_ccon {x f : Str} {mc : Value} {v : V} {u : Value} {d : D} {p pos : Pos} (hg : Gl X x) (hm : X.mg x = some (.ref (He.ga X.K x))) (c : ClX.CRead X.K (He.ga X.K x) mc) (k : ClX.CVal X.K (He.ga X.K x) mc f v u) (r : ∀ ρ Φ, Den X.K ρ Φ d v)
    (hd : (x == ("__debug__" : Str)) = false := by decide) (hb : attributeBase (.Name x p) f X.env (eval (.Name x p) X.env) = eval (.Name x p) X.env := by rfl) : PD X W (.Attribute (.Name x p) f pos) (eC d) :=
  pe_mono (ClX.pe_cval (pe_glob (v := .ref (He.ga X.K x)) hg hm rfl hd) hb) fun σ H Q ⟨ρ, δ, M, hE, S, h⟩ =>
    ⟨_, mc, v, u, rfl, c, k, Res.here (W' := fun c d H' => W c d σ H') (show Res X.K _ ρ H Q (.ok d M) from h) S (r _ _)⟩
end
end L2.MK

end

section
set_option Elab.async false
set_option linter.all false
set_option maxRecDepth 100000
set_option maxHeartbeats 1000000
set_option autoImplicit false
/-! An empty dict shown; sums that are kept. -/
namespace L2.MK
open PySem PySem.Spec PyProof.Rows
section
variable {X : Cx} {W : WX}
theorem repr_dk0 {pins : List (Addr × Obj)} {σ : L2.St} {H : Hp} {s : Shared} {Q : VK} {a : Addr} (hu : X.A.units + 64 < cLine) (hg : X.A.guards = some []) (I : Inv X pins σ H s) (ha : H a = some (.dK [])) (q : Q (.str "{}") H) :
    wpAny (model X.prog X.w) X.A (call (.builtin "repr") [.ref a]) (EP X pins σ Q) X.xe s := by
  obtain ⟨_, hsys, vs, kv, o, es, ep, h1, h2, h3, _, h4, _⟩ := (show ObjOk X.prog X.w H s.heap a (.dK []) from I.hok a _ ha)
  have ev : vs = [] := by
    cases vs with
    | nil => rfl
    | cons _ _ => cases kv
  subst ev
  have ee : es = #[] := by
    have : es.toList = [] := by cases q : es.toList with | nil => rfl | cons a r => (rw [q] at h4; cases h4)
    simpa using this
  subst ee
  have hr : Reads s.heap (.ref a) (.dict []) [a] := Reads.dict (kvs := []) (as := []) (bs := []) h1 h2.1 h3 .nil .nil
  refine repr_of_reads' hr rfl (fun _ z => ?_) hg (by show X.A.units + (_ + 1) < _; have : (PyData.dict []).depth ≤ 1 := by decide
                                                      omega) (fun _ _ e => e) (fun h' u tk k => ⟨.str _, H, I.kept (t' := tk) k, ⟨u, rfl⟩, q⟩) (by decide)
  rw [List.mem_singleton] at z
  rw [← z] at hsys
  simp at hsys
def gReprE : GF := fun ds M => match ds with
  | [.dct [] []] => some (.str "{}")
  | ds => gRepr ds M
theorem cr_reprE (hu : X.A.units + 64 < cLine) (hg : X.A.guards = some []) : CallR X (.builtin "repr") (rC X.K gReprE) := by
  rintro pins s σ H xs us Q I rx ⟨ρ, M, ds, d, S, r, e, q⟩
  unfold gReprE at e
  split at e
  · cases e
    obtain ⟨x, rfl, r1⟩ := dens1 r
    obtain ⟨u, rfl, ru⟩ := rx.one
    cases r1 with
    | @dct _ _ a vs h1 h2 h3 =>
      have : vs = [] := by simpa using h2
      subst this
      cases (show u = Value.ref a from ru)
      exact repr_dk0 hu hg I (frz_of h1).2 (q _ H Nx.refl S (.str _))
  · exact cr_repr hu hg pins s σ H xs us Q I rx ⟨ρ, M, ds, d, S, r, e, q⟩
/-! a sum that is changed -/
def evAddM (x y : D) : Ev D := fun M => match lvw M x, lvw M y with
  | some xs, some ys => if xs.length + ys.length ≤ sizeLine then .ok (.ref M.length) (M ++ [.lst (xs ++ ys)]) else .stuck
  | _, _ => .stuck
def eAddM (fa fb : EF) : EF := fun δ => fa δ >>= fun x => fb δ >>= fun y => evAddM x y
theorem pd_addM {a b : Expr} {fa fb : EF} {pos : Pos} (ha : PD X W a fa) (hb : PD X W b fb) : PD X W (.BinOp a .Add b pos) (eAddM fa fb) :=
  pe_mono (pe_op op_cat ha hb) fun σ H Q ⟨ρ, δ, M, hE, hS, h⟩ =>
    rd_mono (rd_bind (f := fa) (g := fun x => fb δ >>= fun y => evAddM x y) hE hS h) fun x H1 ⟨ρ1, d1, M1, n1, e1, s1, r1, h1⟩ =>
      rd_mono (rd_bind (f := fb) (g := fun y => evAddM d1 y) e1 s1 h1) fun y H2 ⟨ρ2, d2, M2, n2, e2, s2, r2, h2⟩ => by
        have ra := r1.mono n2.ext
        unfold evAddM at h2
        cases q1 : lvw M2 d1 with
        | none => rw [q1] at h2; exact h2.elim
        | some xs =>
          cases q2 : lvw M2 d2 with
          | none => rw [q1, q2] at h2; exact h2.elim
          | some ys =>
            rw [q1, q2] at h2
            simp only at h2
            by_cases hz : xs.length + ys.length ≤ sizeLine
            · rw [if_pos hz] at h2
              obtain ⟨l1, vs1, rfl, g1, z1⟩ := lvw_of s2 ra q1
              obtain ⟨l2, vs2, rfl, g2, z2⟩ := lvw_of s2 r2 q2
              exact ⟨_, _, _, _, rfl, rfl, g1, g2, by rw [← z1.length, ← z2.length]; exact hz, fun p hp => joinL h2 s2 (z1.append z2) hp⟩
            · rw [if_neg hz] at h2; exact h2.elim
end
end L2.MK
namespace L2.MK
open PySem PySem.Spec PyProof.Rows PySem.W He
/-! facts -/
def ccB (K : Frag) (C f : Str) (i : Int) : Bool := readsIn K (ga K C) (.type "type") && (eqO (specialIn K (.ref (ga K C)) "__getattribute__") (some (some (.builtin "type.__getattribute__"))) && (match findCls K (.ref (ga K C)) (.type "type") f with
  | some (.val (.int j _)) => decide (j = i)
  | _ => false))
theorem ccB_ok {K : Frag} {C f : Str} {i : Int} (h : ccB K C f i = true) : ClX.CRead K (ga K C) (.type "type") ∧ ∃ u, ClX.CVal K (ga K C) (.type "type") f (.int i) u := by
  obtain ⟨h1, h⟩ := ba h
  obtain ⟨h2, h⟩ := ba h
  refine ⟨⟨h1, eqO_ok h2⟩, ?_⟩
  split at h
  · rename_i j t e
    have := of_decide_eq_true h
    subst this
    exact ⟨_, e, _, rfl⟩
  · cases h
theorem pd_cconI {X : Cx} {W : WX} {x f : Str} {i : Int} {p pos : Pos} (hg : Gl X x) (hm : X.mg x = some (.ref (ga X.K x))) (c : ClX.CRead X.K (ga X.K x) (.type "type") ∧ ∃ u, ClX.CVal X.K (ga X.K x) (.type "type") f (.int i) u)
    (hd : (x == ("__debug__" : Str)) = false := by decide) (hb : attributeBase (.Name x p) f X.env (eval (.Name x p) X.env) = eval (.Name x p) X.env := by rfl) : PD X W (.Attribute (.Name x p) f pos) (eC (.int i)) := by
  obtain ⟨c1, u, c2⟩ := c
  exact pd_ccon hg hm c1 c2 (fun _ _ => .int _) hd hb
def prB (K : Frag) (C f : Str) : Bool := eqO (findIn K (.ref (ga K C)) f) (some (some (.ref (ma K (ga K C) f)))) && (eqO (specialIn K (.ref (ma K (ga K C) f)) "__get__") (some (some (.builtin "property.__get__"))) && (decide (takesIn K (.ref (ma K (ga K C) f)) = some true) &&
  (match recIn K (ma K (ga K C) f) "property" with
  | some (.ref _ :: _) => true
  | _ => false)))
theorem prB_ok {K : Frag} {C f : Str} (h : prB K C f = true) : PropOf K (ga K C) f (ma K (ga K C) f) (pAd K (C, some f)) := by
  obtain ⟨h1, h⟩ := ba h
  obtain ⟨h2, h⟩ := ba h
  obtain ⟨h3, h⟩ := ba h
  refine ⟨eqO_ok h1, eqO_ok h2, of_decide_eq_true h3, ?_⟩
  split at h
  · rename_i g r e
    have e2 : pAd K (C, some f) = g := by
      unfold pAd
      show (match recIn K (ma K (ga K C) f) "property" with
        | some (.ref g :: _) => g
        | _ => 0) = g
      rw [e]
    rw [e2]
    exact ⟨r, e⟩
  · cases h
def ofB (K : Frag) (C m : Str) : Bool := eqO (findIn K (.ref (ga K C)) m) (some (some (.ref (fAd K (C, some m))))) && isFn K (.ref (fAd K (C, some m)))
theorem ofB_ok {K : Frag} {C m : Str} (h : ofB K C m = true) : findIn K (.ref (ga K C)) m = some (some (.ref (fAd K (C, some m)))) ∧ isFn K (.ref (fAd K (C, some m))) = true := by
  obtain ⟨h1, h2⟩ := ba h
  exact ⟨eqO_ok h1, h2⟩
def nfB (K : Frag) (C : Str) (Ci : List Str) : Bool := (seven.all fun T => notFirst K (ga K C) (.type T)) && Ci.all fun D => notFirst K (ga K C) (.ref (ga K D))
theorem nfB_ok {K : Frag} {C : Str} {Ci : List Str} (h : nfB K C Ci = true) : (∀ T ∈ seven, notFirst K (ga K C) (.type T) = true) ∧ ∀ D ∈ Ci, notFirst K (ga K C) (.ref (ga K D)) = true := by
  obtain ⟨h1, h2⟩ := ba h
  exact ⟨fun T hT => List.all_eq_true.mp h1 T hT, fun D hD => List.all_eq_true.mp h2 D hD⟩
def neB (K : Frag) (C : Str) : Bool := eqO (findIn K (.ref (ga K C)) "__ne__") (some (some (.builtin "object.__ne__"))) && decide (mroIn K (ga K C) (.type "object") = some true)
theorem neB_ok {K : Frag} {C : Str} (h : neB K C = true) : findIn K (.ref (ga K C)) "__ne__" = some (some (.builtin "object.__ne__")) ∧ mroIn K (ga K C) (.type "object") = some true := by
  obtain ⟨h1, h2⟩ := ba h
  exact ⟨eqO_ok h1, of_decide_eq_true h2⟩
end L2.MK

end

section
set_option Elab.async false
set_option linter.all false
set_option maxRecDepth 100000
set_option maxHeartbeats 1000000
set_option autoImplicit false
/-! Defs with a star; calls of them; own operators that may raise; kept properties. -/
namespace L2.MK
open PySem PySem.Spec PyProof.Rows PySem.W

/-- a def with a star parameter: all arguments at once -/
structure FnV (P : Program) (w : World) (K : Frag) (mg : Str → Option Value) (base : Heap) (k : Nat) (f : Addr) (g : List D → Ev D) : Prop where
  run : ∀ (A : Around) (outer : List PySem.Env) (s : Shared) (H : Hp) (us : List Value) (vs : List V) (Q : VK) (E : XK) (ρ : List (Option Addr)) (M : Sto) (ds : List D), Room k A → A.guards = some [] → Env0 P w K mg base A outer s H →
    Vals vs us → StOk K ρ M H → Dens K ρ (frz ρ H) ds vs → Res K E ρ H Q (g ds M) →
    codeAny (model P w) A (.call (.ref f) ⟨us, []⟩) (CR (CX P w) outer P w H s Q E) s
/-- what is left over, in a tuple -/
def starV (n : Nat) (g : List D → Ev D) : List D → Ev D := fun ds M => if n ≤ ds.length ∧ ds.length ≤ sizeLine then g (ds.take n ++ [.tup (ds.drop n)]) M else .stuck
section
variable {P : Program} {w : World} {K : Frag} {mg : Str → Option Value} {base : Heap} {k : Nat} {f : Addr} {fd : FuncData} {ps : List Str} {g : List D → Ev D}
theorem FnV.mono {j k : Nat} (F : FnV P w K mg base j f g) (h : j ≤ k) : FnV P w K mg base k f g := ⟨fun A outer s H us vs Q E ρ M ds hr => F.run A outer s H us vs Q E ρ M ds (hr.mono h)⟩
theorem okV {x qual pv : Str} {params : Arguments} {body : List Stmt} {scope : Scope} {kws : List (Str × V)} {N : List Str} {fb : SF} (F : FunD K x qual params body scope [] kws f fd) (S : FnScope N (ps ++ [pv]) scope)
    (hb : ∀ (kV doc pm : Value) (an : Option Addr) (cdv ct : Value) (us rest : List Value), us.length = ps.length → bindArgs (PySem.W.fnOf x qual params body scope .none kV doc pm an cdv ct) ⟨us ++ rest, []⟩ = (newTuple rest >>= fun t => pure (ps.zip us ++ [(pv, t)])))
    (hbody : ∀ (cdv : Value) (A : Around) (outer : List PySem.Env) (s : Shared) (H : Hp) (E : XK), Room k (A.deeper (envOfC qual scope s.heap.objs.size f cdv)) → (A.deeper (envOfC qual scope s.heap.objs.size f cdv)).guards = some [] →
      Takes (cxOf (CX P w) P w K mg base N qual scope f cdv A outer s H E) (fun c d _ H' => E c d H') → PassesOwn (model P w) (A.deeper (envOfC qual scope s.heap.objs.size f cdv)) (envOfC qual scope s.heap.objs.size f cdv) (cxOf (CX P w) P w K mg base N qual scope f cdv A outer s H E).xe →
      PDSs (cxOf (CX P w) P w K mg base N qual scope f cdv A outer s H E) (fun c d _ H' => E c d H') body fb) : FnV P w K mg base (k + 1) f (starV ps.length fun ds M => bodyO (fb (startD N ds) M)) := by
  obtain ⟨oc, od, dV, kV, doc, pm, an, cdv, ct, osl, rfl, lk, hcd, hD0, _⟩ := F.ex
  obtain rfl : dV = .none := by
    rcases hD0 with ⟨_, e⟩ | ⟨e, _⟩
    · exact e
    · exact absurd rfl e
  refine ⟨fun A outer s H us vs Q E ρ M ds hr hg e0 r hS hD hres => ?_⟩
  unfold starV at hres
  by_cases hc : ps.length ≤ ds.length ∧ ds.length ≤ sizeLine
  · rw [if_pos hc] at hres
    have hdl : ds.length = vs.length := hD.length
    have hn : H s.heap.objs.size = Option.none := e0.hok.fresh (Nat.le_refl _)
    obtain ⟨u1, u2, eu, r1, r2⟩ := StX.vals_split (ws := vs.take ps.length) (rest := vs.drop ps.length) (us := us) (by rw [List.take_append_drop]; exact r)
    subst eu
    have hl : (vs.take ps.length).length = ps.length := by rw [List.length_take]; omega
    have hl1 : u1.length = ps.length := by rw [← r1.length]; exact hl
    have hz : (vs.drop ps.length).length ≤ sizeLine := by rw [List.length_drop]; omega
    have hl2 : u2.length ≤ sizeLine := by rw [← r2.length]; exact hz
    refine StX.run_bnd lk hcd S hr e0 (G := fun xs H2 => ∃ p, H p = Option.none ∧ xs = vs.take ps.length ++ [V.ref p] ∧ H2 = upd H p (.tup (vs.drop ps.length))) (fun A' Ex Q' h => ?_) fun s2 H2 xs ⟨p, hp, ex, eH⟩ hr' => ?_
    · rw [hb kV doc pm an cdv ct u1 u2 hl1]
      refine wpAny_bind (wpAny_newTuple (wpAny_pure ?_) hl2)
      have new : ObjOk P w (upd H s.heap.objs.size (.tup (vs.drop ps.length))) (s.heap.push ({ cls := .type "tuple", data := .seq u2.toArray } : Obj)) s.heap.objs.size (.tup (vs.drop ps.length)) := ⟨hz, u2, r2, ⟨_, Heap.get?_push_size _ rfl, rfl, _, rfl⟩⟩
      have un := StX.un_laid (fs := frs outer) (s := s) (o := ({ cls := .type "tuple", data := .seq u2.toArray } : Obj)) (u := .tup (vs.drop ps.length)) hn
      have z := h _ _ (vs.take ps.length ++ [V.ref s.heap.objs.size]) (u1 ++ [Value.ref s.heap.objs.size]) (StX.env0_laid e0 new) un rfl (fun e s' => StX.cxUp outer s H _ _ E e s' un (fun b o q => Heap.get?_push_of_some _ q) rfl) (r1.append (.cons rfl .nil))
        (by rw [List.length_append, List.length_append, hl] <;> rfl) ⟨_, hn, rfl, rfl⟩
      rw [List.zip_append hl1.symm] at z
      exact z
    · subst ex eH
      refine ⟨_, hbody cdv A outer s2 _ E hr' (by exact hg) (takes_of rfl rfl rfl rfl) (passes_of rfl), ?_⟩
      have n1 : Nx ρ H ρ (upd H p (.tup (vs.drop ps.length))) := Nx.new hp
      have S1 : StOk K ρ M (upd H p (.tup (vs.drop ps.length))) := hS.new hp
      have D1 : Dens K ρ (frz ρ (upd H p (.tup (vs.drop ps.length)))) (ds.take ps.length ++ [.tup (ds.drop ps.length)]) (vs.take ps.length ++ [V.ref p]) :=
        ((hD.take _).mono n1.ext).append (.cons (.tup (.of (frz_at (hS.notin hp) upd_same)) ((hD.drop _).mono n1.ext)) .nil)
      have hE : DenE K ρ (frz ρ (upd H p (.tup (vs.drop ps.length)))) (startD N (ds.take ps.length ++ [.tup (ds.drop ps.length)])) (start N (vs.take ps.length ++ [V.ref p])) := by
        unfold startD start
        rw [D1.length]
        exact denE_start D1
      refine ⟨ρ, _, M, hE, S1, ?_⟩
      have hres : Res K E ρ (upd H p (.tup (vs.drop ps.length))) Q (bodyO (fb (startD N (ds.take ps.length ++ [.tup (ds.drop ps.length)])) M)) := Res.nx n1 hres
      revert hres
      cases fb (startD N (ds.take ps.length ++ [.tup (ds.drop ps.length)])) M with
      | nx δ' M' => exact fun h ρ' σ' H' n s _ => h ρ' .non H' n s .non
      | ret d M' => exact fun h => h
      | exc C fs δ' M' => exact fun h ρ' d σ' H' n s _ r => h ρ' d H' n s r
      | stuck => exact fun h => h
  · rw [if_neg hc] at hres
    exact hres.elim
end
section
variable {X : Cx} {W : WX} {k : Nat} {f : Addr} {g : List D → Ev D} {x C : Str} {p pos spos : Pos} {e : Expr} {es : List Expr} {fa : AF} {fo : EF}
theorem run_makeV {pins : List (Addr × Obj)} {σ : St} {H : Hp} {s : Shared} {Q : VK} {us : List Value} {vs : List V} {ρ : List (Option Addr)} {M : Sto} {as : List D} (Mq : Mk X.K (He.ga X.K C) f) (F : FnV X.prog X.w X.K X.mg X.base k f g) (hr : Room (k + 1) X.A) (hg : X.A.guards = some [])
    (tk : Takes X W) (I : Inv X pins σ H s) (r : Vals vs us) (S : StOk X.K ρ M H) (rd : Dens X.K ρ (frz ρ H) as vs) (h : Res X.K (fun c d H' => W c d σ H') ρ H Q (makeK C g as M)) :
    wpAny (model X.prog X.w) X.A (call (.ref (He.ga X.K C)) us) (EP X pins σ Q) X.xe s := by
  have hx : H (s.heap.objs.size + 1) = none := I.hok.fresh (Nat.le_succ _)
  have hdx : H s.heap.objs.size = none := I.hok.fresh (Nat.le_refl _)
  have ne : s.heap.objs.size ≠ s.heap.objs.size + 1 := Nat.ne_of_lt (Nat.lt_succ_self _)
  have I2 := Inv.made (C := He.ga X.K C) I
  have n2 := Nx.push2 (ρ := ρ) (C := He.ga X.K C) (o1 := .own (s.heap.objs.size + 1)) (o2 := .ins (He.ga X.K C) s.heap.objs.size []) hx hdx ne
  have S2 := StOk.push2 (C := C) S hx hdx ne
  have r2 : Vals (V.ref (s.heap.objs.size + 1) :: vs) (Value.ref (s.heap.objs.size + 1) :: us) := .cons rfl r
  have rd2 : Dens X.K (ρ ++ [some (s.heap.objs.size + 1)]) (frz (ρ ++ [some (s.heap.objs.size + 1)]) (upd (upd H s.heap.objs.size (.own (s.heap.objs.size + 1))) (s.heap.objs.size + 1) (.ins (He.ga X.K C) s.heap.objs.size []))) (.ref M.length :: as) (V.ref (s.heap.objs.size + 1) :: vs) := by
    refine .cons (.ref ?_) (rd.mono n2.ext)
    rw [← S.len, List.getElem?_append_right (Nat.le_refl _)]
    simp
  have h2 : Res X.K (fun c d H' => W c d σ H') (ρ ++ [some (s.heap.objs.size + 1)]) (upd (upd H s.heap.objs.size (.own (s.heap.objs.size + 1))) (s.heap.objs.size + 1) (.ins (He.ga X.K C) s.heap.objs.size []))
      (fun v H2 => v = .non ∧ Q (.ref (s.heap.objs.size + 1)) H2) (g (.ref M.length :: as) (M ++ [.ins C []])) := by
    unfold makeK at h
    revert h
    cases e1 : g (.ref M.length :: as) (M ++ [.ins C []]) with
    | stuck => exact fun h => h
    | exc C' fs M' => exact fun h ρ' d H' n s r => h ρ' d H' (n2.trans n) s r
    | ok d M' =>
      intro h
      cases d with
      | non =>
        intro ρ' v H' n s' r'
        cases r'
        refine ⟨rfl, h ρ' _ H' (n2.trans n) s' (.ref (n.refs _ _ ?_))⟩
        rw [← S.len, List.getElem?_append_right (Nat.le_refl _)]
        simp
      | _ => exact h.elim
  refine wpAny_call (make_map (f := f) I.kIn Mq.makes Mq.init (beq_iff_eq.mp Mq.fn) (codeAny_mono (F.run _ X.stack _ _ (Value.ref (s.heap.objs.size + 1) :: us) _ _ (fun c d H' => W c d σ H') _ _ _ (hr.make _ us []) ?_
    (I2.env0.make _ us []) r2 S2 rd2 h2) fun r s' hq' => ?_))
  · have e0 : (X.A.under (.builtin "type.__call__" ⟨.ref (He.ga X.K C) :: us, []⟩)).guards = X.A.guards := by
      first
        | rfl
        | simp [Around.under, pushGuards, Code.guards, Code.isGuard, guardIds]
    rw [e0]; exact hg
  · cases r with
    | error e => exact tk _ _ (XE.of_call I2 (fun cls d H' h => h) hq')
    | ok fl =>
      cases fl with
      | ret u =>
        obtain ⟨v, H', I3, rv, ev, q3⟩ := I2.after hq'
        subst ev
        exact ⟨rv, ⟨V.ref (s.heap.objs.size + 1), H', I3, rfl, q3⟩⟩
      | next => exact False.elim hq'
      | brk => exact False.elim hq'
      | cont => exact False.elim hq'
/-- what is behind the arguments -/
theorem make_res {σ : St} {H : Hp} {Q : VK} {δ : Env} {M : Sto} {ρ : List (Option Addr)} (hE : DenE X.K ρ (frz ρ H) δ σ) (hS : StOk X.K ρ M H) (h : Res X.K (fun c d H' => W c d σ H') ρ H Q ((fa δ >>= makeT C g) M)) :
    rdA X.K W fa σ H fun vs H1 => ∃ ρ1 as M1, StOk X.K ρ1 M1 H1 ∧ Dens X.K ρ1 (frz ρ1 H1) as vs ∧ Res X.K (fun c d H' => W c d σ H') ρ1 H1 Q (makeK C g as M1) := by
  refine ⟨ρ, δ, M, hE, hS, ?_⟩
  rw [Ev.bind_run] at h
  cases e1 : fa δ M with
  | stuck => rw [e1] at h; exact h
  | exc C fs M' => rw [e1] at h; exact h
  | ok as M' =>
    rw [e1] at h
    intro ρ' vs H' n s r
    exact ⟨ρ', as, M', s, r, trim_of s.len (Res.nx n h)⟩
theorem pd_makeV (Mq : Mk X.K (He.ga X.K C) f) (F : FnV X.prog X.w X.K X.mg X.base k f g) (hm : X.mg C = some (.ref (He.ga X.K C))) (hr : Room (k + 1) X.A) (hgu : X.A.guards = some []) (tk : Takes X W) (hg : Gl X C)
    (ha : PDA X W (e :: es) fa) (hdb : (C == ("__debug__" : Str)) = false := by decide) (he : starEach (e :: es) X.env = (false, eval e X.env) :: starEach es X.env := by rfl) (hpl : (backTo pos (starEach es X.env)).any (·.1) = false := by rfl) :
    PD X W (.Call (.Name C p) (e :: es) [] pos) (eFun (makeT C g) fa) := by
  refine ⟨fun pins s σ H Q I ⟨ρ, δ, M, hE, hS, h⟩ => ?_⟩
  refine wpAny_Call_Name_kw (ld_glob I hg hm ?_ hdb)
  exact PySem.W.callWith_K (h₀ := X.base) I.ok.mod.kin Mq.kp (thn (ha.run pos pins s σ H _ I (make_res hE hS h)) fun us s1 ⟨vs, H1, I1, r, ρ1, as, M1, s1', r1, q1⟩ => ⟨I1.kIn, run_makeV Mq F hr hgu tk I1 r s1' r1 q1⟩) he hpl
theorem pd_makeV0 (Mq : Mk X.K (He.ga X.K C) f) (F : FnV X.prog X.w X.K X.mg X.base k f g) (hm : X.mg C = some (.ref (He.ga X.K C))) (hr : Room (k + 1) X.A) (hgu : X.A.guards = some []) (tk : Takes X W) (hg : Gl X C)
    (hdb : (C == ("__debug__" : Str)) = false := by decide) :
    PD X W (.Call (.Name C p) [] [] pos) (eFun (makeT C g) aNil) := by
  refine ⟨fun pins s σ H Q I ⟨ρ, δ, M, hE, hS, h⟩ => ?_⟩
  refine wpAny_Call_Name_kw (ld_glob I hg hm ?_ hdb)
  have h : Res X.K (fun c d H' => W c d σ H') ρ H Q (makeK C g [] M) := trim_of hS.len h
  exact PySem.W.callWith_K0 I.kIn Mq.kp (run_makeV (us := []) (vs := []) Mq F hr hgu tk I .nil hS .nil h)
/-- C(*e) -/
def evSpread (d : D) : Ev (List D) := fun M => match sqD M d with
  | some xs => .ok xs M
  | none => .stuck
def aStar (f : EF) : AF := fun δ => f δ >>= evSpread
theorem pd_makeVS (Mq : Mk X.K (He.ga X.K C) f) (F : FnV X.prog X.w X.K X.mg X.base k f g) (hm : X.mg C = some (.ref (He.ga X.K C))) (hr : Room (k + 1) X.A) (hgu : X.A.guards = some []) (tk : Takes X W) (hg : Gl X C)
    (ha : PD X W e fo) (hdb : (C == ("__debug__" : Str)) = false := by decide) (hst : starEach [.Starred e spos] X.env = [(true, eval e X.env)] := by rfl) :
    PD X W (.Call (.Name C p) [.Starred e spos] [] pos) (eFun (makeT C g) (aStar fo)) := by
  refine ⟨fun pins s σ H Q I ⟨ρ, δ, M, hE, hS, h⟩ => ?_⟩
  refine wpAny_Call_Name_kw (ld_glob I hg hm ?_ hdb)
  have h' : Res X.K (fun c d H' => W c d σ H') ρ H Q ((fo δ >>= fun d => evSpread d >>= makeT C g) M) := by
    have e : (fo δ >>= fun d => evSpread d >>= makeT C g) M = (aStar fo δ >>= makeT C g) M := by
      unfold aStar
      simp only [Ev.bind_run]
      cases fo δ M <;> rfl
    rw [e]; exact h
  refine PySem.W.callWith_S (h₀ := X.base) I.ok.mod.kin Mq.kp (thn (ha.run pins s σ H _ I (rd_bind (f := fo) (g := fun d => evSpread d >>= makeT C g) hE hS h')) fun v s1 ⟨y, H1, I1, ry, ρ1, d1, M1, n1, e1, S1, r1, q1⟩ => ?_) hst
  rw [Ev.bind_run] at q1
  unfold evSpread at q1
  cases e2 : sqD M1 d1 with
  | none => rw [e2] at q1; exact q1.elim
  | some xs =>
    rw [e2] at q1
    obtain ⟨a, vs, rfl, hs, hv⟩ := sqD_of S1 r1 e2
    obtain rfl : v = Value.ref a := ry
    refine StX.star_any I1 hs.symm fun us s2 I2 rv => ⟨I2.kIn, ?_⟩
    exact run_makeV Mq F hr hgu tk I2 rv S1 hv (trim_of S1.len q1)
end

/-! ### own operators that may raise; properties whose new things are kept -/
structure OwnB (P : Program) (w : World) (K : Frag) (mg : Str → Option Value) (base : Heap) (k : Nat) (C nm : Str) (g : List D → Ev D) : Prop where
  sf : PySem.W.selfFirst K (He.ga K C) = true
  fn : OwnF P w K mg base k C nm 2 g
def evBinO (ms : GT) (x y : D) : Ev D := fun M => match insOf M x with
  | some C => (match ms.lookup C with
    | some g => if insOf M y = some C then callT g [x, y] M else .stuck
    | none => .stuck)
  | none => .stuck
def eBinO (ms : GT) (fa fb : EF) : EF := fun δ => fa δ >>= fun x => fb δ >>= fun y => evBinO ms x y
section
variable {X : Cx} {W : WX} {k : Nat}
theorem cmpBack_of {pins : List (Addr × Obj)} {σ : St} {Q : VK} {u : Value} {s' : Shared} (h : EP X pins σ Q u s') : PySem.W.CmpBack (EP X pins σ Q) u s' := by
  obtain ⟨v, H', I, r, q⟩ := h
  exact SlX.cmpback r ⟨v, H', I, r, q⟩
theorem pd_binO {op : Operator} {nm : Str} {ms : GT} {a b : Expr} {fa fb : EF} {pos : Pos} (hnm : PySem.dunder op.info.2 = nm) (hr : Room (k + 1) X.A) (hg : X.A.guards = some []) (tk : Takes X W) (o : ∀ p ∈ ms, OwnB X.prog X.w X.K X.mg X.base k p.1 nm p.2)
    (ha : PD X W a fa) (hb : PD X W b fb) : PD X W (.BinOp a op b pos) (eBinO ms fa fb) := by
  refine ⟨fun pins s σ H Q I ⟨ρ, δ, M, hE, hS, h⟩ => ?_⟩
  have h0 : tOp (fun x y H Q => ∃ ρ M d e, StOk X.K ρ M H ∧ Den X.K ρ (frz ρ H) d x ∧ Den X.K ρ (frz ρ H) e y ∧ Res X.K (fun c d H' => W c d σ H') ρ H Q (evBinO ms d e M)) (rd X.K W fa) (rd X.K W fb) σ H Q :=
    rd_mono (rd_bind (f := fa) (g := fun x => fb δ >>= fun y => evBinO ms x y) hE hS h) fun x H1 ⟨ρ1, d1, M1, n1, e1, s1, r1, h1⟩ =>
      rd_mono (rd_bind (f := fb) (g := fun y => evBinO ms d1 y) e1 s1 h1) fun y H2 ⟨ρ2, d2, M2, n2, e2, s2, r2, h2⟩ => ⟨ρ2, M2, d1, d2, s2, r1.mono n2.ext, r2, h2⟩
  refine wpAny_BinOp (binT ha hb I h0 fun v u s2 x y H2 I2 rx ry ⟨ρ2, M2, d, e, S, ra, rb, q⟩ => ?_)
  unfold evBinO at q
  cases e0 : insOf M2 d with
  | none => rw [e0] at q; exact q.elim
  | some C =>
    rw [e0] at q
    simp only at q
    cases e2 : ms.lookup C with
    | none => rw [e2] at q; exact q.elim
    | some g =>
      rw [e2] at q
      simp only at q
      by_cases hk : insOf M2 e = some C
      · rw [if_pos hk] at q
        obtain ⟨sf, fn⟩ := o _ (gt_mem e2)
        obtain ⟨f, fd, ps, hs, hf, F, hbi, hl⟩ := fn.ex
        obtain ⟨ad, dx, fs, rfl, hA⟩ := insOf_of S ra e0
        obtain ⟨ae, dxe, fse, rfl, hB⟩ := insOf_of S rb hk
        cases (show v = Value.ref ad from rx)
        cases (show u = Value.ref ae from ry)
        obtain ⟨mA, O, _⟩ := ins_get I2.hok hA
        obtain ⟨od, J, _⟩ := O.look
        obtain ⟨mB, OB, _⟩ := ins_get I2.hok hB
        obtain ⟨odB, JB, _⟩ := OB.look
        obtain ⟨m, hF⟩ := I2.fr
        refine PySem.W.binop_K hF I2.ok.mod.kin J JB.type sf (by rw [hnm]; exact hs) hf ?_
        exact wpAny_mono (run_fnG (us := [.ref ad, .ref ae]) (vs := [.ref ad, .ref ae]) (ds := []) (dvs := []) (as := [d, e]) F (Room.mono hr (Nat.le_succ _)) hg hbi .nil tk I2 (.cons rfl (.cons rfl .nil)) hl.symm S (.cons ra (.cons rb .nil)) (trim_of S.len q)) (fun _ _ z => cmpBack_of z) fun _ _ z => z
      · rw [if_neg hk] at q; exact q.elim
def evPrK (ms : GT) (d : D) : Ev D := fun M => match insOf M d with
  | some C => (match ms.lookup C with
    | some g => callK g [d] M
    | none => .stuck)
  | none => .stuck
theorem pd_propK {ms : GT} {n : Str} {e : Expr} {fo : EF} {pos : Pos} (hr : Room (k + 1) X.A) (hg : X.A.guards = some []) (o : ∀ p ∈ ms, OwnP X.prog X.w X.K X.mg X.base k p.1 n p.2) (he : PD X W e fo) (hb : attributeBase e n X.env (eval e X.env) = eval e X.env := by rfl) :
    PD X W (.Attribute e n pos) (eUnE (evPrK ms) fo) := by
  refine ⟨fun pins s σ H Q I ⟨ρ, δ, M, hE, hS, h⟩ => ?_⟩
  refine attr_of hb (thn (he.run pins s σ H _ I (rd_bind (f := fo) (g := fun x => noX (evPrK ms x)) hE hS h)) fun u s1 ⟨x, H1, I1, rx, ρ1, d, M1, n1, e1, S, ra, h1⟩ => ?_)
  replace h1 : Res X.K (fun _ _ _ => False) ρ1 H1 Q (evPrK ms d M1) := noX_of h1
  unfold evPrK at h1
  cases e0 : insOf M1 d with
  | none => rw [e0] at h1; exact h1.elim
  | some C =>
    rw [e0] at h1
    simp only at h1
    cases e2 : ms.lookup C with
    | none => rw [e2] at h1; exact h1.elim
    | some g =>
      rw [e2] at h1
      simp only at h1
      obtain ⟨c, p, f, fd, ps, hp, F, hbi, hl⟩ := o _ (gt_mem e2)
      obtain ⟨ad, dx, fs, rfl, hA⟩ := insOf_of S ra e0
      cases (show u = Value.ref ad from rx)
      obtain ⟨mA, O, _, _, _, _⟩ := ins_get I1.hok hA
      obtain ⟨od, J, _⟩ := O.look
      obtain ⟨rest, hrec⟩ := hp.rec_
      have I2 := I1.tok (s1.toks + 1)
      have hc : (PySem.W.clsIn X.K (He.ga X.K C)).isSome = true := by
        obtain ⟨cd, hc, _⟩ := PySem.W.any_some c.hd
        rw [hc]
        rfl
      refine PySem.W.get_bind I1.kIn J (PySem.W.plainGet_of (c.get n)).1 (PySem.W.findObj_data hc hp.at_ hp.get hp.tak) (PySem.W.plainGet_of (c.get n)).2 (wpAny_call (PySem.W.prop_get (s := { s1 with toks := s1.toks + 1 }) I1.kIn hrec ?_))
      refine codeAny_mono (F.run X.A.in1 X.stack { s1 with toks := s1.toks + 1 } H1 ⟨[.ref ad], []⟩ [.ref ad] [.ref ad] Q (fun _ _ _ => False) ρ1 M1 [d] hr.in1 hg I2.env0.in1 (by simpa using hbi { s1 with toks := s1.toks + 1 } [.ref ad] I2.kIn (by simpa using hl.symm)) (.cons rfl .nil) hl.symm S (.cons ra .nil) h1) fun r s' hq => ?_
      cases r with
      | error er =>
        obtain ⟨_, _, _, _, _, _, _, _, _, _, _, _, z⟩ := hq
        exact z.elim
      | ok fl =>
        cases fl with
        | ret u =>
          obtain ⟨v, H', I3, rv, q3⟩ := I2.after hq
          show wpAny _ _ (handedOut u) _ _ _
          rw [PySem.W.handedOut_of (handed_of rv)]
          exact wpAny_pure ⟨v, H', I3, rv, q3⟩
        | next => exact False.elim hq
        | brk => exact False.elim hq
        | cont => exact False.elim hq
end
end L2.MK

end

section
set_option Elab.async false
set_option linter.all false
set_option maxRecDepth 100000
set_option maxHeartbeats 2000000
set_option autoImplicit false
/-! What denotations give: rules to reckon with. No program in sight. -/
namespace L2.MK
open PySem PySem.Spec PyProof.Rows PySem.W

abbrev XP := Str → List (Str × D) → Sto → Prop
@[irreducible] def Wp {α : Type} (o : Out α) (Q : α → Sto → Prop) (X : XP) : Prop := match o with
  | .ok a M => Q a M
  | .exc C fs M => X C fs M
  | .stuck => False
def Sm {α : Type} (o : Option α) (P : α → Prop) : Prop := match o with
  | some a => P a
  | none => False
abbrev XS := Str → List (Str × D) → Env → Sto → Prop
@[irreducible] def Ws (o : SO) (N : Env → Sto → Prop) (R : D → Sto → Prop) (X : XS) : Prop := match o with
  | .nx δ M => N δ M
  | .ret d M => R d M
  | .exc C fs δ M => X C fs δ M
  | .stuck => False
/-- nothing is raised -/
abbrev X0 : XP := fun _ _ _ => False
abbrev XS0 : XS := fun _ _ _ _ => False
theorem Sm.of {α : Type} {o : Option α} {P : α → Prop} {a : α} (e : o = some a) (h : P a) : Sm o P := by rw [e]; exact h
theorem Sm.get {α : Type} {o : Option α} {P : α → Prop} (h : Sm o P) : ∃ a, o = some a ∧ P a := by
  cases o with
  | none => exact h.elim
  | some a => exact ⟨a, rfl, h⟩
theorem wp_ok {α : Type} {a : α} {M : Sto} {Q : α → Sto → Prop} {X : XP} : Wp (.ok a M) Q X ↔ Q a M := by with_unfolding_all exact Iff.rfl
theorem sm_some {α : Type} {P : α → Prop} (a : α) : Sm (some a) P ↔ P a := Iff.rfl
theorem sm_none {α : Type} {P : α → Prop} : Sm (none : Option α) P ↔ False := Iff.rfl
theorem sm_map {α β : Type} {P : β → Prop} (f : α → β) (o : Option α) : Sm (o.map f) P ↔ Sm o (fun a => P (f a)) := by cases o <;> exact Iff.rfl
theorem sm_bind {α β : Type} {P : β → Prop} (f : α → Option β) (o : Option α) : Sm (o.bind f) P ↔ Sm o (fun a => Sm (f a) P) := by cases o <;> exact Iff.rfl
theorem sm_ite {α : Type} {P : α → Prop} {c : Prop} [Decidable c] {a : α} : Sm (if c then some a else none) P ↔ c ∧ P a := by
  by_cases h : c
  · rw [if_pos h]; exact ⟨fun z => ⟨h, z⟩, fun z => z.2⟩
  · rw [if_neg h]; exact ⟨fun z => z.elim, fun z => h z.1⟩
theorem Sm.mono {α : Type} {o : Option α} {P P' : α → Prop} (h : Sm o P) (m : ∀ a, P a → P' a) : Sm o P' := by
  cases o with
  | none => exact h
  | some a => exact m a h
theorem Wp.mono {α : Type} {o : Out α} {Q Q' : α → Sto → Prop} {X : XP} (h : Wp o Q X) (m : ∀ a M, Q a M → Q' a M) : Wp o Q' X := by with_unfolding_all
  cases o with
  | ok a M => exact m a M h
  | exc C fs M => exact h
  | stuck => exact h
theorem Wp.monoX {α : Type} {o : Out α} {Q Q' : α → Sto → Prop} {X X' : XP} (h : Wp o Q X) (m : ∀ a M, Q a M → Q' a M) (mx : ∀ C fs M, X C fs M → X' C fs M) : Wp o Q' X' := by with_unfolding_all
  cases o with
  | ok a M => exact m a M h
  | exc C fs M => exact mx C fs M h
  | stuck => exact h
theorem Wp.any {α : Type} {o : Out α} {Q Q' : α → Sto → Prop} {X : XP} (h : Wp o Q X0) (m : ∀ a M, Q a M → Q' a M) : Wp o Q' X := h.monoX m fun _ _ _ z => z.elim
theorem Ws.mono {o : SO} {N N' : Env → Sto → Prop} {R R' : D → Sto → Prop} {X X' : XS} (h : Ws o N R X) (m : ∀ δ M, N δ M → N' δ M) (m2 : ∀ d M, R d M → R' d M) (mx : ∀ C fs δ M, X C fs δ M → X' C fs δ M) : Ws o N' R' X' := by with_unfolding_all
  cases o with
  | nx δ M => exact m δ M h
  | ret d M => exact m2 d M h
  | exc C fs δ M => exact mx C fs δ M h
  | stuck => exact h
section
variable {α β : Type} {Q : α → Sto → Prop} {X : XP} {QD : D → Sto → Prop} {M : Sto} {δ : Env} {N : Env → Sto → Prop} {R : D → Sto → Prop} {XX : XS}
theorem w_bind (m : Ev β) (f : β → Ev α) : Wp ((m >>= f) M) Q X ↔ Wp (m M) (fun a M' => Wp (f a M') Q X) X := by with_unfolding_all
  rw [Ev.bind_run]; cases m M <;> exact Iff.rfl
theorem w_pure (a : α) : Wp (Ev.pure a M) Q X ↔ Q a M := by with_unfolding_all exact Iff.rfl
theorem w_pure' (a : α) : Wp ((Pure.pure a : Ev α) M) Q X ↔ Q a M := by with_unfolding_all exact Iff.rfl
theorem w_fail : Wp ((Ev.fail : Ev α) M) Q X ↔ False := by with_unfolding_all exact Iff.rfl
theorem w_opt (o : Sto → Option D) : Wp (opt o M) QD X ↔ Sm (o M) (fun d => QD d M) := by with_unfolding_all
  unfold opt; cases o M <;> exact Iff.rfl
theorem w_var (i : Nat) : Wp (eVar i δ M) QD X ↔ Sm (δ[i]?.join) (fun d => QD d M) := by with_unfolding_all
  unfold eVar Ev.get; cases δ[i]?.join <;> exact Iff.rfl
theorem w_C (d : D) : Wp (eC d δ M) QD X ↔ QD d M := by with_unfolding_all exact Iff.rfl
theorem w_bin (g : OF) (fa fb : EF) : Wp (eBin g fa fb δ M) QD X ↔ Wp (fa δ M) (fun x M1 => Wp (fb δ M1) (fun y M2 => Sm (g x y M2) (fun d => QD d M2)) X) X := by
  unfold eBin; simp only [w_bind, w_opt]
theorem w_un (g : D → Sto → Option D) (fa : EF) : Wp (eUn g fa δ M) QD X ↔ Wp (fa δ M) (fun x M1 => Sm (g x M1) (fun d => QD d M1)) X := by
  unfold eUn; simp only [w_bind, w_opt]
theorem w_call (g : GF) (fa : AF) : Wp (eCall g fa δ M) QD X ↔ Wp (fa δ M) (fun ds M1 => Sm (g ds M1) (fun d => QD d M1)) X := by
  unfold eCall; simp only [w_bind, w_opt]
theorem w_fun (g : List D → Ev D) (fa : AF) : Wp (eFun g fa δ M) QD X ↔ Wp (fa δ M) (fun ds M1 => Wp (g ds M1) QD X) X := by
  unfold eFun; simp only [w_bind]
theorem w_nil {QL : List D → Sto → Prop} : Wp (aNil δ M) QL X ↔ QL [] M := by with_unfolding_all exact Iff.rfl
theorem w_cons {QL : List D → Sto → Prop} (f : EF) (g : AF) : Wp (aCons f g δ M) QL X ↔ Wp (f δ M) (fun d M1 => Wp (g δ M1) (fun ds M2 => QL (d :: ds) M2) X) X := by
  unfold aCons; simp only [w_bind, w_pure]
theorem w_tup (f : AF) : Wp (eTup f δ M) QD X ↔ Wp (f δ M) (fun ds M1 => ds.length ≤ sizeLine ∧ QD (.tup ds) M1) X := by
  unfold eTup; simp only [w_bind, w_opt, sm_ite]
theorem w_lst (f : AF) : Wp (eLst f δ M) QD X ↔ Wp (f δ M) (fun ds M1 => ds.length ≤ sizeLine ∧ QD (.lst ds) M1) X := by
  unfold eLst; simp only [w_bind, w_opt, sm_ite]
theorem w_lstM (f : AF) : Wp (eLstM f δ M) QD X ↔ Wp (f δ M) (fun ds M1 => ds.length ≤ sizeLine ∧ QD (.ref M1.length) (M1 ++ [.lst ds])) X := by with_unfolding_all
  have e : Wp (eLstM f δ M) QD X ↔ Wp (f δ M) (fun ds M1 => Wp ((if ds.length ≤ sizeLine then .ok (.ref M1.length) (M1 ++ [.lst ds]) else .stuck) : Out D) QD X) X := by
    exact w_bind (f δ) _
  refine e.trans ?_
  constructor <;> refine fun h => h.mono fun ds M1 z => ?_
  · split at z
    · exact ⟨by assumption, z⟩
    · exact z.elim
  · rw [if_pos z.1]; exact z.2
theorem w_dctM : Wp (eDctM δ M) QD X ↔ QD (.ref M.length) (M ++ [.dK []]) := by with_unfolding_all exact Iff.rfl
theorem w_isBl {QB : Bool → Sto → Prop} (b : Bool) : Wp (isBl (.bl b) M) QB X ↔ QB b M := by with_unfolding_all exact Iff.rfl
theorem w_tru {QB : Bool → Sto → Prop} (d : D) : Wp (tru d M) QB X ↔ Sm (truD M d) (fun b => QB b M) := by with_unfolding_all
  unfold tru; cases truD M d <;> exact Iff.rfl
theorem w_bTru {QB : Bool → Sto → Prop} (f : EF) : Wp (bTru f δ M) QB X ↔ Wp (f δ M) (fun d M1 => Sm (truD M1 d) (fun b => QB b M1)) X := by
  unfold bTru; simp only [w_bind, w_tru]
theorem w_bOf {QB : Bool → Sto → Prop} (f : EF) : Wp (bOf f δ M) QB X ↔ Wp (f δ M) (fun d M1 => Wp (isBl d M1) QB X) X := by
  unfold bOf; simp only [w_bind]
theorem wp_ite {c : Prop} [Decidable c] {m n : Ev α} : Wp ((if c then m else n) M) Q X ↔ if c then Wp (m M) Q X else Wp (n M) Q X := by
  split <;> exact Iff.rfl
theorem w_and (f g : EF) : Wp (eAnd f g δ M) QD X ↔ Wp (f δ M) (fun x M1 => Sm (truD M1 x) (fun k => if k = true then Wp (g δ M1) QD X else QD x M1)) X := by
  unfold eAnd; simp only [w_bind, w_tru, wp_ite, w_pure]
theorem w_or (f g : EF) : Wp (eOr f g δ M) QD X ↔ Wp (f δ M) (fun x M1 => Sm (truD M1 x) (fun k => if k = true then QD x M1 else Wp (g δ M1) QD X)) X := by
  unfold eOr; simp only [w_bind, w_tru, wp_ite, w_pure]
theorem w_not (f : EF) : Wp (eNot f δ M) QD X ↔ Wp (f δ M) (fun x M1 => Sm (truD M1 x) (fun k => QD (.bl !k) M1)) X := by
  unfold eNot; simp only [w_bind, w_tru, w_pure]
theorem wb_and {QB : Bool → Sto → Prop} (f g : BF) : Wp (bAnd f g δ M) QB X ↔ Wp (f δ M) (fun k M1 => if k = true then Wp (g δ M1) QB X else QB false M1) X := by
  unfold bAnd; simp only [w_bind, wp_ite, w_pure]
theorem wb_or {QB : Bool → Sto → Prop} (f g : BF) : Wp (bOr f g δ M) QB X ↔ Wp (f δ M) (fun k M1 => if k = true then QB true M1 else Wp (g δ M1) QB X) X := by
  unfold bOr; simp only [w_bind, wp_ite, w_pure]
theorem wb_not {QB : Bool → Sto → Prop} (f : BF) : Wp (bNot f δ M) QB X ↔ Wp (f δ M) (fun k M1 => QB (!k) M1) X := by
  unfold bNot; simp only [w_bind, w_pure]
theorem wb_yes {QB : Bool → Sto → Prop} : Wp (bYes δ M) QB X ↔ QB true M := by with_unfolding_all exact Iff.rfl
theorem w_if (c : BF) (f g : EF) : Wp (eIf c f g δ M) QD X ↔ Wp (c δ M) (fun k M1 => if k = true then Wp (f δ M1) QD X else Wp (g δ M1) QD X) X := by
  unfold eIf; simp only [w_bind, wp_ite]
theorem w_chain (g g' : OF) (fa fb fc : EF) : Wp (eChain g g' fa fb fc δ M) QD X ↔ Wp (fa δ M) (fun x M1 => Wp (fb δ M1) (fun y M2 => Sm (g x y M2) (fun z => Wp (isBl z M2) (fun k M3 => if k = true then Wp (fc δ M3) (fun w M4 => Sm (g' y w M4) (fun d => QD d M4)) X else QD (.bl false) M3) X)) X) X := by
  unfold eChain; simp only [w_bind, w_opt, wp_ite, w_pure]
theorem w_cut (f : EF) (lo hi : OF1) : Wp (eCut f lo hi δ M) QD X ↔ Wp (f δ M) (fun x M1 => Wp (lo δ M1) (fun l M2 => Wp (hi δ M2) (fun h M3 => Sm (oCut x l h M3) (fun d => QD d M3)) X) X) X := by
  unfold eCut; simp only [w_bind, w_opt]
theorem w_evCutM (x : D) (l h : Option Int) : Wp (evCutM x l h M) QD X ↔ Sm (rvw M x) (fun xs => QD (.ref M.length) (M ++ [.lst (cutD xs l h)])) := by with_unfolding_all
  unfold evCutM; cases rvw M x <;> exact Iff.rfl
theorem w_cutM (f : EF) (lo hi : OF1) : Wp (eCutM f lo hi δ M) QD X ↔ Wp (f δ M) (fun x M1 => Wp (lo δ M1) (fun l M2 => Wp (hi δ M2) (fun h M3 => Sm (rvw M3 x) (fun xs => QD (.ref M3.length) (M3 ++ [.lst (cutD xs l h)]))) X) X) X := by
  unfold eCutM; simp only [w_bind, w_evCutM]
theorem w_sNo {QO : Option Int → Sto → Prop} : Wp (sNo δ M) QO X ↔ QO none M := by with_unfolding_all exact Iff.rfl
theorem w_isI {QO : Option Int → Sto → Prop} (i : Int) : Wp (isI (.int i) M) QO X ↔ QO (some i) M := by with_unfolding_all exact Iff.rfl
theorem w_sAt {QO : Option Int → Sto → Prop} (f : EF) : Wp (sAt f δ M) QO X ↔ Wp (f δ M) (fun d M1 => Wp (isI d M1) QO X) X := by
  unfold sAt; simp only [w_bind]
theorem w_evTy {QU : Unit → Sto → Prop} (T : String) (o : D) : Wp (evTy T o M) QU X ↔ tyOkD T M o = true ∧ QU () M := by with_unfolding_all
  unfold evTy
  by_cases h : tyOkD T M o = true
  · rw [if_pos h]; exact ⟨fun z => ⟨h, z⟩, fun z => z.2⟩
  · rw [if_neg h]; exact ⟨fun z => z.elim, fun z => h z.1⟩
theorem w_evM (g : MF) (o : D) (ds : List D) : Wp (evM g o ds M) QD X ↔ Sm (g o ds M) (fun p => QD p.1 p.2) := by with_unfolding_all
  unfold evM; rcases g o ds M with _ | ⟨d, M'⟩ <;> exact Iff.rfl
theorem w_meth (T : String) (g : MF) (fo : EF) (fa : AF) : Wp (eMeth T g fo fa δ M) QD X ↔ Wp (fo δ M) (fun o M1 => tyOkD T M1 o = true ∧ Wp (fa δ M1) (fun ds M2 => Sm (g o ds M2) (fun p => QD p.1 p.2)) X) X := by
  unfold eMeth; simp only [w_bind, w_evTy, w_evM]
theorem w_setd (fo fe ff : EF) : Wp (eSetd fo fe ff δ M) QD X ↔ Wp (fo δ M) (fun d M1 => Wp (evIsD d M1) (fun _ M2 => Wp (fe δ M2) (fun y M3 => Wp (ff δ M3) (fun z M4 => Wp (evSetd d y z M4) QD X) X) X) X) X := by
  unfold eSetd; simp only [w_bind]
/-! statements -/
theorem ws_skip : Ws (sSkip δ M) N R XX ↔ N δ M := by with_unfolding_all exact Iff.rfl
theorem ws_seq (f g : SF) : Ws (sSeq f g δ M) N R XX ↔ Ws (f δ M) (fun δ' M' => Ws (g δ' M') N R XX) R XX := by with_unfolding_all
  unfold sSeq; cases f δ M <;> exact Iff.rfl
theorem ws_bind (f : EF) (g : D → SF) : Ws (sBind f g δ M) N R XX ↔ Wp (f δ M) (fun d M' => Ws (g d δ M') N R XX) (fun C fs M' => XX C fs δ M') := by with_unfolding_all
  unfold sBind; cases f δ M <;> exact Iff.rfl
theorem ws_bindB (f : BF) (g : Bool → SF) : Ws (sBindB f g δ M) N R XX ↔ Wp (f δ M) (fun d M' => Ws (g d δ M') N R XX) (fun C fs M' => XX C fs δ M') := by with_unfolding_all
  unfold sBindB; cases f δ M <;> exact Iff.rfl
theorem ws_exp (f : EF) : Ws (sExp f δ M) N R XX ↔ Wp (f δ M) (fun _ M' => N δ M') (fun C fs M' => XX C fs δ M') := by
  unfold sExp; simp only [ws_bind, ws_skip]
theorem ws_ret (f : EF) : Ws (sRet f δ M) N R XX ↔ Wp (f δ M) (fun d M' => R d M') (fun C fs M' => XX C fs δ M') := by with_unfolding_all
  unfold sRet; rw [ws_bind]; exact Iff.rfl
theorem ws_retN : Ws (sRetN δ M) N R XX ↔ R .non M := by with_unfolding_all exact Iff.rfl
theorem ws_ite {c : Prop} [Decidable c] {f g : SF} : Ws ((if c then f else g) δ M) N R XX ↔ if c then Ws (f δ M) N R XX else Ws (g δ M) N R XX := by
  split <;> exact Iff.rfl
theorem ws_if (b : BF) (f g : SF) : Ws (sIf b f g δ M) N R XX ↔ Wp (b δ M) (fun k M' => if k = true then Ws (f δ M') N R XX else Ws (g δ M') N R XX) (fun C fs M' => XX C fs δ M') := by
  unfold sIf; simp only [ws_bindB, ws_ite]
theorem ws_noRet (o : SO) : Ws (noRet o) N R XX ↔ Ws o N (fun _ _ => False) XX := by with_unfolding_all
  cases o <;> exact Iff.rfl
theorem ws_gN (i : Nat) (d : D) : Ws (gN i d δ M) N R XX ↔ N (δ.set i (some d)) M := by with_unfolding_all exact Iff.rfl
theorem ws_asg (f : EF) (g : D → SF) : Ws (sAsg f g δ M) N R XX ↔ Wp (f δ M) (fun d M' => Ws (g d δ M') N (fun _ _ => False) XX) (fun C fs M' => XX C fs δ M') := by
  unfold sAsg; rw [ws_bind]; simp only [ws_noRet]
theorem ws_gNils : Ws (gNils [] δ M) N R XX ↔ N δ M := by with_unfolding_all exact Iff.rfl
theorem ws_gConss (g : D → SF) (gs : List D → SF) (d : D) (r : List D) : Ws (gConss g gs (d :: r) δ M) N R XX ↔ Ws (g d δ M) (fun δ' M' => Ws (gs r δ' M') N R XX) R XX := by
  unfold gConss; rw [ws_seq]
theorem ws_gTup (n : Nat) (gs : List D → SF) (d : D) : Ws (gTupD n gs d δ M) N R XX ↔ Sm (sqD M d) (fun ys => ys.length = n ∧ Ws (gs ys δ M) N R XX) := by with_unfolding_all
  unfold gTupD
  cases sqD M d with
  | none => exact Iff.rfl
  | some ys =>
    simp only [sm_some]
    by_cases h : ys.length = n
    · rw [if_pos h]; exact ⟨fun z => ⟨h, z⟩, fun z => z.2⟩
    · rw [if_neg h]; exact ⟨fun z => z.elim, fun z => h z.1⟩
theorem ws_gSub (fo fi : EF) (v : D) : Ws (gSubD fo fi v δ M) N R XX ↔ Wp (fo δ M) (fun o M1 => Wp (fi δ M1) (fun i M2 => Sm (stI o i v M2) (fun M' => N δ M')) (fun C fs M' => XX C fs δ M')) (fun C fs M' => XX C fs δ M') := by with_unfolding_all
  unfold gSubD
  simp only [ws_bind]
  constructor <;> refine fun h => h.mono fun o M1 z => z.mono fun i M2 q => ?_
  · cases e : stI o i v M2 with
    | none => rw [e] at q; exact q.elim
    | some M' => rw [e] at q; exact q
  · cases e : stI o i v M2 with
    | none => rw [e] at q; exact q.elim
    | some M' => rw [e] at q; exact q
theorem ws_raise (f : MkF) : Ws (sRaise f δ M) N R XX ↔ Wp (f δ M) (fun p M' => XX p.1 p.2 δ M') (fun C fs M' => XX C fs δ M') := by with_unfolding_all
  unfold sRaise; cases f δ M <;> exact Iff.rfl
theorem ws_try (K : Frag) (cv : Value) (i : Nat) (fb fs : SF) : Ws (sTry K cv i fb fs δ M) N R XX ↔ Ws (fb δ M) N R (fun C xs δ' M' => Sm (exmOne K (.ref (He.ga K C)) cv) (fun b => if b = true then Ws (unsetO i (fs (δ'.set i (some (.exc C xs))) M')) N R XX else XX C xs δ' M')) := by with_unfolding_all
  unfold sTry
  cases fb δ M with
  | exc C xs δ' M' =>
    unfold Ws; dsimp only
    cases exmOne K (.ref (He.ga K C)) cv with
    | none => exact Iff.rfl
    | some b => cases b <;> exact Iff.rfl
  | _ => exact Iff.rfl
/-! calls -/
theorem w_body (o : SO) : Wp (bodyO o) QD X ↔ Ws o (fun _ M' => QD .non M') QD (fun C fs _ M' => X C fs M') := by with_unfolding_all
  cases o <;> exact Iff.rfl
theorem w_trim (n : Nat) (o : Out D) : Wp (trimO n o) QD X ↔ Wp o (fun d M' => Sm (thaw n M' d) fun d' => Sm (thawSto n M' (M'.take n)) fun M'' => QD d' M'') (fun C fs M' => Sm (thawfW (resN n M' 4) fs) fun fs' => Sm (thawSto n M' (M'.take n)) fun M'' => X C fs' M'') := by with_unfolding_all
  cases o with
  | ok d M' =>
    unfold trimO bothO
    cases e1 : thaw n M' d with
    | none => simp only [Wp, e1, Sm]
    | some x => cases e2 : thawSto n M' (M'.take n) <;> simp only [Wp, e1, e2, Sm]
  | exc C fs M' =>
    unfold trimO bothO
    cases e1 : thawfW (resN n M' 4) fs with
    | none => simp only [Wp, e1, Sm]
    | some x => cases e2 : thawSto n M' (M'.take n) <;> simp only [Wp, e1, e2, Sm]
  | stuck => exact Iff.rfl
end
/-! ### what has no way into the store -/
mutual
def cl (n : Nat) : D → Bool
  | .tup xs => cls n xs
  | .lst xs => cls n xs
  | .rol xs => cls n xs
  | .dct _ xs => cls n xs
  | .ref i => decide (i < n)
  | .ins _ fs => clf n fs
  | .exc _ fs => clf n fs
  | .non => true
  | .bl _ => true
  | .int _ => true
  | .str _ => true
  | .ty _ => true
  | .cls _ => true
def cls (n : Nat) : List D → Bool
  | [] => true
  | d :: r => cl n d && cls n r
def clf (n : Nat) : List (Str × D) → Bool
  | [] => true
  | (_, d) :: r => cl n d && clf n r
end
theorem clf_mem {n : Nat} : ∀ {xs : List (Str × D)}, clf n xs = true ↔ ∀ p ∈ xs, cl n p.2 = true
  | [] => by simp [clf]
  | (f, d) :: r => by simp [clf, clf_mem (xs := r)]
theorem cls_mem {n : Nat} : ∀ {xs : List D}, cls n xs = true ↔ ∀ d ∈ xs, cl n d = true
  | [] => by simp [cls]
  | d :: r => by simp [cls, cls_mem (xs := r)]
mutual
theorem cl_mono {n m : Nat} (h : n ≤ m) : ∀ {d : D}, cl n d = true → cl m d = true
  | .tup xs, e => by unfold cl at *; exact cls_mono h e
  | .lst xs, e => by unfold cl at *; exact cls_mono h e
  | .rol xs, e => by unfold cl at *; exact cls_mono h e
  | .dct _ xs, e => by unfold cl at *; exact cls_mono h e
  | .ref i, e => by unfold cl at *; have := of_decide_eq_true e; exact decide_eq_true (by omega)
  | .non, _ => rfl
  | .bl _, _ => rfl
  | .int _, _ => rfl
  | .str _, _ => rfl
  | .ty _, _ => rfl
  | .cls _, _ => rfl
  | .ins _ fs, e => by unfold cl at *; exact clf_mono h e
  | .exc _ fs, e => by unfold cl at *; exact clf_mono h e
theorem cls_mono {n m : Nat} (h : n ≤ m) : ∀ {ds : List D}, cls n ds = true → cls m ds = true
  | [], _ => rfl
  | d :: r, e => by
    unfold cls at *
    obtain ⟨a, b⟩ := Bool.and_eq_true_iff.mp e
    exact Bool.and_eq_true_iff.mpr ⟨cl_mono h a, cls_mono h b⟩
theorem clf_mono {n m : Nat} (h : n ≤ m) : ∀ {ds : List (Str × D)}, clf n ds = true → clf m ds = true
  | [], _ => rfl
  | (_, d) :: r, e => by
    unfold clf at *
    obtain ⟨a, b⟩ := Bool.and_eq_true_iff.mp e
    exact Bool.and_eq_true_iff.mpr ⟨cl_mono h a, clf_mono h b⟩
end
theorem resN_lt {n : Nat} {M : Sto} {i : Nat} (h : i < n) : ∀ k, resN n M k i = some (.ref i)
  | 0 => by unfold resN; exact if_pos h
  | k + 1 => by unfold resN; exact if_pos h
mutual
theorem thaw_cl {n : Nat} {M : Sto} {k : Nat} : ∀ {d : D}, cl n d = true → thawW (resN n M k) d = some d
  | .tup xs, e => by unfold cl at e; unfold thawW; rw [thaws_cl e]; rfl
  | .lst xs, e => by unfold cl at e; unfold thawW; rw [thaws_cl e]; rfl
  | .rol xs, e => by unfold cl at e; unfold thawW; rw [thaws_cl e]; rfl
  | .dct _ xs, e => by unfold cl at e; unfold thawW; rw [thaws_cl e]; rfl
  | .ref i, e => by unfold cl at e; unfold thawW; exact resN_lt (of_decide_eq_true e) k
  | .non, _ => by unfold thawW; rfl
  | .bl _, _ => by unfold thawW; rfl
  | .int _, _ => by unfold thawW; rfl
  | .str _, _ => by unfold thawW; rfl
  | .ty _, _ => by unfold thawW; rfl
  | .cls _, _ => by unfold thawW; rfl
  | .ins _ fs, e => by unfold cl at e; unfold thawW; rw [thawf_clf e]; rfl
  | .exc _ fs, e => by unfold cl at e; unfold thawW; rw [thawf_clf e]; rfl
theorem thaws_cl {n : Nat} {M : Sto} {k : Nat} : ∀ {ds : List D}, cls n ds = true → thawsW (resN n M k) ds = some ds
  | [], _ => by unfold thawsW; rfl
  | d :: r, e => by
    unfold cls at e
    obtain ⟨a, b⟩ := Bool.and_eq_true_iff.mp e
    unfold thawsW
    rw [thaw_cl a, thaws_cl b]
theorem thawf_clf {n : Nat} {M : Sto} {k : Nat} : ∀ {ds : List (Str × D)}, clf n ds = true → thawfW (resN n M k) ds = some ds
  | [], _ => by unfold thawfW; rfl
  | (f, d) :: r, e => by
    unfold clf at e
    obtain ⟨a, b⟩ := Bool.and_eq_true_iff.mp e
    unfold thawfW
    rw [thaw_cl a, thawf_clf b]
end
/-- .. of a thing of the store -/
def clM (n : Nat) : MO → Bool
  | .lst xs => cls n xs
  | .dK kvs => cls n (kvs.map (·.2))
  | .ins _ fs => fs.isEmpty
  | _ => true
theorem thawMO_cl {n : Nat} {M : Sto} {m : MO} (h : clM n m = true) : thawMO n M m = some m := by
  cases m with
  | lst xs =>
    show (thawsW (resN n M 4) xs).map MO.lst = _
    rw [thaws_cl h]; rfl
  | dK kvs =>
    show (thawsW (resN n M 4) (kvs.map (·.2))).map (fun ys => MO.dK ((kvs.map (·.1)).zip ys)) = _
    rw [thaws_cl h]
    have z : ∀ l : List (Key × D), (l.map (·.1)).zip (l.map (·.2)) = l := fun l => by
      induction l with
      | nil => rfl
      | cons a r ih => rw [List.map_cons, List.map_cons, List.zip_cons_cons, ih]
    show some (MO.dK _) = _
    rw [z]
  | ins C fs =>
    unfold clM at h
    cases fs with
    | nil => unfold thawMO thawfW; rfl
    | cons a r => cases h
  | opq => rfl
  | dead => rfl
theorem thawSto_cl {n : Nat} {M : Sto} : ∀ {ms : List MO}, (∀ m ∈ ms, clM n m = true) → thawSto n M ms = some ms
  | [], _ => rfl
  | m :: r, h => by
    unfold thawSto
    rw [thawMO_cl (h m (List.mem_cons_self ..)), thawSto_cl fun x hx => h x (List.mem_cons_of_mem _ hx)]
/-- a store that a call leaves as it is -/
def Ok (M : Sto) : Prop := ∀ m ∈ M, clM M.length m = true
theorem trim_same {M M2 : Sto} {d : D} {Q : D → Sto → Prop} (hM : Ok M) (hd : cl M.length d = true) (h : Q d M) :
    Sm (thaw M.length (M ++ M2) d) fun d' => Sm (thawSto M.length (M ++ M2) ((M ++ M2).take M.length)) fun M'' => Q d' M'' := by
  unfold thaw
  rw [thaw_cl hd, List.take_left' rfl, thawSto_cl hM]
  exact h
theorem trim_lst {M M2 : Sto} {xs : List D} {Q : D → Sto → Prop} {i : Nat} (hM : Ok M) (hi : M.length ≤ i) (hx : (M ++ M2)[i]? = some (.lst xs)) (hd : cls M.length xs = true) (h : Q (.lst xs) M) :
    Sm (thaw M.length (M ++ M2) (.ref i)) fun d' => Sm (thawSto M.length (M ++ M2) ((M ++ M2).take M.length)) fun M'' => Q d' M'' := by
  have e : thaw M.length (M ++ M2) (.ref i) = some (.lst xs) := by
    unfold thaw thawW resN
    rw [if_neg (by omega), hx]
    show (thawsW _ xs).map D.lst = _
    rw [thaws_cl hd]; rfl
  rw [e, List.take_left' rfl, thawSto_cl hM]
  exact h
end L2.MK

end

section
set_option Elab.async false
set_option linter.all false
set_option maxRecDepth 100000
set_option maxHeartbeats 1000000
set_option autoImplicit false
/-! Dict comprehensions, walks over items, get, update; lists against []. -/
namespace L2.MK
open PySem PySem.Spec PyProof.Rows PySem.W

/-! ### {k: v for ..}, kept -/
def putI (i0 : Nat) (y z : D) (M : Sto) : Option Sto := match keyD y, M[i0]? with
  | some k, some (.dK kvs) => if kvs.length < sizeLine then some (M.set i0 (.dK (putG kvs k z))) else none
  | _, _ => none
theorem putI_of {i0 : Nat} {y z : D} {M M' : Sto} (e : putI i0 y z M = some M') : ∃ k kvs, keyD y = some k ∧ M[i0]? = some (.dK kvs) ∧ kvs.length < sizeLine ∧ M' = M.set i0 (.dK (putG kvs k z)) := by
  unfold putI at e
  split at e
  · rename_i k kvs e1 e2
    split at e
    · cases e; exact ⟨k, kvs, e1, e2, by assumption, rfl⟩
    · cases e
  · cases e
def dcO (it : ID) (p : Pt) (bt : BF) (fk fv : EF) (i0 : Nat) (δw : Env) : Nat → Nat → Sto → Out D
  | 0, i => fun M => match it M i with
    | some none => .ok (.ref i0) M
    | _ => .stuck
  | r + 1, i => fun M => match it M i with
    | some none => .ok (.ref i0) M
    | some (some d) => (match setPt M p d δw with
      | some δ1 => (match bt δ1 M with
        | .ok false M2 => dcO it p bt fk fv i0 δw r (i + 1) M2
        | .ok true M2 => (match fk δ1 M2 with
          | .ok y M3 => (match fv δ1 M3 with
            | .ok z M4 => (match putI i0 y z M4 with
              | some M5 => dcO it p bt fk fv i0 δw r (i + 1) M5
              | none => .stuck)
            | _ => .stuck)
          | _ => .stuck)
        | _ => .stuck)
      | none => .stuck)
    | none => .stuck
def eDcM (fi : IF) (p : Pt) (bt : BF) (fk fv : EF) (vs : List Nat) : EF := fun δ M => match fi δ M with
  | .ok q M1 => dcO q.2 p bt fk fv M1.length (wipeD δ vs) q.1 0 (M1 ++ [.dK []])
  | .exc C fs M1 => .exc C fs M1
  | .stuck => .stuck
section
variable {X : Cx} {W : WX}
theorem dc_of {K : Frag} {fi : IF} {p : Pt} {bt : BF} {fk fv : EF} {vs : List Nat} {σ : St} {H : Hp} {Q : VK} (hv : ∀ i ∈ p.ixs, i ∈ vs) (h : rd K W (eDcM fi p bt fk fv vs) σ H Q) : L2.tDc (rdI K W fi) (tPt K p) (rdB K W0 bt) (rd K W0 fk) (rd K W0 fv) vs σ H Q := by
  obtain ⟨ρ, δ, M, hE, hS, h⟩ := h
  refine ⟨ρ, δ, M, hE, hS, ?_⟩
  unfold eDcM at h
  cases e : fi δ M with
  | stuck => rw [e] at h; exact h
  | exc C fs M' => rw [e] at h; exact h
  | ok q M1 =>
    rw [e] at h
    intro ρ1 J H1 n1 S1 ok Dd hD
    have n2 := Nx.push (ρ := ρ1) (o := .dK []) hD
    have S2 : StOk K (ρ1 ++ [some Dd]) (M1 ++ [.dK []]) (upd H1 Dd (.dK [])) := S1.push hD ⟨[], upd_same, trivial⟩
    have at0 : (ρ1 ++ [some Dd])[M1.length]? = some (some Dd) := by
      rw [← S1.len, List.getElem?_append_right (Nat.le_refl _)]
      simp
    have E2 := ((hE.mono n1.ext).mono n2.ext).wipe vs
    have h2 := Res.nx (n1.trans n2) h
    refine ⟨fun i m H => ∃ ρ M, Nx (ρ1 ++ [some Dd]) (upd H1 Dd (.dK [])) ρ H ∧ StOk K ρ M H ∧ Res K (fun c d H' => W c d σ H') ρ H Q (dcO q.2 p bt fk fv M1.length (wipeD δ vs) m i M), ⟨q.1, _, _, Nx.refl, S2, h2⟩, ?_⟩
    rintro i m H3 ⟨ρ3, M3, n3, S3, h3⟩
    obtain ⟨o1, o2⟩ := ok i ρ3 H3 M3 (n2.trans n3).ext S3
    have at3 := n3.refs _ _ at0
    cases e3 : q.2 M3 i with
    | none => cases m <;> (unfold dcO at h3; rw [e3] at h3; exact h3.elim)
    | some z =>
      cases z with
      | none =>
        refine .inl ⟨o1 e3, ?_⟩
        cases m <;> (unfold dcO at h3; rw [e3] at h3; exact h3.here S3 (.ref at3))
      | some d =>
        cases m with
        | zero => unfold dcO at h3; rw [e3] at h3; exact h3.elim
        | succ m =>
          unfold dcO at h3
          rw [e3] at h3
          obtain ⟨go, yl⟩ := o2 d e3
          refine .inr ⟨go, fun H' => ∃ ρ M, Nx (ρ1 ++ [some Dd]) (upd H1 Dd (.dK [])) ρ H' ∧ StOk K ρ M H' ∧ Res K (fun c d H' => W c d σ H') ρ H' Q (dcO q.2 p bt fk fv M1.length (wipeD δ vs) m (i + 1) M), fun H' z => ⟨m, Nat.lt_succ_self _, z⟩, fun x H4 y => ?_⟩
          obtain ⟨n4, S4, r4⟩ := yl x H4 y
          cases e4 : setPt M3 p d (wipeD δ vs) with
          | none => simp only [e4] at h3; exact h3.elim
          | some δ1 =>
            simp only [e4] at h3
            refine pt_of S4 p r4 (E2.mono (n3.trans n4).ext) e4 hv fun σ2 E5 w5 => ⟨by rw [w5]; exact wipe_idem, ρ3, δ1, M3, E5, S4, ?_⟩
            cases e5 : bt δ1 M3 with
            | stuck => simp only [e5] at h3; exact h3.elim
            | exc C fs M' => simp only [e5] at h3; exact h3.elim
            | ok b M5 =>
              cases b with
              | false =>
                simp only [e5] at h3
                intro ρ6 H6 n6 S6
                rw [if_neg Bool.false_ne_true]
                exact ⟨ρ6, M5, (n3.trans n4).trans n6, S6, Res.nx (n4.trans n6) h3⟩
              | true =>
                simp only [e5] at h3
                intro ρ6 H6 n6 S6
                rw [if_pos rfl]
                refine ⟨ρ6, δ1, M5, E5.mono n6.ext, S6, ?_⟩
                cases e6 : fk δ1 M5 with
                | stuck => simp only [e6] at h3; exact h3.elim
                | exc C fs M' => simp only [e6] at h3; exact h3.elim
                | ok y0 M6 =>
                  simp only [e6] at h3
                  intro ρ7 v7 H7 n7 S7 r7
                  refine ⟨ρ7, δ1, M6, (E5.mono n6.ext).mono n7.ext, S7, ?_⟩
                  cases e8 : fv δ1 M6 with
                  | stuck => simp only [e8] at h3; exact h3.elim
                  | exc C fs M' => simp only [e8] at h3; exact h3.elim
                  | ok z0 M8 =>
                    simp only [e8] at h3
                    intro ρ9 v9 H9 n9 S9 r9
                    have at9 := n9.refs _ _ (n7.refs _ _ (n6.refs _ _ (n4.refs _ _ at3)))
                    cases e10 : putI M1.length y0 z0 M8 with
                    | none => simp only [e10] at h3; exact h3.elim
                    | some M10 =>
                      simp only [e10] at h3
                      obtain ⟨k, kvs, ek, e11, hl, rfl⟩ := putI_of e10
                      obtain ⟨m8, h8, h9⟩ := S9.at_ _ _ at9
                      rw [e11] at h8
                      cases h8
                      obtain ⟨ws, h10, h11⟩ := h9
                      have n10 := Nx.write (H := H9) (o := .dK (putK ws k v9)) at9 (fun φ q => by rw [h10] at q; cases q)
                      have m10 : MOk K ρ9 (upd H9 Dd (.dK (putK ws k v9))) Dd (.dK (putG kvs k z0)) := ⟨_, upd_same, (h11.mono n10.ext).put k (r9.mono n10.ext)⟩
                      exact ⟨ws, k, keyD_of r7 ek, h10, by rw [← h11.length]; exact hl, ρ9, _, ((((n3.trans n4).trans n6).trans n7).trans n9).trans n10, S9.write at9 (fun φ q => by rw [h10] at q; cases q) m10, Res.nx ((((n4.trans n6).trans n7).trans n9).trans n10) h3⟩
theorem pd_dcM {kx vx tg iter : Expr} {ifs : List Expr} {scope : Scope} {own : List (Str × Nat)} {pos : Pos} {fi : IF} {p : Pt} {bt : BF} {fk fv : EF} (hc : X.calm = true) (hN : X.N.Nodup) (hi : PDI X W tg iter fi) (ok : BlkOk X.N X.env.scope scope own) (hv : ∀ i ∈ p.ixs, i ∈ own.map (·.2))
    (hg : ∀ (s : Shared) (H : Hp) (C : Addr) (cl : List (Str × Addr)) (fp : List Addr), PP (X.blk s H scope (compEnvC scope cl C X.env) fp) tg p) (ht : ∀ (s : Shared) (H : Hp) (C : Addr) (cl : List (Str × Addr)) (fp : List Addr), PDTs (X.blk s H scope (compEnvC scope cl C X.env) fp) W0 ifs bt)
    (hk : ∀ (s : Shared) (H : Hp) (C : Addr) (cl : List (Str × Addr)) (fp : List Addr), PD (X.blk s H scope (compEnvC scope cl C X.env) fp) W0 kx fk)
    (he : ∀ (s : Shared) (H : Hp) (C : Addr) (cl : List (Str × Addr)) (fp : List Addr), PD (X.blk s H scope (compEnvC scope cl C X.env) fp) W0 vx fv) (hs : ∀ x, foldedSetIterable iter X.env x = pure x := by intro _; rfl) :
    PD X W (.DictComp kx vx [⟨tg, iter, ifs, 0⟩] scope pos) (eDcM fi p bt fk fv (own.map (·.2))) := pe_mono (L2.pe_dc hc hN hi ok hg ht hk he hs) fun _ _ _ h => dc_of hv h
end

/-! ### what is left when the last thing goes -/
section
variable {K : Frag} {ρ ρ' : List (Option Addr)} {Φ Φ' : Hp} {n : Nat}
mutual
theorem den_cut (hr : ∀ i a, i < n → ρ[i]? = some (some a) → ρ'[i]? = some (some a)) (sm : Same Φ Φ') : ∀ {d : D} {v : V}, cl n d = true → Den K ρ Φ d v → Den K ρ' Φ' d v
  | _, _, _, .non => .non
  | _, _, _, .bl b => .bl b
  | _, _, _, .int i => .int i
  | _, _, _, .str s => .str s
  | _, _, _, .ty T => .ty T
  | _, _, _, .cls C => .cls C
  | .tup ds, _, e, .tup h r => .tup (same_sqT sm h) (dens_cut hr sm (by unfold cl at e; exact e) r)
  | .lst ds, _, e, .lst h r => .lst (sm _ _ h) (dens_cut hr sm (by unfold cl at e; exact e) r)
  | .rol ds, _, e, .rol h r => .rol (sm.seq h) (dens_cut hr sm (by unfold cl at e; exact e) r)
  | .dct ks ds, _, e, .dct h h2 r => .dct (sm _ _ h) h2 (dens_cut hr sm (by unfold cl at e; exact e) r)
  | .ref i, _, e, .ref h => .ref (hr _ _ (by unfold cl at e; exact of_decide_eq_true e) h)
  | .ins C fs, _, e, .ins h r => .ins (sm _ _ h) (denf_cut hr sm (by unfold cl at e; exact e) r)
  | .exc C fs, _, e, .exc h1 h2 h3 r => .exc (sm _ _ h1) (fun dd z => sm _ _ (h2 dd z)) h3 (denf_cut hr sm (by unfold cl at e; exact e) r)
theorem dens_cut (hr : ∀ i a, i < n → ρ[i]? = some (some a) → ρ'[i]? = some (some a)) (sm : Same Φ Φ') : ∀ {ds : List D} {vs : List V}, cls n ds = true → Dens K ρ Φ ds vs → Dens K ρ' Φ' ds vs
  | [], _, _, .nil => .nil
  | d :: ds, _, e, .cons h r => by
    unfold cls at e
    obtain ⟨a, b⟩ := Bool.and_eq_true_iff.mp e
    exact .cons (den_cut hr sm a h) (dens_cut hr sm b r)
theorem denf_cut (hr : ∀ i a, i < n → ρ[i]? = some (some a) → ρ'[i]? = some (some a)) (sm : Same Φ Φ') : ∀ {ds : List (Str × D)} {vs : List (Str × V)}, clf n ds = true → Denf K ρ Φ ds vs → Denf K ρ' Φ' ds vs
  | [], _, _, .nil => .nil
  | (f, d) :: ds, _, e, .cons h r => by
    unfold clf at e
    obtain ⟨a, b⟩ := Bool.and_eq_true_iff.mp e
    exact .cons (den_cut hr sm a h) (denf_cut hr sm b r)
end
theorem denK_cut (hr : ∀ i a, i < n → ρ[i]? = some (some a) → ρ'[i]? = some (some a)) (sm : Same Φ Φ') : ∀ {ds : List (Key × D)} {vs : List (Key × V)}, cls n (ds.map (·.2)) = true → DenK K ρ Φ ds vs → DenK K ρ' Φ' ds vs
  | [], [], _, _ => trivial
  | (k, d) :: r, (j, v) :: s, e, ⟨h1, h2, h3⟩ => by
    rw [List.map_cons] at e
    unfold cls at e
    obtain ⟨a, b⟩ := Bool.and_eq_true_iff.mp e
    exact ⟨h1, den_cut hr sm a h2, denK_cut hr sm b h3⟩
  | [], _ :: _, _, h => h.elim
  | _ :: _, [], _, h => h.elim
def scalD : D → Bool
  | .non => true
  | .bl _ => true
  | .int _ => true
  | .str _ => true
  | _ => false
theorem scal_den {d : D} {v : V} (e : scalD d = true) (h : Den K ρ Φ d v) : ∀ (ρ' : List (Option Addr)) (Φ' : Hp), Den K ρ' Φ' d v := fun ρ' Φ' => by
  cases h with
  | non => exact .non
  | bl b => exact .bl b
  | int i => exact .int i
  | str s => exact .str s
  | _ => cases e
end
/-! ### for k, v in e.items(): e's value new, and let go -/
def keyDD : Key → D
  | .inl i => .int i
  | .inr x => .str x
theorem keyDD_den {K : Frag} {ρ : List (Option Addr)} {Φ : Hp} (k : Key) : Den K ρ Φ (keyDD k) (kV k) := by
  cases k with
  | inl i => exact .int i
  | inr x => exact .str x
def evItems (n : Nat) (d : D) : Ev (Nat × ID) := fun M => match d with
  | .ref i => (match M[i]? with
    | some (.dK kvs) => if n ≤ i ∧ i + 1 = M.length ∧ ((M.take i).all (clM i) && kvs.all fun p => scalD p.2) = true then .ok (kvs.length, fun _ j => some ((kvs[j]?).map fun p => .tup [keyDD p.1, p.2])) (M.take i) else .stuck
    | _ => .stuck)
  | _ => .stuck
def iItemsD (f : EF) : IF := fun δ M => match f δ M with
  | .ok d M1 => evItems M.length d M1
  | .exc C fs M1 => .exc C fs M1
  | .stuck => .stuck
def iItemsF (td : TE) : TI := fun σ H R => td σ H fun x H1 => ∃ d kvs, x = .ref d ∧ H1 d = some (.dK kvs) ∧ ∀ o, R (Iti d o kvs) (upd H1 d (.frz o (.dK kvs)))
section
variable {X : Cx} {W : WX} {e : Expr} {apos cpos : Pos}
theorem pi_itemsF {td : TE} {elts : List Expr} {kk : Nat} {tpos : Pos} (he : PE X e td) (hbase : attributeBase e "items" X.env (eval e X.env) = eval e X.env := by rfl) (hline : (apos.endLine == cpos.line) = true := by rfl) :
    PI X (.Tuple elts kk tpos) (.Call (.Attribute e "items" apos) [] [] cpos) (iItemsF td) := by
  refine ⟨fun pins s σ H R I h => ?_⟩
  refine wpAny_Call_method (T := "dict") (id := "dict.items") hbase rfl hline PySem.F.plainAttrs_dict PySem.F.slot_dict_items PySem.F.type_dict_items (thn (he.run pins s σ H _ I h) fun u s1 ⟨x, H1, I1, rx, d, kvs, ex, hd, q0⟩ => ?_)
  subst ex
  obtain rfl : u = Value.ref d := rx
  obtain ⟨o, I1⟩ := I1.lock hd trivial
  have q := q0 o
  obtain ⟨hs, hgd, hx, es, ep, vs, hdt, hsz, kv, hm⟩ := I1.frzK upd_same
  have hl : kvs.length = vs.length := Paired.length kv
  refine ⟨hm.dictOf.typeIs, hm.dictOf.mapOf.noDict, ?_⟩
  have I2 : Inv X pins σ (upd H1 d (.frz o (.dK kvs))) { s1 with heap := s1.heap.push { cls := .type "dict_items", data := .fields #[.ref d] } } := I1.kept (t' := s1.toks) fun b ob q => Heap.get?_push_of_some _ q
  have fin : wpAny (model X.prog X.w) X.A (pyIter (.ref s1.heap.objs.size)) (PIE X pins σ (.Tuple elts kk tpos) R) X.xe { s1 with heap := s1.heap.push { cls := .type "dict_items", data := .fields #[.ref d] } } := by
    refine wpAny_pyIter_items (d := d) (knd := mixKind X.prog X.w) ⟨_, Heap.get?_push_size _ rfl, rfl, rfl⟩ (hm.push _) (pi_one (tk := s1.toks) I2 _ (turn_items _ hdt) ⟨.none, .none, ?_⟩ q)
    rw [hl]
    exact Heap.get?_push_size _ rfl
  show wpAny _ _ (callWith cpos (.builtin "dict.items") [.ref d] [] []) _ X.xe s1
  exact PySem.method_meetsIn PySem.F.slot_dict_items PySem.F.entry_dict_items rfl (PySem.evalArgs_none ⟨rfl, hm.dictOf.typeIs, PySem.F.args_dict_items_1 _, _, meets_dict_items (mixKind X.prog X.w) d hs, ⟨vs, hm.dictOf⟩, fin⟩)
theorem denK_get {K : Frag} {ρ : List (Option Addr)} {Φ : Hp} : ∀ {ds : List (Key × D)} {vs : List (Key × V)} {i : Nat} {k : Key} {v : V}, DenK K ρ Φ ds vs → vs[i]? = some (k, v) → ∃ d, ds[i]? = some (k, d) ∧ Den K ρ Φ d v
  | [], [], _, _, _, _, e => by simp at e
  | (j, d) :: r, (l, v) :: s, 0, _, _, ⟨a, b, t⟩, e => by
    simp only [List.getElem?_cons_zero, Option.some.injEq, Prod.mk.injEq] at e
    obtain ⟨rfl, rfl⟩ := e
    exact ⟨d, by rw [a]; rfl, b⟩
  | (j, d) :: r, (l, v) :: s, i + 1, _, _, ⟨a, b, t⟩, e => by
    simp only [List.getElem?_cons_succ] at e ⊢
    exact denK_get t e
  | [], _ :: _, _, _, _, h, _ => h.elim
  | _ :: _, [], _, _, _, h, _ => h.elim
theorem pdi_items {elts : List Expr} {kk : Nat} {tpos : Pos} {f : EF} (he : PD X W e f) (hbase : attributeBase e "items" X.env (eval e X.env) = eval e X.env := by rfl) (hline : (apos.endLine == cpos.line) = true := by rfl) :
    PDI X W (.Tuple elts kk tpos) (.Call (.Attribute e "items" apos) [] [] cpos) (iItemsD f) := pi_mono (pi_itemsF he hbase hline) fun σ H R ⟨ρ, δ, M, hE, hS, h⟩ => by
  refine ⟨ρ, δ, M, hE, hS, ?_⟩
  unfold iItemsD at h
  cases e0 : f δ M with
  | stuck => rw [e0] at h; exact h
  | exc C fs M' => rw [e0] at h; exact h
  | ok d M1 =>
    rw [e0] at h
    intro ρ1 v H1 n1 S1 r1
    replace h : ResI X.K (fun c d H' => W c d σ H') ρ H R (evItems M.length d M1) := h
    unfold evItems at h
    split at h
    · rename_i i
      split at h
      · rename_i kvs e1
        split at h
        · rename_i hc
          obtain ⟨hc1, hc2, hc3⟩ := hc
          obtain ⟨hc3, hc4⟩ := Bool.and_eq_true_iff.mp hc3
          obtain ⟨a, ws, rfl, at1, h2, h3⟩ := dct_at S1 r1 e1
          refine ⟨a, ws, rfl, h2, fun o => ?_⟩
          have hi : i < ρ1.length := by rw [S1.len]; omega
          have mem1 : some a ∈ ρ1 := List.mem_of_getElem? at1
          have sub : ∀ b : Addr, some b ∈ ρ1.take i → some b ∈ ρ1 := fun b hb => List.mem_of_mem_take hb
          have nota : some a ∉ ρ1.take i := fun z => by
            obtain ⟨j, hj, e2⟩ := List.mem_iff_getElem.mp z
            have e3 : (ρ1.take i)[j]? = some (some a) := by rw [List.getElem?_eq_getElem hj, e2]
            obtain ⟨h4, h5⟩ := take_at' e3
            have := S1.inj _ _ _ h5 at1
            omega
          have hr : ∀ j b, j < i → ρ1[j]? = some (some b) → (ρ1.take i)[j]? = some (some b) := fun j b hj h => by rw [take_at hj]; exact h
          have sm : Same (frz ρ1 H1) (frz (ρ1.take i) (upd H1 a (.frz o (.dK ws)))) := fun b u z => by
            obtain ⟨z1, z2⟩ := frz_of z
            have nb : b ≠ a := fun q => z1 (by rw [q]; exact mem1)
            exact frz_at (fun q => z1 (sub b q)) (by rw [upd_ne nb]; exact z2)
          have n2 : Nx ρ H (ρ1.take i) (upd H1 a (.frz o (.dK ws))) := by
            have hM : ρ.length = M.length := hS.len
            refine ⟨fun j b hj => hr j b (by have := (List.getElem?_eq_some_iff.mp hj).1; omega) (n1.refs j b hj), fun b u z => sm b u (n1.same b u z), by rw [List.length_take]; omega, fun b φ m z => ?_⟩
            have z2 := n1.exts b φ m z
            have nb : b ≠ a := fun q => by rw [q, h2] at z2; cases z2
            rw [upd_ne nb]; exact z2
          have S2 : StOk X.K (ρ1.take i) (M1.take i) (upd H1 a (.frz o (.dK ws))) := by
            refine ⟨by rw [List.length_take, List.length_take, S1.len], fun j k b hj hk => S1.inj j k b (take_at' hj).2 (take_at' hk).2, fun j b hj => ?_, fun j hj => ?_⟩
            · obtain ⟨hl, hj2⟩ := take_at' hj
              obtain ⟨m, g1, g2⟩ := S1.at_ j b hj2
              have nb : b ≠ a := fun q => by
                have := S1.inj j i a (by rw [← q]; exact hj2) at1
                omega
              have g3 : (M1.take i)[j]? = some m := by rw [List.getElem?_take, if_pos hl]; exact g1
              have cm : clM i m = true := List.all_eq_true.mp hc3 m (List.mem_of_getElem? g3)
              refine ⟨m, g3, ?_⟩
              cases m with
              | lst ds => obtain ⟨vs, g4, g5⟩ := g2; exact ⟨vs, by rw [upd_ne nb]; exact g4, dens_cut hr sm cm g5⟩
              | dK ds => obtain ⟨vs, g4, g5⟩ := g2; exact ⟨vs, by rw [upd_ne nb]; exact g4, denK_cut hr sm cm g5⟩
              | ins C fs =>
                obtain ⟨dx, vs, g4, g5⟩ := g2
                refine ⟨dx, vs, by rw [upd_ne nb]; exact g4, ?_⟩
                have : fs = [] := List.isEmpty_iff.mp cm
                subst this
                cases g5
                exact .nil
              | opq => obtain ⟨u, g4⟩ := g2; exact ⟨u, by rw [upd_ne nb]; exact g4⟩
              | dead => exact g2
            · obtain ⟨hl, hj2⟩ := take_at' hj
              rw [List.getElem?_take, if_pos hl]
              exact S1.dead j hj2
          refine h (ρ1.take i) _ _ n2 S2 ?_
          intro j ρ' H' M' ex S'
          have hd : H' a = some (.frz o (.dK ws)) := (frz_of (ex.same a _ (frz_at nota upd_same))).2
          have hlen := h3.length
          refine ⟨fun z => ⟨hd, ?_⟩, fun d z => ?_⟩
          · simp only [Option.some.injEq, Option.map_eq_none_iff] at z
            have := List.getElem?_eq_none_iff.mp z
            omega
          · simp only [Option.some.injEq, Option.map_eq_some_iff] at z
            obtain ⟨p, z1, z2⟩ := z
            have hj := (List.getElem?_eq_some_iff.mp z1).1
            refine ⟨⟨hd, by omega⟩, fun x H'' ⟨T, k, v, y1, y2, y3, y4⟩ => ?_⟩
            subst y2 y4
            obtain ⟨dd, g1, g2⟩ := denK_get h3 y1
            rw [z1] at g1
            cases g1
            subst z2
            have hsc : scalD dd = true := List.all_eq_true.mp hc4 (k, dd) (List.mem_of_getElem? z1)
            exact ⟨Nx.new y3, S'.new y3, .tup (.of (frz_at (S'.notin y3) upd_same)) (.cons (keyDD_den k) (.cons (scal_den hsc g2 _ _) .nil))⟩
        · exact h.elim
      · exact h.elim
    · exact h.elim
/-! ### d.get(k, x), d.update(e) -/
def evGet2 (d y z : D) : Ev D := fun M => match dctD M d, keyD y with
  | some kvs, some k => .ok ((valG kvs k).getD z) M
  | _, _ => .stuck
def eGet2 (fo fe ff : EF) : EF := fun δ => fo δ >>= fun d => evIsD d >>= fun _ => fe δ >>= fun y => ff δ >>= fun z => evGet2 d y z
theorem dctD_of {K : Frag} {ρ : List (Option Addr)} {H : Hp} {M : Sto} {d : D} {v : V} {kvs : List (Key × D)} (S : StOk K ρ M H) (r : Den K ρ (frz ρ H) d v) (e : dctD M d = some kvs) : ∃ a ws i, d = .ref i ∧ v = .ref a ∧ ρ[i]? = some (some a) ∧ M[i]? = some (.dK kvs) ∧ H a = some (.dK ws) ∧ DenK K ρ (frz ρ H) kvs ws := by
  unfold dctD at e
  split at e
  · rename_i i
    split at e
    · rename_i kvs' q
      cases e
      obtain ⟨a, ws, rfl, h1, h2, h3⟩ := dct_at S r q
      exact ⟨a, ws, i, rfl, rfl, h1, q, h2, h3⟩
    · cases e
  · cases e
theorem pd_get2 {o e f : Expr} {fo fe ff : EF} {apos cpos : Pos} (hu : X.A.units + 1 < cLine) (ho : PD X W o fo) (he : PD X W e fe) (hf : PD X W f ff) (m : L2.M2 X o "get" apos e f cpos) : PD X W (.Call (.Attribute o "get" apos) [e, f] [] cpos) (eGet2 fo fe ff) := pe_mono (pe_dget2 hu ho he hf m) fun σ H Q ⟨ρ, δ, M, hE, hS, h⟩ =>
  rd_mono (rd_bind (f := fo) (g := fun d => evIsD d >>= fun _ => fe δ >>= fun y => ff δ >>= fun z => evGet2 d y z) hE hS h) fun x H1 ⟨ρ1, d1, M1, n1, e1, s1, r1, h1⟩ => by
    rw [Ev.bind_run] at h1
    unfold evIsD at h1
    cases q1 : dctD M1 d1 with
    | none => rw [q1] at h1; exact h1.elim
    | some kvs1 =>
      rw [q1] at h1
      obtain ⟨a, ws, i, rfl, rfl, at1, m1, h2, h3⟩ := dctD_of s1 r1 q1
      refine ⟨a, rfl, .inl ⟨ws, .of h2⟩, ?_⟩
      exact rd_mono (rd_bind (f := fe) (g := fun y => ff δ >>= fun z => evGet2 (.ref i) y z) e1 s1 h1) fun y H2 ⟨ρ2, d2, M2, n2, e2, s2, r2, h4⟩ =>
        rd_mono (rd_bind (f := ff) (g := fun z => evGet2 (.ref i) d2 z) e2 s2 h4) fun z H3 ⟨ρ3, d3, M3, n3, e3, s3, r3, h5⟩ => by
          have r1' := (r1.mono n2.ext).mono n3.ext
          have r2' := r2.mono n3.ext
          unfold evGet2 at h5
          cases q3 : dctD M3 (.ref i) with
          | none => rw [q3] at h5; exact h5.elim
          | some kvs3 =>
            cases k1 : keyD d2 with
            | none => rw [q3, k1] at h5; exact h5.elim
            | some k =>
              rw [q3, k1] at h5
              replace h5 : Res X.K (fun c d H' => W c d σ H') ρ3 H3 Q (.ok ((valG kvs3 k).getD d3) M3) := h5
              obtain ⟨a', ws', i', ei, ea, at3, m3, h6, h7⟩ := dctD_of s3 r1' q3
              cases ea
              have ey := keyD_of r2' k1
              subst ey
              refine ⟨_, DGet.k h6, ?_⟩
              rcases h7.val k with ⟨d', v', g1, g2, g3⟩ | ⟨g1, g2⟩
              · rw [g1] at h5; rw [g2]; exact h5.here s3 g3
              · rw [g1] at h5; rw [g2]; exact h5.here s3 r3
def mergeG (kvs more : List (Key × D)) : List (Key × D) := more.foldl (fun acc kv => putG acc kv.1 kv.2) kvs
theorem denK_merge {K : Frag} {ρ : List (Option Addr)} {Φ : Hp} : ∀ {more : List (Key × D)} {mv : List (Key × V)} {ds : List (Key × D)} {vs : List (Key × V)}, DenK K ρ Φ more mv → DenK K ρ Φ ds vs → DenK K ρ Φ (mergeG ds more) (mergeK vs mv)
  | [], [], _, _, _, h => h
  | (j, d) :: r, (l, v) :: s, ds, vs, ⟨a, b, t⟩, h => by
    subst a
    exact denK_merge (ds := putG ds j d) (vs := putK vs j v) t (h.put j b)
  | [], _ :: _, _, _, h, _ => h.elim
  | _ :: _, [], _, _, h, _ => h.elim
def evUpd (d y : D) : Ev D := fun M => match d, y with
  | .ref i, .ref j => (match M[i]?, M[j]? with
    | some (.dK kvs), some (.dK more) => if i ≠ j ∧ kvs.length + more.length ≤ sizeLine then .ok .non (M.set i (.dK (mergeG kvs more))) else .stuck
    | _, _ => .stuck)
  | _, _ => .stuck
def eUpd (fo fe : EF) : EF := fun δ => fo δ >>= fun d => evIsD d >>= fun _ => fe δ >>= fun y => evUpd d y
def tDUpd (td ty : TE) : TE := fun σ H Q => td σ H fun x H1 => ∃ a, x = .ref a ∧ IsD H1 a ∧ ty σ H1 fun y H2 => ∃ b kvs more, y = .ref b ∧ a ≠ b ∧ H2 a = some (.dK kvs) ∧ H2 b = some (.dK more) ∧ kvs.length + more.length ≤ sizeLine ∧ Q .non (upd H2 a (.dK (mergeK kvs more)))
theorem d_upd {pins : List (Addr × Obj)} {σ : St} {H : Hp} {s : Shared} {Q : VK} {E : Value → Shared → Prop} {a b : Addr} {kvs more : List (Key × V)} (I : Inv X pins σ H s) (hne : a ≠ b) (ha : H a = some (.dK kvs)) (hb : H b = some (.dK more)) (hl : kvs.length + more.length ≤ sizeLine) (h : Q .non (upd H a (.dK (mergeK kvs more)))) :
    wpAny (model X.prog X.w) X.A (call (.builtin "dict.update") [.ref a, .ref b]) (EP X pins σ Q) E s := by
  obtain ⟨z, hd, vs, rel, dd⟩ := dk_of I.hok ha
  obtain ⟨z2, hd2, rs, rel2, dd2⟩ := dk_of I.hok hb
  have l1 : kvs.length = vs.length := Paired.length rel
  have l2 : more.length = rs.length := Paired.length rel2
  refine call_meetsIn PySem.F.slot_dict_update dd.typeIs PySem.F.entry_dict_update (PySem.F.args_dict_update_2 _ _) (meets_dict_update (mixKind X.prog X.w) a b hne hd2) ⟨vs, rs, dd, dd2, by omega, fun h' d1 d2 hs => ?_⟩
  have he : ∃ q, h'.get? a = some q := let ⟨q, _, _, hq, _⟩ := d1; ⟨q, hq⟩
  refine ⟨.non, _, d_write (t' := s.toks) I (by rw [ha]; exact True.intro) hs he (dk_new (Nat.le_trans (length_mergeK more kvs) hl) hd (rel2.merge rel) d1), rfl, h⟩
theorem pe_dupd {o e : Expr} {td ty : TE} {apos cpos : Pos} (ho : PE X o td) (he : PE X e ty) (m : M1 X o "update" apos e cpos) : PE X (.Call (.Attribute o "update" apos) [e] [] cpos) (tDUpd td ty) := by
  refine ⟨fun pins s σ H Q I h => ?_⟩
  refine wpAny_Call_method m.base m.few m.line PySem.F.plainAttrs_dict PySem.F.slot_dict_update PySem.F.type_dict_update (thn (ho.run pins s σ H _ I h) fun u s1 ⟨x, H1, I1, rx, a, ex, d, q1⟩ => ?_)
  subst ex
  obtain rfl : u = Value.ref a := rx
  obtain ⟨t1, t2, _⟩ := isD_at I1 d
  refine ⟨t1, t2, ?_⟩
  rw [m.trees]
  refine Calls.callWith_builtin rfl (Calls.evalArgs_plain (Calls.spliced_cons (thn (he.run pins s1 σ H1 _ I1 q1) fun iv s2 ⟨y, H2, I2, ry, b, kvs, more, ey, hne, ha, hb, hl, q2⟩ => Calls.spliced_nil ?_)))
  subst ey
  obtain rfl : iv = Value.ref b := ry
  exact d_upd I2 hne ha hb hl q2
theorem pd_upd {o e : Expr} {fo fe : EF} {apos cpos : Pos} (ho : PD X W o fo) (he : PD X W e fe) (m : L2.M1 X o "update" apos e cpos) : PD X W (.Call (.Attribute o "update" apos) [e] [] cpos) (eUpd fo fe) := pe_mono (pe_dupd ho he m) fun σ H Q ⟨ρ, δ, M, hE, hS, h⟩ =>
  rd_mono (rd_bind (f := fo) (g := fun d => evIsD d >>= fun _ => fe δ >>= fun y => evUpd d y) hE hS h) fun x H1 ⟨ρ1, d1, M1, n1, e1, s1, r1, h1⟩ => by
    rw [Ev.bind_run] at h1
    unfold evIsD at h1
    cases q1 : dctD M1 d1 with
    | none => rw [q1] at h1; exact h1.elim
    | some kvs1 =>
      rw [q1] at h1
      obtain ⟨a, ws, i, rfl, rfl, at1, m1, h2, h3⟩ := dctD_of s1 r1 q1
      refine ⟨a, rfl, .inl ⟨ws, .of h2⟩, ?_⟩
      exact rd_mono (rd_bind (f := fe) (g := fun y => evUpd (.ref i) y) e1 s1 h1) fun y H2 ⟨ρ2, d2, M2, n2, e2, s2, r2, h4⟩ => by
        have r1' := r1.mono n2.ext
        unfold evUpd at h4
        cases d2 with
        | ref j =>
          simp only at h4
          split at h4
          · rename_i kvs more k1 k2
            split at h4
            · rename_i hc
              obtain ⟨a', ws1, ea, at3, h6, h7⟩ := dct_at s2 r1' k1
              cases ea
              obtain ⟨b, ws2, rfl, at4, h8, h9⟩ := dct_at s2 r2 k2
              have hne : a ≠ b := fun q => hc.1 (s2.inj i j a at3 (by rw [q]; exact at4))
              have n4 := Nx.write (H := H2) (o := .dK (mergeK ws1 ws2)) at3 (fun φ q => by rw [h6] at q; cases q)
              refine ⟨b, ws1, ws2, rfl, hne, h6, h8, by rw [← h7.length, ← h9.length]; exact hc.2, ?_⟩
              exact h4 ρ2 .non _ n4 (s2.write at3 (fun φ q => by rw [h6] at q; cases q) ⟨_, upd_same, denK_merge (h9.mono n4.ext) (h7.mono n4.ext)⟩) .non
            · exact h4.elim
          · exact h4.elim
        | _ => exact h4.elim
end
end L2.MK

end

section
set_option Elab.async false
set_option linter.all false
set_option maxRecDepth 100000
set_option maxHeartbeats 1000000
set_option autoImplicit false
/-! Lists against []. -/
namespace L2.MK
open PySem PySem.Spec PyProof.Rows PySem.W
def someD (M : Sto) (x y : D) : Bool := match lvw M x, lvw M y with
  | some (_ :: _), some [] => true
  | _, _ => false
def oNeN : OF := fun x y M => if someD M x y = true then some (.bl true) else oNe x y M
def oEqN : OF := fun x y M => if someD M x y = true then some (.bl false) else oEq x y M
theorem someD_of {K : Frag} {ρ : List (Option Addr)} {H : Hp} {M : Sto} {a b : D} {x y : V} (S : StOk K ρ M H) (ra : Den K ρ (frz ρ H) a x) (rb : Den K ρ (frz ρ H) b y) (e : someD M a b = true) :
    ∃ p q v vs, x = .ref p ∧ y = .ref q ∧ H p = some (.lst (v :: vs)) ∧ H q = some (.lst []) := by
  unfold someD at e
  split at e
  · rename_i d ds e1 e2
    obtain ⟨p, vs, rfl, h1, r1⟩ := lvw_of S ra e1
    obtain ⟨q, ws, rfl, h2, r2⟩ := lvw_of S rb e2
    cases r1 with
    | cons a b =>
      cases r2
      exact ⟨p, q, _, _, rfl, rfl, h1, h2⟩
  · cases e
section
variable {X : Cx}
theorem op_neN (hu : X.A.units + 64 < cLine) : OpR X (compareOp .NotEq) (rO X.K oNeN) := by
  intro pins s σ H x y v u Q I rx ry ⟨ρ, M, a, b, d, S, ra, rb, e, q⟩
  unfold oNeN at e
  by_cases h : someD M a b = true
  · rw [if_pos h] at e
    cases e
    obtain ⟨p, r, v0, vs, rfl, rfl, h1, h2⟩ := someD_of S ra rb h
    cases (show v = Value.ref p from rx)
    cases (show u = Value.ref r from ry)
    obtain ⟨i1, r1, p1, _⟩ := I.list (.of h1)
    obtain ⟨i2, r2, p2, _⟩ := I.list (.of h2)
    have l1 := r1.length
    have l2 := r2.length
    exact PySem.SeqAt.RcNeAt.lists_lengths p1.isList p2.isList (by simp only [List.size_toArray, bne_iff_ne, ne_eq]; rw [← l1, ← l2]; simp) (by omega) X.prog X.w _ _ ⟨.bl true, H, I, rfl, q _ H Nx.refl S (.bl _)⟩
  · rw [if_neg h] at e
    exact op_ne' hu pins s σ H x y v u Q I rx ry ⟨ρ, M, a, b, d, S, ra, rb, e, q⟩
theorem op_eqN (hu : X.A.units + 64 < cLine) : OpR X (compareOp .Eq) (rO X.K oEqN) := by
  intro pins s σ H x y v u Q I rx ry ⟨ρ, M, a, b, d, S, ra, rb, e, q⟩
  unfold oEqN at e
  by_cases h : someD M a b = true
  · rw [if_pos h] at e
    cases e
    obtain ⟨p, r, v0, vs, rfl, rfl, h1, h2⟩ := someD_of S ra rb h
    cases (show v = Value.ref p from rx)
    cases (show u = Value.ref r from ry)
    obtain ⟨i1, r1, p1, _⟩ := I.list (.of h1)
    obtain ⟨i2, r2, p2, _⟩ := I.list (.of h2)
    have l1 := r1.length
    have l2 := r2.length
    exact PySem.SeqAt.RcAt.lists_lengths p1.isList p2.isList (by simp only [List.size_toArray, bne_iff_ne, ne_eq]; rw [← l1, ← l2]; simp) (by omega) X.prog X.w _ _ ⟨.bl false, H, I, rfl, q _ H Nx.refl S (.bl _)⟩
  · rw [if_neg h] at e
    exact op_eq' hu pins s σ H x y v u Q I rx ry ⟨ρ, M, a, b, d, S, ra, rb, e, q⟩
/-- a, b = e1, e2, plain names -/
def sPar (i j : Nat) (fa : AF) : SF := fun δ M => match fa δ M with
  | .ok [d, e] M' => .nx ((δ.set i (some d)).set j (some e)) M'
  | .exc C fs M' => .exc C fs δ M'
  | _ => .stuck
theorem pds_par {W : WX} {i j : Nat} {x y : Str} {a b : Expr} {fa : AF} {px py pt pos : Pos} {kt k2 pt2} (hc : X.calm = true) (hN : X.N.Nodup) (hi : X.N[i]? = some x) (hj : X.N[j]? = some y) (hij : i ≠ j)
    (hx : X.env.scope.names.lookup x = some .local) (hy : X.env.scope.names.lookup y = some .local) (ha : PDA X W [a, b] fa)
    (hw : swappedStores [.Tuple [.Name x px, .Name y py] kt pt] (.Tuple [a, b] k2 pt2) X.env = pure (some [x, y]))
    (hs : swapsWithSole [.Tuple [.Name x px, .Name y py] kt pt] (.Tuple [a, b] k2 pt2) pos.line X.env = pure false := by rfl) :
    PDS X W (.Assign [.Tuple [.Name x px, .Name y py] kt pt] (.Tuple [a, b] k2 pt2) pos) (sPar i j fa) := ps_mono (ps_par hc hN hi hj hij hx hy ha hw hs) fun σ H E ⟨ρ, δ, M, hE, hS, h⟩ => by
  refine ⟨ρ, δ, M, hE, hS, ?_⟩
  unfold sPar at h
  cases e : fa δ M with
  | stuck => rw [e] at h; exact h
  | exc C fs M' => rw [e] at h; exact fun ρ' d H' n s r => h ρ' d σ H' n s (hE.mono n.ext) r
  | ok ds M' =>
    rw [e] at h
    intro ρ' vs H' n s r
    split at h
    · rename_i d1 d2 M2 e2
      cases e2
      cases r with
      | cons r1 r2 =>
        cases r2 with
        | cons r2 r3 =>
          cases r3
          exact ⟨_, _, rfl, h ρ' _ H' n s (((hE.mono n.ext).set r1 i).set r2 j)⟩
    · rename_i e2; cases e2
    · exact h.elim
end
end L2.MK

end

section
set_option Elab.async false
set_option linter.all false
set_option maxRecDepth 100000
set_option maxHeartbeats 2000000
set_option autoImplicit false
/-! Data, loops, comprehensions, what is drawn from. -/
namespace L2.MK
open PySem PySem.Spec PyProof.Rows PySem.W

/-! ### data: what may be shown and compared -/
mutual
def dOk : D → Bool
  | .non => true
  | .bl _ => true
  | .int i => decide (-999999999999 ≤ i) && decide (i ≤ 999999999999)
  | .str x => x.cps.toList.all fun c => decide (c < 16 ^ 8)
  | .tup xs => dOks xs
  | .lst xs => dOks xs
  | _ => false
def dOks : List D → Bool
  | [] => true
  | d :: r => dOk d && dOks r
end
mutual
def dDep : D → Nat
  | .tup xs => dDeps xs + 1
  | .lst xs => dDeps xs + 1
  | _ => 0
def dDeps : List D → Nat
  | [] => 0
  | d :: r => max (dDep d) (dDeps r)
end
mutual
def dBk : D → Nat
  | .str x => x.cps.size
  | .tup xs => dBks xs
  | .lst xs => dBks xs
  | _ => 0
def dBks : List D → Nat
  | [] => 0
  | d :: r => dBk d + 1 + dBks r
end
theorem dOks_mem : ∀ {xs : List D}, dOks xs = true ↔ ∀ d ∈ xs, dOk d = true
  | [] => by simp [dOks]
  | d :: r => by simp [dOks, dOks_mem (xs := r)]
theorem dDeps_le {k : Nat} : ∀ {xs : List D}, dDeps xs ≤ k ↔ ∀ d ∈ xs, dDep d ≤ k
  | [] => by simp [dDeps]
  | d :: r => by simp only [dDeps, List.mem_cons, forall_eq_or_imp, ← dDeps_le (xs := r)]; omega
theorem dBks_append : ∀ (xs ys : List D), dBks (xs ++ ys) = dBks xs + dBks ys
  | [], ys => by simp [dBks]
  | d :: r, ys => by simp only [List.cons_append, dBks, dBks_append r ys]; omega
theorem dBks_le {k : Nat} : ∀ {xs : List D}, (∀ d ∈ xs, dBk d ≤ k) → dBks xs ≤ xs.length * (k + 1)
  | [], _ => by simp [dBks]
  | d :: r, h => by
    have h1 := h d (List.mem_cons_self ..)
    have h2 := dBks_le (xs := r) fun x hx => h x (List.mem_cons_of_mem _ hx)
    simp only [dBks, List.length_cons, Nat.add_mul]
    omega
mutual
theorem cl_dOk {n : Nat} : ∀ {d : D}, dOk d = true → cl n d = true
  | .non, _ => rfl
  | .bl _, _ => rfl
  | .int _, _ => rfl
  | .str _, _ => rfl
  | .tup xs, h => by unfold dOk at h; unfold cl; exact cls_dOk h
  | .lst xs, h => by unfold dOk at h; unfold cl; exact cls_dOk h
  | .rol xs, h => by unfold dOk at h; cases h
  | .dct _ xs, h => by unfold dOk at h; cases h
  | .ref _, h => by unfold dOk at h; cases h
  | .ins _ _, h => by unfold dOk at h; cases h
  | .exc _ _, h => by unfold dOk at h; cases h
  | .ty _, h => by unfold dOk at h; cases h
  | .cls _, h => by unfold dOk at h; cases h
theorem cls_dOk {n : Nat} : ∀ {ds : List D}, dOks ds = true → cls n ds = true
  | [], _ => rfl
  | d :: r, h => by
    unfold dOks at h
    obtain ⟨a, b⟩ := Bool.and_eq_true_iff.mp h
    unfold cls
    exact Bool.and_eq_true_iff.mpr ⟨cl_dOk a, cls_dOk b⟩
end
/-- what is needed of the data of d -/
structure PyOk (p : PyData) (dep bk : Nat) : Prop where
  plain : p.plain = true
  nod : p.hasDict = false
  short : p.leavesShort 13 = true
  show_ : p.showable = true
  dep : p.depth = dep
  bk : p.bulk = bk
structure PysOk (ps : List PyData) (dep bk : Nat) : Prop where
  plain : PyData.plainAll ps = true
  nod : PyData.hasDictAll ps = false
  short : PyData.leavesShortAll 13 ps = true
  show_ : PyData.showableAll ps = true
  dep : PyData.depthAll ps = dep
  bk : PyData.bulkAll ps = bk
theorem log2_small {i : Int} (h1 : -999999999999 ≤ i) (h2 : i ≤ 999999999999) : i.natAbs.log2 < 1920 := by
  have : i.natAbs < 2 ^ 40 := by
    have : (2 : Nat) ^ 40 = 1099511627776 := by decide
    omega
  have h3 : i.natAbs.log2 ≤ 40 := by
    by_cases h0 : i.natAbs = 0
    · rw [h0]; decide
    · have := (Nat.log2_lt h0).mpr this
      omega
  omega
mutual
theorem py_ok : ∀ {d : D}, dOk d = true → ∃ p, d.py = some p ∧ PyOk p (dDep d) (dBk d)
  | .non, _ => ⟨_, rfl, rfl, rfl, rfl, rfl, rfl, rfl⟩
  | .bl _, _ => ⟨_, rfl, rfl, rfl, rfl, rfl, rfl, rfl⟩
  | .int i, h => by
    unfold dOk at h
    obtain ⟨a, b⟩ := Bool.and_eq_true_iff.mp h
    have a := of_decide_eq_true a
    have b := of_decide_eq_true b
    exact ⟨_, rfl, rfl, rfl, decide_eq_true (PyData.shown_int_le2 a b), decide_eq_true (log2_small a b), rfl, rfl⟩
  | .str x, h => by
    unfold dOk at h
    exact ⟨_, rfl, rfl, rfl, h, rfl, rfl, rfl⟩
  | .tup xs, h => by
    unfold dOk at h
    obtain ⟨ps, e, o⟩ := pys_ok h
    exact ⟨.tuple ps, by unfold D.py; rw [e]; rfl, o.plain, o.nod, o.short, o.show_, congrArg (· + 1) o.dep, o.bk⟩
  | .lst xs, h => by
    unfold dOk at h
    obtain ⟨ps, e, o⟩ := pys_ok h
    exact ⟨.list ps, by unfold D.py; rw [e]; rfl, o.plain, o.nod, o.short, o.show_, congrArg (· + 1) o.dep, o.bk⟩
  | .rol xs, h => by unfold dOk at h; cases h
  | .dct _ xs, h => by unfold dOk at h; cases h
  | .ref _, h => by unfold dOk at h; cases h
  | .ins _ _, h => by unfold dOk at h; cases h
  | .exc _ _, h => by unfold dOk at h; cases h
  | .ty _, h => by unfold dOk at h; cases h
  | .cls _, h => by unfold dOk at h; cases h
theorem pys_ok : ∀ {ds : List D}, dOks ds = true → ∃ ps, D.pys ds = some ps ∧ PysOk ps (dDeps ds) (dBks ds)
  | [], _ => ⟨[], by unfold D.pys; rfl, rfl, rfl, rfl, rfl, rfl, rfl⟩
  | d :: r, h => by
    unfold dOks at h
    obtain ⟨a, b⟩ := Bool.and_eq_true_iff.mp h
    obtain ⟨p, e1, o1⟩ := py_ok a
    obtain ⟨ps, e2, o2⟩ := pys_ok b
    refine ⟨p :: ps, by unfold D.pys; rw [e1, e2], ?_, ?_, ?_, ?_, ?_, ?_⟩
    · unfold PyData.plainAll; rw [o1.plain, o2.plain]; rfl
    · unfold PyData.hasDictAll; rw [o1.nod, o2.nod]; rfl
    · unfold PyData.leavesShortAll; rw [o1.short, o2.short]; rfl
    · unfold PyData.showableAll; rw [o1.show_, o2.show_]; rfl
    · unfold PyData.depthAll dDeps; rw [o1.dep, o2.dep]
    · unfold PyData.bulkAll dBks; rw [o1.bk, o2.bk]
end
theorem vw_ok {M : Sto} {d : D} (h : dOk d = true) : vw M d = d := by
  cases d <;> first | rfl | (unfold dOk at h; cases h)
/-- two data, as == reads them -/
def eqv (x y : D) : Bool := PyData.eqv (pyD x) (pyD y)
theorem eqD_ok {M : Sto} {x y : D} (hx : dOk x = true) (hy : dOk y = true) (dx : dDep x ≤ 60) : eqD x y M = some (eqv x y) := by
  obtain ⟨p, e1, o1⟩ := py_ok hx
  obtain ⟨q, e2, o2⟩ := py_ok hy
  unfold eqD eqv pyD
  rw [vw_ok hx, vw_ok hy, e1, e2]
  exact if_pos ⟨o1.plain, o2.plain, by have := o1.dep; omega⟩
theorem eqv_self {x : D} (hx : dOk x = true) : eqv x x = true := by
  obtain ⟨p, e1, o1⟩ := py_ok hx
  unfold eqv pyD
  rw [e1]
  exact PySem.SeqAt.eqv_refl_plain p o1.plain
theorem eqv_int (i j : Int) : eqv (.int i) (.int j) = decide (i = j) := by
  show (i == j) = _
  by_cases h : i = j <;> simp [h]
theorem eqv_str (a b : Str) : eqv (.str a) (.str b) = decide (a = b) := by
  show (a == b) = _
  by_cases h : a = b <;> simp [h]
theorem eqv_nil {xs : List D} (h : dOks xs = true) : eqv (.lst xs) (.lst []) = xs.isEmpty := by
  obtain ⟨ps, e, _⟩ := pys_ok h
  have e1 : (D.lst xs).py = some (.list ps) := by unfold D.py; rw [e]; rfl
  have e2 : (D.lst []).py = some (.list []) := by unfold D.py D.pys; rfl
  unfold eqv pyD
  rw [e1, e2]
  cases xs with
  | nil => unfold D.pys at e; cases e; rfl
  | cons a r =>
    unfold D.pys at e
    split at e
    · cases e; rfl
    · cases e
theorem repr_ok {M : Sto} {d : D} (h : dOk d = true) (hd : dDep d ≤ 60) (hb : dBk d ≤ 2 ^ 20) : ∃ s, gRepr [d] M = some (.str s) ∧ ∀ M', gRepr [d] M' = some (.str s) := by
  obtain ⟨p, e1, o1⟩ := py_ok h
  have g : ∀ M', gRepr [d] M' = some (.str p.shown) := fun M' => by
    show (match (vw M' d).py with
      | some p => if p.showable = true ∧ p.hasDict = false ∧ p.depth ≤ 60 ∧ p.shown.length ≤ sizeLine then some (D.str p.shown) else none
      | none => none) = _
    rw [vw_ok h, e1]
    exact if_pos ⟨o1.show_, o1.nod, by rw [o1.dep]; exact hd, PyData.shown_fits_bulk (by decide) (by decide) o1.short (by rw [o1.bk]; exact hb)⟩
  exact ⟨_, g M, g⟩
/-- x in a list of data -/
theorem inD_ok {M : Sto} {x : D} {ys : List D} (hx : dOk x = true) (hy : dOks ys = true) (dx : dDep x ≤ 60) : inD x (.lst ys) M = some (ys.any fun y => eqv y x) := by
  obtain ⟨p, e1, o1⟩ := py_ok hx
  obtain ⟨ps, e2, o2⟩ := pys_ok hy
  have e3 : (D.lst ys).py = some (.list ps) := by unfold D.py; rw [e2]; rfl
  have key : ∀ {ys : List D} {ps : List PyData}, D.pys ys = some ps → ps.any (fun q => PyData.eqv q p) = ys.any fun y => eqv y x := by
    intro ys
    induction ys with
    | nil => intro ps e; unfold D.pys at e; cases e; rfl
    | cons a r ih =>
      intro ps e
      unfold D.pys at e
      split at e
      · rename_i p1 p2 q1 q2
        cases e
        rw [List.any_cons, List.any_cons, ih q2]
        congr 1
        unfold eqv pyD
        rw [q1, e1]; rfl
      · cases e
  unfold inD
  split
  · rename_i z; cases z
  · rw [vw_ok hx, e1, show vw M (.lst ys) = .lst ys from rfl, e3]
    simp only
    rw [if_pos ⟨o1.plain, o2.plain, by have := o1.dep; omega⟩, key e2]
/-! ### isinstance -/
def tyN : D → String
  | .non => "NoneType"
  | .bl _ => "bool"
  | .int _ => "int"
  | .str _ => "str"
  | .tup _ => "tuple"
  | .lst _ => "list"
  | .rol _ => "list"
  | _ => ""
def isTy (d : D) (T : String) : Bool := tyN d == T || (tyN d == "bool" && T == "int")
theorem kit_ty (K : Frag) : ∀ S ∈ ["NoneType", "bool", "int", "str", "tuple", "list", "dict"], ∀ T ∈ ["bool", "int", "str", "tuple", "list", "dict"], kitOne K (.type S) (.type T) = some (S == T || (S == "bool" && T == "int")) := by
  intro S hS T hT
  simp only [List.mem_cons, List.not_mem_nil, or_false] at hS hT
  rcases hS with rfl | rfl | rfl | rfl | rfl | rfl | rfl <;> rcases hT with rfl | rfl | rfl | rfl | rfl | rfl <;> rfl
theorem gIsi_ok {K : Frag} {Ci Ce : List Str} {M : Sto} {d : D} {T : String} (h : dOk d = true) (hT : T ∈ ["bool", "int", "str", "tuple", "list", "dict"]) : gIsi K Ci Ce [d, .ty T] M = some (.bl (isTy d T)) := by
  have k : ∀ S ∈ ["NoneType", "bool", "int", "str", "tuple", "list", "dict"], (kitOne K (.type S) (.type T)).map D.bl = some (.bl (S == T || (S == "bool" && T == "int"))) := fun S hS => by rw [kit_ty K S hS T hT]; rfl
  cases d <;> first | exact k _ (by simp) | (unfold dOk at h; cases h)
/-! ### loops -/
section
variable {N : Env → Sto → Prop} {R : D → Sto → Prop} {XX : XS} {δ : Env} {M : Sto}
theorem forD_inv {it : ID} {g : D → SF} {b : SF} {xs : List D} (hit : ∀ M i, it M i = some (xs[i]?)) (I : Nat → Env → Sto → Prop)
    (h : ∀ i x δ M, xs[i]? = some x → I i δ M → Ws (g x δ M) (fun δ1 M1 => Ws (b δ1 M1) (I (i + 1)) R XX) (fun _ _ => False) XX) :
    ∀ r i δ M, i + r = xs.length → I i δ M → Ws (forD it g b r i δ M) (I xs.length) R XX
  | 0, i, δ, M, e, hI => by with_unfolding_all
    unfold forD
    rw [hit, List.getElem?_eq_none (by omega)]
    have : i = xs.length := by omega
    subst this
    exact hI
  | r + 1, i, δ, M, e, hI => by with_unfolding_all
    unfold forD
    have hi : i < xs.length := by omega
    rw [hit, List.getElem?_eq_getElem hi]
    have q := h i xs[i] δ M (List.getElem?_eq_getElem hi) hI
    simp only
    cases e1 : g xs[i] δ M with
    | ret d M' => rw [e1] at q; exact q.elim
    | exc C fs δ' M' => rw [e1] at q; exact q
    | stuck => rw [e1] at q; exact q.elim
    | nx δ1 M1 =>
      rw [e1] at q
      replace q : Ws (b δ1 M1) (I (i + 1)) R XX := q
      show Ws (match b δ1 M1 with
        | .nx δ2 M2 => forD it g b r (i + 1) δ2 M2
        | o => o) _ _ _
      cases e2 : b δ1 M1 with
      | nx δ2 M2 => rw [e2] at q; exact forD_inv hit I h r (i + 1) δ2 M2 (by omega) q
      | ret d M' => rw [e2] at q; exact q
      | exc C fs δ' M' => rw [e2] at q; exact q
      | stuck => rw [e2] at q; exact q.elim
/-- an iterable's things -/
def Wi (o : Out (Nat × ID)) (P : List D → Sto → Prop) (X : XP) : Prop := Wp o (fun p M => ∃ xs : List D, p.1 = xs.length ∧ (∀ M i, p.2 M i = some (xs[i]?)) ∧ P xs M) X
/-- THE RULE for a loop: I what holds ahead of turn i -/
theorem ws_for {f : IF} {g : D → SF} {b : SF} (I : List D → Nat → Env → Sto → Prop) (hi : Wi (f δ M) (fun xs M1 => I xs 0 δ M1 ∧ (∀ i x δ M, xs[i]? = some x → I xs i δ M → Ws (g x δ M) (fun δ1 M1 => Ws (b δ1 M1) (I xs (i + 1)) R XX) (fun _ _ => False) XX) ∧ ∀ δ M, I xs xs.length δ M → N δ M) (fun C fs M' => XX C fs δ M')) :
    Ws (sFor f g b δ M) N R XX := by with_unfolding_all
  unfold sFor
  cases e : f δ M with
  | stuck => rw [e] at hi; exact hi.elim
  | exc C fs M' => rw [e] at hi; exact hi
  | ok p M' =>
    rw [e] at hi
    replace hi := wp_ok.mp hi
    obtain ⟨xs, e1, e2, i0, h, fin⟩ := hi
    have q := forD_inv e2 (I xs) h p.1 0 δ M' (by omega) i0
    exact q.mono fin (fun _ _ z => z) fun _ _ _ _ z => z
def charsD (z : Str) : List D := z.cps.toList.map fun c => .str ⟨#[c]⟩
theorem charsD_at (z : Str) (i : Nat) : chD z i = (charsD z)[i]? := by
  unfold chD charsD
  rw [List.getElem?_map, Array.getElem?_toList]
/-- what a loop runs over, the store aside -/
def seqF : D → Option (List D)
  | .lst xs => some xs
  | .tup xs => some xs
  | .rol xs => some xs
  | .str z => some (charsD z)
  | _ => none
variable {P : List D → Sto → Prop} {X : XP}
theorem wi_seq {f : EF} (h : Wp (f δ M) (fun d M1 => Sm (seqF d) fun xs => P xs M1) X) : Wi (iSeq f δ M) P X := by with_unfolding_all
  unfold Wi iSeq
  rw [w_bind]
  refine h.mono fun d M1 q => ?_
  obtain ⟨xs, e, q⟩ := q.get
  cases d with
  | str z =>
    cases e
    exact ⟨charsD z, by show z.cps.size = _; unfold charsD; simp, fun M i => congrArg some (charsD_at z i), q⟩
  | tup ys => cases e; exact ⟨_, rfl, fun M i => rfl, q⟩
  | lst ys => cases e; exact ⟨_, rfl, fun M i => rfl, q⟩
  | rol ys => cases e; exact ⟨_, rfl, fun M i => rfl, q⟩
  | _ => cases e
/-- 0, 1, .. -/
def rngD (a : Int) (n : Nat) : List D := (List.range n).map fun i => .int (a + (i : Nat))
theorem rngD_at (a : Int) (n i : Nat) : (rngD a n)[i]? = if i < n then some (.int (a + (i : Nat))) else none := by
  unfold rngD
  rw [List.getElem?_map]
  by_cases h : i < n
  · rw [if_pos h, List.getElem?_range h]; rfl
  · rw [if_neg h, List.getElem?_eq_none (by simpa using h)]; rfl
theorem rngD_length (a : Int) (n : Nat) : (rngD a n).length = n := by unfold rngD; simp
theorem wi_rng1 {f : AF} (h : Wp (f δ M) (fun ds M1 => ∃ j : Int, ds = [.int j] ∧ -(2 ^ 62) ≤ j ∧ j < 2 ^ 62 ∧ P (rngD 0 j.toNat) M1) X) : Wi (iArgs wRng1 f δ M) P X := by with_unfolding_all
  unfold Wi iArgs
  rw [w_bind]
  refine h.mono fun ds M1 ⟨j, e, h1, h2, q⟩ => ?_
  subst e
  have e : wRng1 [.int j] M1 = some (j.toNat, fun _ i => some (if i < j.toNat then some (.int (0 + (i : Nat))) else none)) := if_pos ⟨h1, h2⟩
  unfold evI
  rw [e]
  exact ⟨rngD 0 j.toNat, (rngD_length _ _).symm, fun M i => congrArg some (rngD_at 0 j.toNat i).symm, q⟩
theorem wi_rng2 {f : AF} (h : Wp (f δ M) (fun ds M1 => ∃ a b : Int, ds = [.int a, .int b] ∧ -(2 ^ 62) ≤ a ∧ a < 2 ^ 62 ∧ -(2 ^ 62) ≤ b ∧ b < 2 ^ 62 ∧ P (rngD a (b - a).toNat) M1) X) : Wi (iArgs wRng2 f δ M) P X := by with_unfolding_all
  unfold Wi iArgs
  rw [w_bind]
  refine h.mono fun ds M1 ⟨a, b, e, h1, h2, h3, h4, q⟩ => ?_
  subst e
  have e : wRng2 [.int a, .int b] M1 = some ((b - a).toNat, fun _ i => some (if i < (b - a).toNat then some (.int (a + (i : Nat))) else none)) := if_pos ⟨h1, h2, h3, h4⟩
  unfold evI
  rw [e]
  exact ⟨rngD a (b - a).toNat, (rngD_length _ _).symm, fun M i => congrArg some (rngD_at a (b - a).toNat i).symm, q⟩
/-- frozen lists -/
def sqF : D → Option (List D)
  | .lst xs => some xs
  | .tup xs => some xs
  | .rol xs => some xs
  | _ => none
theorem sqD_F {M : Sto} {d : D} {xs : List D} (h : sqF d = some xs) : sqD M d = some xs := by
  cases d <;> simp only [sqF, reduceCtorEq, Option.some.injEq] at h <;> subst h <;> rfl
/-- (0, x), (1, y), .. -/
def enumD (k : Nat) : List D → List D
  | [] => []
  | x :: r => .tup [.int (k : Nat), x] :: enumD (k + 1) r
theorem enumD_at : ∀ (xs : List D) (k i : Nat), (enumD k xs)[i]? = xs[i]?.map fun x => .tup [.int ((k + i : Nat) : Int), x]
  | [], k, i => by simp [enumD]
  | x :: r, k, 0 => by simp [enumD]
  | x :: r, k, i + 1 => by
    simp only [enumD, List.getElem?_cons_succ, enumD_at r (k + 1) i]
    have e : k + 1 + i = k + (i + 1) := by omega
    rw [e]
theorem enumD_length : ∀ (xs : List D) (k : Nat), (enumD k xs).length = xs.length
  | [], k => rfl
  | x :: r, k => by simp only [enumD, List.length_cons, enumD_length r (k + 1)]
theorem wi_enum {f : AF} (h : Wp (f δ M) (fun ds M1 => ∃ d, ds = [d] ∧ Sm (sqF d) fun xs => P (enumD 0 xs) M1) X) : Wi (iArgs wEnum f δ M) P X := by with_unfolding_all
  unfold Wi iArgs
  rw [w_bind]
  refine h.mono fun ds M1 ⟨d, e, q⟩ => ?_
  subst e
  obtain ⟨xs, e, q⟩ := q.get
  have e1 : wEnum [d] M1 = some (xs.length, fun M i => (sqD M d).map fun zs => zs[i]?.map fun x => .tup [.int (i : Nat), x]) := by
    show (sqD M1 d).map _ = _
    rw [sqD_F e]; rfl
  unfold evI
  rw [e1]
  refine ⟨enumD 0 xs, (enumD_length _ _).symm, fun M i => ?_, q⟩
  show (sqD M d).map _ = _
  rw [sqD_F e, Option.map_some, enumD_at]
  simp
end
/-! ### list comprehensions -/
section
variable {fi : IF} {p : Pt} {bt : BF} {f : EF} {vs : List Nat} {δ : Env} {M : Sto} {Q : D → Sto → Prop} {X : XP}
theorem lcO_inv {it : ID} {xs : List D} (hit : ∀ M i, it M i = some (xs[i]?)) {n : Nat} {δw : Env} (I : Nat → List D → Sto → Prop)
    (h : ∀ i x ys Ma, xs[i]? = some x → I i ys Ma → Ma.length = n → Sm (setPt (Ma ++ [.lst ys]) p x δw) fun δ1 => Wp (bt δ1 (Ma ++ [.lst ys])) (fun k M2 => if k = true then Wp (f δ1 M2) (fun y M3 => ∃ Mc, M3 = Mc ++ [.lst ys] ∧ Mc.length = n ∧ ys.length < sizeLine ∧ I (i + 1) (ys ++ [y]) Mc) X0 else ∃ Mb, M2 = Mb ++ [.lst ys] ∧ Mb.length = n ∧ I (i + 1) ys Mb) X0) :
    ∀ r i ys Ma, i + r = xs.length → I i ys Ma → Ma.length = n → ∃ ys' Me, Me.length = n ∧ lcO it p bt f n δw r i (Ma ++ [.lst ys]) = .ok (.ref n) (Me ++ [.lst ys']) ∧ I xs.length ys' Me
  | 0, i, ys, Ma, e, hI, hl => by
    unfold lcO
    rw [hit, List.getElem?_eq_none (by omega)]
    have : i = xs.length := by omega
    subst this
    exact ⟨ys, Ma, hl, rfl, hI⟩
  | r + 1, i, ys, Ma, e, hI, hl => by with_unfolding_all
    unfold lcO
    have hi : i < xs.length := by omega
    rw [hit, List.getElem?_eq_getElem hi]
    obtain ⟨δ1, e1, q⟩ := (h i xs[i] ys Ma (List.getElem?_eq_getElem hi) hI hl).get
    simp only [e1]
    cases e2 : bt δ1 (Ma ++ [.lst ys]) with
    | stuck => rw [e2] at q; exact q.elim
    | exc C fs M' => rw [e2] at q; exact q.elim
    | ok k M2 =>
      rw [e2] at q
      cases k with
      | false =>
        rw [wp_ok, if_neg (by simp)] at q
        obtain ⟨Mb, rfl, lb, hb⟩ := q
        simp only
        exact lcO_inv hit I h r (i + 1) ys Mb (by omega) hb lb
      | true =>
        rw [wp_ok, if_pos rfl] at q
        simp only
        cases e3 : f δ1 M2 with
        | stuck => rw [e3] at q; exact q.elim
        | exc C fs M' => rw [e3] at q; exact q.elim
        | ok y M3 =>
          rw [e3] at q
          rw [wp_ok] at q
          obtain ⟨Mc, rfl, lc, hs, hc⟩ := q
          have e4 : gAppend (.ref n) [y] (Mc ++ [.lst ys]) = some (.non, Mc ++ [.lst (ys ++ [y])]) := by
            show (match (Mc ++ [MO.lst ys])[n]? with
              | some (.lst xs) => if xs.length < sizeLine then some (D.non, (Mc ++ [MO.lst ys]).set n (.lst (xs ++ [y]))) else none
              | _ => none) = _
            rw [← lc, List.getElem?_append_right (Nat.le_refl _)]
            simp only [Nat.sub_self, List.getElem?_cons_zero]
            rw [if_pos hs, List.set_append_right _ _ (Nat.le_refl _)]
            simp
          simp only [e4]
          exact lcO_inv hit I h r (i + 1) (ys ++ [y]) Mc (by omega) hc lc
/-- THE RULE for [f for p in fi if bt]: I what holds ahead of turn i, ys what is there -/
theorem w_lc (I : List D → Nat → List D → Sto → Prop) (hi : Wi (fi δ M) (fun xs M1 => M1.length = M.length ∧ I xs 0 [] M1 ∧
      (∀ i x ys Ma, xs[i]? = some x → I xs i ys Ma → Ma.length = M.length → Sm (setPt (Ma ++ [.lst ys]) p x (wipeD δ vs)) fun δ1 => Wp (bt δ1 (Ma ++ [.lst ys])) (fun k M2 => if k = true then Wp (f δ1 M2) (fun y M3 => ∃ Mc, M3 = Mc ++ [.lst ys] ∧ Mc.length = M.length ∧ ys.length < sizeLine ∧ I xs (i + 1) (ys ++ [y]) Mc) X0 else ∃ Mb, M2 = Mb ++ [.lst ys] ∧ Mb.length = M.length ∧ I xs (i + 1) ys Mb) X0) ∧
      ∀ ys Me, Me.length = M.length → I xs xs.length ys Me → Ok Me ∧ cls M.length ys = true ∧ Q (.lst ys) Me) X0) : Wp (eLc fi p bt f vs δ M) Q X := by with_unfolding_all
  unfold eLc eLcM
  cases e : fi δ M with
  | stuck => rw [e] at hi; exact hi.elim
  | exc C fs M' => rw [e] at hi; exact hi.elim
  | ok q M1 =>
    rw [e] at hi
    replace hi := wp_ok.mp hi
    obtain ⟨xs, e1, e2, l1, i0, h, fin⟩ := hi
    obtain ⟨ys', Me, le, eo, hI⟩ := lcO_inv (n := M1.length) (δw := wipeD δ vs) e2 (I xs) (fun i x ys Ma a b c => by rw [l1]; exact h i x ys Ma a b (by rw [c, l1])) q.1 0 [] M1 (by omega) i0 rfl
    simp only [eo]
    obtain ⟨o1, o2, o3⟩ := fin ys' Me (le.trans l1) hI
    rw [w_trim]
    show Sm _ _
    rw [← le.trans l1] at o2 ⊢
    exact trim_lst o1 (by omega) (by rw [← le, List.getElem?_append_right (Nat.le_refl _)]; simp) o2 o3
/-- the store stays: a filter and a map -/
theorem w_lcP (xs : List D) (B : D → Bool) (F : D → D) (hM : Ok M) (hl : xs.length ≤ sizeLine) (hi : Wi (fi δ M) (fun ys M1 => ys = xs ∧ M1 = M) X0)
    (h : ∀ x ∈ xs, ∀ M2 : Sto, Ok M2 → Sm (setPt M2 p x (wipeD δ vs)) fun δ1 => Wp (bt δ1 M2) (fun k M3 => k = B x ∧ M3 = M2) X0 ∧ (B x = true → Wp (f δ1 M2) (fun y M3 => y = F x ∧ M3 = M2) X0))
    (hc : ∀ x ∈ xs, B x = true → cl M.length (F x) = true) (hQ : Q (.lst ((xs.filter B).map F)) M) : Wp (eLc fi p bt f vs δ M) Q X := by
  refine w_lc (fun zs i ys Ma => zs = xs ∧ Ma = M ∧ ys = ((xs.take i).filter B).map F) (hi.mono fun q M1 ⟨ys, a, b, c, d⟩ => ⟨ys, a, b, ?_⟩)
  subst c d
  have clAll : ∀ n : Nat, cls M1.length (((ys.take n).filter B).map F) = true := fun n => cls_mem.mpr fun d hd => by
    obtain ⟨x, hx, rfl⟩ := List.mem_map.mp hd
    obtain ⟨h1, h2⟩ := List.mem_filter.mp hx
    exact hc x (List.mem_of_mem_take h1) h2
  refine ⟨rfl, ⟨rfl, rfl, by simp⟩, fun i x zs Ma hx ⟨_, e1, e2⟩ ln => ?_, fun zs Me ln ⟨_, e1, e2⟩ => ?_⟩
  · subst e1
    have hm : x ∈ ys := List.mem_of_getElem? hx
    have ok2 : Ok (Ma ++ [.lst zs]) := fun m hm => by
      rcases List.mem_append.mp hm with hm | hm
      · have := hM m hm
        revert this
        cases m with
        | lst as => exact fun z => cls_mono (by simp) z
        | dK as => exact fun z => cls_mono (by simp) z
        | ins _ _ => exact fun z => z
        | opq => exact fun z => z
        | dead => exact fun z => z
      · rw [List.mem_singleton] at hm
        subst hm
        subst e2
        exact cls_mono (by simp) (clAll i)
    have ilt : i < ys.length := by
      rcases Nat.lt_or_ge i ys.length with z | z
      · exact z
      · rw [List.getElem?_eq_none z] at hx; cases hx
    have tk : ys.take (i + 1) = ys.take i ++ [x] := by
      rw [List.take_succ, hx]; rfl
    refine (h x hm _ ok2).mono fun δ1 ⟨h1, h2⟩ => h1.mono fun k M3 ⟨ek, eM⟩ => ?_
    subst eM ek
    by_cases hb : B x = true
    · rw [if_pos hb]
      refine (h2 hb).mono fun y M4 ⟨ey, eM⟩ => ?_
      subst ey eM
      refine ⟨Ma, rfl, rfl, ?_, rfl, rfl, ?_⟩
      · subst e2
        have : (((ys.take i).filter B).map F).length ≤ i := by
          rw [List.length_map]
          exact Nat.le_trans (List.length_filter_le _ _) (List.length_take_le _ _)
        omega
      · rw [e2, tk, List.filter_append, List.map_append]
        simp [hb]
    · rw [if_neg hb]
      refine ⟨Ma, rfl, rfl, rfl, rfl, ?_⟩
      rw [e2, tk, List.filter_append, List.map_append]
      simp [hb]
  · subst e1
    rw [List.take_length] at e2
    subst e2
    refine ⟨hM, ?_, hQ⟩
    have := clAll ys.length
    rw [List.take_length] at this
    exact this
end
end L2.MK

end

section
set_option Elab.async false
set_option linter.all false
set_option maxRecDepth 100000
set_option maxHeartbeats 2000000
set_option autoImplicit false
/-! What the laws draw from. -/
namespace L2.MK
open PySem PySem.Spec PyProof.Rows PySem.W

/-! ### more rules -/
theorem sqD_lst (M : Sto) (xs : List D) : sqD M (.lst xs) = some xs := rfl
theorem sqD_tup (M : Sto) (xs : List D) : sqD M (.tup xs) = some xs := rfl
theorem sqD_rol (M : Sto) (xs : List D) : sqD M (.rol xs) = some xs := rfl
theorem vw_lst (M : Sto) (xs : List D) : vw M (.lst xs) = .lst xs := rfl
theorem gLen_lst (M : Sto) (xs : List D) : gLen [.lst xs] M = some (.int xs.length) := rfl
theorem gLen_tup (M : Sto) (xs : List D) : gLen [.tup xs] M = some (.int xs.length) := rfl
theorem gInt_int (M : Sto) (i : Int) : gInt [.int i] M = some (.int i) := rfl
theorem gInt_bl (M : Sto) (b : Bool) : gInt [.bl b] M = some (.int (if b then 1 else 0)) := rfl
theorem gAbs_int (M : Sto) (i : Int) : gAbs [.int i] M = some (.int (if i < 0 then -i else i)) := rfl
theorem oAdd_int (M : Sto) (i j : Int) : oAdd (.int i) (.int j) M = some (.int (i + j)) := rfl
theorem oSub_int (M : Sto) (i j : Int) : oSub (.int i) (.int j) M = some (.int (i - j)) := rfl
theorem oLt_int (M : Sto) (i j : Int) : oLt (.int i) (.int j) M = some (.bl (decide (i < j))) := rfl
theorem oLe_int (M : Sto) (i j : Int) : oLe (.int i) (.int j) M = some (.bl (decide (i ≤ j))) := rfl
theorem oGt_int (M : Sto) (i j : Int) : oGt (.int i) (.int j) M = some (.bl (decide (j < i))) := rfl
theorem oGe_int (M : Sto) (i j : Int) : oGe (.int i) (.int j) M = some (.bl (decide (j ≤ i))) := rfl
theorem oMod_int {M : Sto} {i j : Int} (h : 0 < j) : oMod (.int i) (.int j) M = some (.int (i % j)) := if_pos h
theorem oDiv_int {M : Sto} {i j : Int} (h : 0 < j) (h2 : j.natAbs.log2 < 9000) : oDiv (.int i) (.int j) M = some (.int (i / j)) := if_pos ⟨h, h2⟩
theorem oMul_int {M : Sto} {i j : Int} (h : i.natAbs.log2 + j.natAbs.log2 < 1000000) : oMul (.int i) (.int j) M = some (.int (i * j)) := if_pos h
theorem oIx_lst (M : Sto) (xs : List D) (i : Int) : oIx (.lst xs) (.int i) M = atI xs i := rfl
theorem oIx_tup (M : Sto) (xs : List D) (i : Int) : oIx (.tup xs) (.int i) M = atI xs i := rfl
theorem oEq_int (M : Sto) (i j : Int) : oEq (.int i) (.int j) M = some (.bl (decide (i = j))) := by
  unfold oEq
  have : eqD (.int i) (.int j) M = some (i == j) := by
    unfold eqD
    show (if _ then _ else _) = _
    exact if_pos ⟨rfl, rfl, Nat.zero_le _⟩
  rw [this]
  show some (D.bl (i == j)) = _
  by_cases h : i = j <;> simp [h]
theorem oNe_int (M : Sto) (i j : Int) : oNe (.int i) (.int j) M = some (.bl (!decide (i = j))) := by
  have e := oEq_int M i j
  unfold oEq at e
  unfold oNe
  cases q : eqD (.int i) (.int j) M with
  | none => rw [q] at e; cases e
  | some b => rw [q] at e; cases e; rfl
theorem atI_nat {α : Type} {xs : List α} {i : Nat} {x : α} (h : xs[i]? = some x) : atI xs (i : Int) = some x := by
  have hl : i < xs.length := by
    rcases Nat.lt_or_ge i xs.length with z | z
    · exact z
    · rw [List.getElem?_eq_none z] at h; cases h
  unfold atI ixN
  rw [if_pos (by omega), if_pos (by omega)]
  simpa using h
theorem atI_at {α : Type} {xs : List α} {i : Int} (h0 : 0 ≤ i) (h1 : i < xs.length) : ∃ x, atI xs i = some x ∧ x ∈ xs ∧ xs[i.toNat]? = some x := by
  have h : i.toNat < xs.length := by omega
  have e : ((i.toNat : Nat) : Int) = i := by omega
  have g : xs[i.toNat]? = some xs[i.toNat] := List.getElem?_eq_getElem h
  refine ⟨xs[i.toNat], ?_, List.getElem_mem _, g⟩
  have q := atI_nat g
  rw [e] at q
  exact q
theorem ixN_at {n : Nat} {i : Int} (h0 : 0 ≤ i) (h1 : i < n) : ixN n i = some i.toNat := by
  unfold ixN
  rw [if_pos h0, if_pos h1]
theorem log2_le {i : Int} {k : Nat} (h : i.natAbs < 2 ^ k) : i.natAbs.log2 ≤ k := by
  by_cases h0 : i.natAbs = 0
  · rw [h0]; simp
  · have := (Nat.log2_lt h0).mpr h
    omega
theorem mul_ok {i j : Int} (hi : i.natAbs < 2 ^ 400) (hj : j.natAbs < 2 ^ 400) : i.natAbs.log2 + j.natAbs.log2 < 1000000 := by
  have := log2_le hi
  have := log2_le hj
  omega
/-! ### the source -/
def src (p : Nat) (cs : List D) (t : Int) : Sto := List.replicate p (.lst []) ++ [.lst cs, .lst [.ref p, .int t]]
theorem src_length (p : Nat) (cs : List D) (t : Int) : (src p cs t).length = p + 2 := by unfold src; simp
section
variable {p : Nat} {cs : List D} {t : Int} {L : Sto}
theorem src_0 : (src p cs t ++ L)[p]? = some (.lst cs) := by
  unfold src
  rw [List.append_assoc, List.getElem?_append_right (by simp)]
  simp
theorem src_1 : (src p cs t ++ L)[p + 1]? = some (.lst [.ref p, .int t]) := by
  unfold src
  rw [List.append_assoc, List.getElem?_append_right (by simp)]
  simp
theorem src_L (j : Nat) : (src p cs t ++ L)[p + 2 + j]? = L[j]? := by
  rw [List.getElem?_append_right (by rw [src_length]; omega), src_length]
  congr 1
  omega
theorem src_set0 (cs' : List D) : (src p cs t ++ L).set p (.lst cs') = src p cs' t ++ L := by
  unfold src
  rw [List.append_assoc, List.append_assoc, List.set_append_right _ _ (by simp)]
  simp
theorem src_set1 (t' : Int) : (src p cs t ++ L).set (p + 1) (.lst [.ref p, .int t']) = src p cs t' ++ L := by
  unfold src
  rw [List.append_assoc, List.append_assoc, List.set_append_right _ _ (by simp)]
  simp
theorem src_setL (j : Nat) (m : MO) : (src p cs t ++ L).set (p + 2 + j) m = src p cs t ++ L.set j m := by
  rw [List.set_append_right _ _ (by rw [src_length]; omega), src_length]
  congr 2
  omega
theorem sqD_src1 : sqD (src p cs t ++ L) (.ref (p + 1)) = some [.ref p, .int t] := by unfold sqD vw; simp only [src_1]
theorem gLen_src0 : gLen [.ref p] (src p cs t ++ L) = some (.int cs.length) := by
  show (match vw (src p cs t ++ L) (.ref p) with
    | .lst xs => some (D.int xs.length)
    | .rol xs => some (.int xs.length)
    | .tup xs => some (.int xs.length)
    | .str z => if z.length ≤ sizeLine then some (.int z.length) else none
    | _ => none) = _
  unfold vw; simp only [src_0]
theorem oIx_src0 (i : Int) : oIx (.ref p) (.int i) (src p cs t ++ L) = atI cs i := by
  unfold oIx vw; simp only [src_0]
theorem stI_src1 (v : Int) : stI (.ref (p + 1)) (.int 1) (.int v) (src p cs t ++ L) = some (src p cs v ++ L) := by
  unfold stI
  simp only [src_1]
  show some ((src p cs t ++ L).set (p + 1) (.lst [.ref p, .int v])) = _
  rw [src_set1]
theorem stI_src0 {i : Int} (v : D) (h0 : 0 ≤ i) (h1 : i < cs.length) : stI (.ref p) (.int i) v (src p cs t ++ L) = some (src p (cs.set i.toNat v) t ++ L) := by
  unfold stI
  simp only [src_0]
  rw [ixN_at h0 h1]
  show some ((src p cs t ++ L).set p _) = _
  rw [src_set0]
end
/-- whole numbers, one at least -/
def Cells (cs : List D) : Prop := cs ≠ [] ∧ cs.length ≤ 1000 ∧ ∀ d ∈ cs, ∃ i : Int, d = .int i
/-- behind the source stands L; at most T were drawn -/
def At (p T : Nat) (L : Sto) (M : Sto) : Prop := ∃ cs t, M = src p cs t ++ L ∧ Cells cs ∧ 0 ≤ t ∧ t ≤ (T : Int)
/-- data alone -/
def Pl (L : Sto) : Prop := ∀ m ∈ L, clM 0 m = true
theorem clM_mono {n m : Nat} {x : MO} (h : n ≤ m) (e : clM n x = true) : clM m x = true := by
  cases x with
  | lst as => exact cls_mono h e
  | dK as => exact cls_mono h e
  | ins _ _ => exact e
  | opq => exact e
  | dead => exact e
theorem cells_cls {cs : List D} (h : Cells cs) (n : Nat) : cls n cs = true := cls_mem.mpr fun d hd => by
  obtain ⟨i, rfl⟩ := h.2.2 d hd
  rfl
theorem At.mono {p T T' : Nat} {L M : Sto} (h : At p T L M) (e : T ≤ T') : At p T' L M := by
  obtain ⟨cs, t, a, b, c, d⟩ := h
  exact ⟨cs, t, a, b, c, by omega⟩
theorem At.length {p T : Nat} {L M : Sto} (h : At p T L M) : M.length = p + 2 + L.length := by
  obtain ⟨cs, t, rfl, _⟩ := h
  rw [List.length_append, src_length]
theorem At.ok {p T : Nat} {L M : Sto} (h : At p T L M) (hL : Pl L) : Ok M := by
  have hl := h.length
  obtain ⟨cs, t, rfl, hc, _⟩ := h
  intro m hm
  rw [hl]
  rcases List.mem_append.mp hm with hm | hm
  · unfold src at hm
    rcases List.mem_append.mp hm with hm | hm
    · obtain ⟨_, rfl⟩ := List.mem_replicate.mp hm; rfl
    · simp only [List.mem_cons, List.not_mem_nil, or_false] at hm
      rcases hm with rfl | rfl
      · exact cells_cls hc _
      · show cls _ [.ref p, .int t] = true
        simp only [cls, cl, Bool.and_true, decide_eq_true_eq]; omega
  · exact clM_mono (Nat.zero_le _) (hL m hm)
theorem At.push {p T : Nat} {L M : Sto} (h : At p T L M) (m : MO) : At p T (L ++ [m]) (M ++ [m]) := by
  obtain ⟨cs, t, rfl, r⟩ := h
  exact ⟨cs, t, List.append_assoc _ _ _, r⟩
theorem At.snoc {p T : Nat} {L M : Sto} {m : MO} (h : At p T (L ++ [m]) M) : ∃ M0, M = M0 ++ [m] ∧ At p T L M0 := by
  obtain ⟨cs, t, rfl, r⟩ := h
  exact ⟨src p cs t ++ L, (List.append_assoc _ _ _).symm, cs, t, rfl, r⟩
theorem At.at {p T : Nat} {L M : Sto} (h : At p T L M) (j : Nat) : M[p + 2 + j]? = L[j]? := by
  obtain ⟨cs, t, rfl, r⟩ := h
  exact src_L j
theorem At.set {p T : Nat} {L M : Sto} (h : At p T L M) (j : Nat) (m : MO) : At p T (L.set j m) (M.set (p + 2 + j) m) := by
  obtain ⟨cs, t, rfl, r⟩ := h
  exact ⟨cs, t, src_setL j m, r⟩
theorem At.split {p T : Nat} {L1 L2 M : Sto} (h : At p T (L1 ++ L2) M) : ∃ M0, M = M0 ++ L2 ∧ At p T L1 M0 := by
  obtain ⟨cs, t, rfl, r⟩ := h
  exact ⟨src p cs t ++ L1, (List.append_assoc _ _ _).symm, cs, t, rfl, r⟩
theorem Pl.nil : Pl [] := fun m h => nomatch h
theorem Pl.snoc {L : Sto} {m : MO} (h : Pl L) (hm : clM 0 m = true) : Pl (L ++ [m]) := fun x hx => by
  rcases List.mem_append.mp hx with z | z
  · exact h x z
  · rw [List.mem_singleton] at z; subst z; exact hm
/-! ### what is called: its end -/
/-- a call that gives data: what it has made is forgotten -/
theorem call_src {g : List D → Ev D} {ds : List D} {p T : Nat} {L M : Sto} {Q : D → Sto → Prop} {X : XP} (hM : At p T L M) (hL : Pl L)
    (h : Wp (g ds M) (fun d M' => ∃ (T' : Nat) (L2 : Sto), At p T' (L ++ L2) M' ∧ cl 0 d = true ∧ ∀ M'', At p T' L M'' → Q d M'') X0) : Wp (callT g ds M) Q X := by
  unfold callT
  rw [w_trim]
  refine Wp.any h fun d M' ⟨T', L2, a, c, q⟩ => ?_
  obtain ⟨M0, rfl, a0⟩ := a.split
  have hl : M.length = M0.length := by rw [hM.length, a0.length]
  rw [hl]
  exact trim_same (a0.ok hL) (cl_mono (Nat.zero_le _) c) (q _ a0)
/-- .. that gives a list that it has made -/
theorem call_srcL {g : List D → Ev D} {ds : List D} {p T : Nat} {L M : Sto} {Q : D → Sto → Prop} {X : XP} (hM : At p T L M) (hL : Pl L)
    (h : Wp (g ds M) (fun d M' => ∃ (T' : Nat) (L2 : Sto) (j : Nat) (xs : List D), At p T' (L ++ L2) M' ∧ d = .ref (p + 2 + (L.length + j)) ∧ L2[j]? = some (.lst xs) ∧ cls 0 xs = true ∧ ∀ M'', At p T' L M'' → Q (.lst xs) M'') X0) : Wp (callT g ds M) Q X := by
  unfold callT
  rw [w_trim]
  refine Wp.any h fun d M' ⟨T', L2, j, xs, a, e, ex, c, q⟩ => ?_
  subst e
  have at1 := a.at (L.length + j)
  rw [List.getElem?_append_right (by omega), Nat.add_sub_cancel_left, ex] at at1
  obtain ⟨M0, rfl, a0⟩ := a.split
  have hl : M.length = M0.length := by rw [hM.length, a0.length]
  rw [hl]
  exact trim_lst (a0.ok hL) (by rw [a0.length]; omega) at1 (cls_mono (Nat.zero_le _) c) (q _ a0)
/-- .. of a def that leaves the store: any store -/
theorem call_pure {g : List D → Ev D} {ds : List D} {M : Sto} {Q : D → Sto → Prop} {X : XP} (hM : Ok M)
    (h : Wp (g ds M) (fun d M' => ∃ L2, M' = M ++ L2 ∧ cl M.length d = true ∧ Q d M) X0) : Wp (callT g ds M) Q X := by
  unfold callT
  rw [w_trim]
  refine Wp.any h fun d M' ⟨L2, e, c, q⟩ => ?_
  subst e
  exact trim_same hM c q
end L2.MK

end

section
set_option Elab.async false
set_option linter.all false
set_option maxRecDepth 100000
set_option maxHeartbeats 2000000
set_option autoImplicit false
set_option exponentiation.threshold 2000
/-! The defs that all laws share. -/
namespace L2.MK
open PySem PySem.Spec PyProof.Rows PySem.W

theorem setPt_nm (M : Sto) (i : Nat) (d : D) (δ : Env) : setPt M (.nm i) d δ = some (δ.set i (some d)) := by unfold setPt; rfl
theorem setPt_tp (M : Sto) (ps : List Pt) (d : D) (δ : Env) {P : Env → Prop} : Sm (setPt M (.tp ps) d δ) P ↔ Sm (sqD M d) (fun ys => Sm (setPts M ps ys δ) P) := by
  unfold setPt; cases sqD M d <;> exact Iff.rfl
theorem setPts_nil (M : Sto) (δ : Env) : setPts M [] [] δ = some δ := by unfold setPts; rfl
theorem setPts_cons (M : Sto) (p : Pt) (ps : List Pt) (d : D) (ds : List D) (δ : Env) {P : Env → Prop} : Sm (setPts M (p :: ps) (d :: ds) δ) P ↔ Sm (setPt M p d δ) (fun δ1 => Sm (setPts M ps ds δ1) P) := by
  rw [setPts]; cases setPt M p d δ <;> exact Iff.rfl
theorem wipeD_nil (δ : Env) : wipeD δ [] = δ := rfl
theorem wipeD_cons (δ : Env) (v : Nat) (vs : List Nat) : wipeD δ (v :: vs) = (wipeD δ vs).set v none := rfl
theorem seqF_lst (xs : List D) : seqF (.lst xs) = some xs := rfl
theorem seqF_tup (xs : List D) : seqF (.tup xs) = some xs := rfl
theorem seqF_str (z : Str) : seqF (.str z) = some (charsD z) := rfl
theorem sqF_lst (xs : List D) : sqF (.lst xs) = some xs := rfl
theorem sqF_tup (xs : List D) : sqF (.tup xs) = some xs := rfl
theorem truD_bl (M : Sto) (b : Bool) : truD M (.bl b) = some b := rfl
def isStr : D → Bool
  | .str _ => true
  | _ => false
def isTupB : D → Bool
  | .tup _ => true
  | _ => false
def isLst : D → Bool
  | .lst _ => true
  | _ => false
theorem gIsi_str {K : Frag} {Ci Ce : List Str} {M : Sto} {d : D} (h : dOk d = true) : gIsi K Ci Ce [d, .ty "str"] M = some (.bl (isStr d)) := by
  rw [gIsi_ok h (by simp)]
  cases d <;> first | rfl | (unfold dOk at h; cases h)
theorem gIsi_tup {K : Frag} {Ci Ce : List Str} {M : Sto} {d : D} (h : dOk d = true) : gIsi K Ci Ce [d, .ty "tuple"] M = some (.bl (isTupB d)) := by
  rw [gIsi_ok h (by simp)]
  cases d <;> first | rfl | (unfold dOk at h; cases h)
theorem gIsi_lst {K : Frag} {Ci Ce : List Str} {M : Sto} {d : D} (h : dOk d = true) : gIsi K Ci Ce [d, .ty "list"] M = some (.bl (isLst d)) := by
  rw [gIsi_ok h (by simp)]
  cases d <;> first | rfl | (unfold dOk at h; cases h)

local macro_rules
  | `(tactic| decreasing_trivial) => `(tactic| try simp only [w_bind, w_pure, w_pure', w_opt, w_var, w_C, w_bin, w_un, w_call, w_fun, w_nil, w_cons, w_tup, w_lst, w_lstM, w_dctM, w_isBl, w_bTru, w_bOf, w_and, w_or, w_not, wb_and, wb_or, wb_not, wb_yes, w_if, w_chain, w_cut, w_cutM, w_sNo, w_isI, w_sAt, w_meth, w_setd,
  ws_skip, ws_seq, ws_exp, ws_ret, ws_retN, ws_if, ws_asg, ws_gN, ws_gNils, ws_gConss, ws_gTup, ws_gSub, ws_raise, ws_try, ws_noRet, sm_some,
  startD, List.map_cons, List.map_nil, List.length_cons, List.length_nil, List.replicate, List.cons_append, List.nil_append, List.getElem?_cons_zero, List.getElem?_cons_succ, List.set_cons_zero, List.set_cons_succ, Option.join_some, Option.join_none, Nat.reduceAdd, Nat.reduceSub, Nat.add_zero, Nat.zero_add,
  sqD_lst, sqD_tup, sqD_rol, gLen_lst, gLen_tup, gInt_int, gInt_bl, gAbs_int, oAdd_int, oSub_int, oLt_int, oLe_int, oGt_int, oGe_int, oIx_lst, oIx_tup, oEq_int, oNe_int, true_and, and_true, true_implies, seqF_lst, seqF_tup, seqF_str, sqF_lst, sqF_tup, truD_bl, isStr, isTupB, isLst, ↓reduceIte, Bool.false_eq_true, Bool.not_true, Bool.not_false, setPt_nm, setPt_tp, setPts_nil, setPts_cons, wipeD_nil, wipeD_cons])
def fbDraw : SF :=
    (sSeq (sAsg (eVar 0) (gTupD 2 (gConss (gN 2) (gConss (gN 3) gNils))))
    (sSeq (sAsg (eBin oMod (eCall gInt (aCons (eVar 3) aNil)) (eCall gLen (aCons (eVar 2) aNil))) (gN 4))
    (sSeq (sAsg (eBin oIx (eVar 2) (eVar 4)) (gN 5))
    (sSeq (sAsg (eBin oAdd (eVar 3) (eC (.int 1))) (gSubD (eVar 0) (eC (.int 1))))
    (sSeq (sIf (bOf (eBin oGe (eVar 5) (eBin oPow (eC (.int 10)) (eC (.int 18))))) (sSeq (sAsg (eBin oDiv (eVar 5) (eVar 1)) (gSubD (eVar 2) (eVar 4)))
    (sRet (eBin oMod (eCall gInt (aCons (eVar 5) aNil)) (eVar 1)))) sSkip)
    (sSeq (sAsg (eBin oMod (eCall gInt (aCons (eBin oAdd (eBin oAdd (eBin oMul (eBin oMod (eCall gInt (aCons (eVar 5) aNil)) (eC (.int 2147483629))) (eC (.int 48271))) (eBin oMul (eBin oMul (eVar 3) (eVar 3)) (eC (.int 69621)))) (eC (.int 11))) aNil)) (eC (.int 2147483647))) (gN 6))
    (sSeq (sAsg (eBin oMod (eCall gInt (aCons (eBin oMul (eVar 6) (eVar 6)) aNil)) (eC (.int 2147483629))) (gN 6))
    (sSeq (sAsg (eBin oMod (eCall gInt (aCons (eBin oMul (eVar 6) (eVar 6)) aNil)) (eC (.int 2147483587))) (gN 6))
    (sSeq (sIf (bOf (eBin oGt (eVar 1) (eBin oPow (eC (.int 10)) (eC (.int 9))))) (sSeq (sAsg (eBin oMod (eCall gInt (aCons (eBin oAdd (eBin oAdd (eBin oMul (eVar 6) (eC (.int 39373))) (eBin oMul (eVar 3) (eC (.int 7919)))) (eC (.int 500))) aNil)) (eC (.int 2147483629))) (gN 7))
    (sAsg (eBin oMul (eVar 6) (eBin oAdd (eBin oMul (eBin oMul (eVar 7) (eVar 7)) (eVar 7)) (eC (.int 1)))) (gN 6))) sSkip)
    (sRet (eBin oMod (eCall gInt (aCons (eVar 6) aNil)) (eVar 1))))))))))))
def gDraw : List D → Ev D := fun ds M => bodyO (fbDraw (startD ["source", "limit", "cells", "turn", "place", "cell", "number", "other"] ds) M)
theorem pow18 (M : Sto) : oPow (.int 10) (.int 18) M = some (.int 1000000000000000000) := by
  unfold oPow
  show (if _ then _ else _) = _
  rw [if_pos (by decide +kernel)]; rfl
theorem pow9 (M : Sto) : oPow (.int 10) (.int 9) M = some (.int 1000000000) := by
  unfold oPow
  show (if _ then _ else _) = _
  rw [if_pos (by decide +kernel)]; rfl
theorem small_lt {i : Int} (h0 : 0 ≤ i) (h : i < 1000000000000) : i.natAbs < 2 ^ 400 := by
  have e : (2 : Nat) ^ 40 = 1099511627776 := by decide
  have : i.natAbs < 2 ^ 40 := by omega
  exact Nat.lt_of_lt_of_le this (Nat.pow_le_pow_right (by decide) (by decide))
theorem small_mul {i j : Int} {a b : Nat} (hi : i.natAbs < 2 ^ a) (hj : j.natAbs < 2 ^ b) (h : a + b ≤ 400) : (i * j).natAbs < 2 ^ 400 := by
  rw [Int.natAbs_mul]
  have := Nat.mul_lt_mul'' hi hj
  rw [← Nat.pow_add] at this
  exact Nat.lt_of_lt_of_le this (Nat.pow_le_pow_right (by decide) h)
theorem emod_small {i n : Int} (h : 0 < n) : 0 ≤ i % n ∧ i % n < n := ⟨Int.emod_nonneg _ (by omega), Int.emod_lt_of_pos _ h⟩
theorem lt40 {i : Int} (h0 : 0 ≤ i) (h : i < 1000000000000) : i.natAbs < 2 ^ 40 := by
  have e : (2 : Nat) ^ 40 = 1099511627776 := by decide
  omega
theorem cells_set {cs : List D} (h : Cells cs) (i : Nat) (v : Int) : Cells (cs.set i (.int v)) := by
  refine ⟨fun e => ?_, by rw [List.length_set]; exact h.2.1, fun d hd => ?_⟩
  · have := congrArg List.length e
    rw [List.length_set] at this
    exact h.1 (List.eq_nil_of_length_eq_zero this)
  · rcases List.mem_or_eq_of_mem_set hd with z | z
    · exact h.2.2 d z
    · exact ⟨v, z⟩
/-- what a draw gives -/
def Drawn (p T : Nat) (L : Sto) (n : Int) (Q : D → Sto → Prop) : Prop := ∀ k M', 0 ≤ k → k < n → At p (T + 1) L M' → Q (.int k) M'
theorem body_draw {p T : Nat} {L M : Sto} {n : Int} {Q : D → Sto → Prop} (hM : At p T L M) (hT : T < 1000000000) (h1 : 0 < n) (h2 : n.natAbs.log2 < 9000) (q : Drawn p T L n Q) : Wp (gDraw [.ref (p + 1), .int n] M) Q X0 := by
  obtain ⟨cs, t, rfl, hc, t0, t1⟩ := hM
  unfold gDraw
  rw [w_body]
  unfold fbDraw
  have hl : 0 < cs.length := List.length_pos_iff.mpr hc.1
  have hm := emod_small (i := t) (n := (cs.length : Int)) (by omega)
  obtain ⟨c, ec, hcm, _⟩ := atI_at (xs := cs) hm.1 hm.2
  obtain ⟨c, rfl⟩ := hc.2.2 c hcm
  have hN : At p (T + 1) L (src p cs (t + 1) ++ L) := ⟨cs, t + 1, rfl, hc, by omega, by omega⟩
  decreasing_trivial
  simp only [sqD_src1, sm_some, List.length_cons, List.length_nil, true_and]
  decreasing_trivial
  simp only [gLen_src0, sm_some, oMod_int (show (0 : Int) < cs.length by omega), oIx_src0, ec, stI_src1]
  decreasing_trivial
  simp only [pow18, sm_some]
  decreasing_trivial
  by_cases hb : (1000000000000000000 : Int) ≤ c
  · rw [if_pos (decide_eq_true hb)]
    simp only [oDiv_int h1 h2, sm_some, stI_src0 (t := t + 1) (L := L) (.int (c / n)) hm.1 hm.2]
    decreasing_trivial
    simp only [oMod_int h1, sm_some]
    have := emod_small (i := c) h1
    exact q _ _ this.1 this.2 ⟨_, _, rfl, cells_set hc _ _, by omega, by omega⟩
  · rw [if_neg (by simpa using hb)]
    have m1 := emod_small (i := c) (n := 2147483629) (by decide)
    rw [oMod_int (by decide), sm_some]
    have l1 := lt40 m1.1 (by omega)
    have l2 : (48271 : Int).natAbs < 2 ^ 40 := by decide
    rw [oMul_int (mul_ok (small_lt m1.1 (by omega)) (small_lt (by decide) (by decide))), sm_some]
    have lt := lt40 t0 (by omega)
    rw [oMul_int (mul_ok (small_lt t0 (by omega)) (small_lt t0 (by omega))), sm_some]
    rw [oMul_int (mul_ok (small_mul lt lt (by decide)) (small_lt (by decide) (by decide))), sm_some]
    decreasing_trivial
    rw [oMod_int (by decide), sm_some]
    generalize (c % 2147483629 * 48271 + t * t * 69621 + 11) = x1
    have m2 := emod_small (i := x1) (n := 2147483647) (by decide)
    rw [oMul_int (mul_ok (small_lt m2.1 (by omega)) (small_lt m2.1 (by omega))), sm_some]
    decreasing_trivial
    rw [oMod_int (by decide), sm_some]
    generalize (x1 % 2147483647 * (x1 % 2147483647)) = x2
    have m3 := emod_small (i := x2) (n := 2147483629) (by decide)
    rw [oMul_int (mul_ok (small_lt m3.1 (by omega)) (small_lt m3.1 (by omega))), sm_some]
    decreasing_trivial
    rw [oMod_int (by decide), sm_some]
    generalize (x2 % 2147483629 * (x2 % 2147483629)) = x3
    have m4 := emod_small (i := x3) (n := 2147483587) (by decide)
    simp only [pow9, sm_some]
    decreasing_trivial
    by_cases hn : (1000000000 : Int) < n
    · rw [if_pos (decide_eq_true hn)]
      rw [oMul_int (mul_ok (small_lt m4.1 (by omega)) (small_lt (by decide) (by decide))), sm_some]
      rw [oMul_int (mul_ok (small_lt t0 (by omega)) (small_lt (by decide) (by decide))), sm_some]
      decreasing_trivial
      rw [oMod_int (by decide), sm_some]
      generalize (x3 % 2147483587 * 39373 + t * 7919 + 500) = x4
      have m5 := emod_small (i := x4) (n := 2147483629) (by decide)
      have l5 := lt40 m5.1 (by omega)
      have l4 := lt40 m4.1 (by omega)
      have l6 := small_mul l5 l5 (by decide)
      have l7 : ((x4 % 2147483629) * (x4 % 2147483629)).natAbs < 2 ^ 80 := by
        rw [Int.natAbs_mul]
        have := Nat.mul_lt_mul'' l5 l5
        rwa [← Nat.pow_add] at this
      rw [oMul_int (mul_ok (small_lt m5.1 (by omega)) (small_lt m5.1 (by omega))), sm_some]
      rw [oMul_int (mul_ok l6 (small_lt m5.1 (by omega))), sm_some]
      decreasing_trivial
      have l8 : ((x4 % 2147483629) * (x4 % 2147483629) * (x4 % 2147483629) + 1).natAbs < 2 ^ 400 := by
        have h8 : ((x4 % 2147483629) * (x4 % 2147483629) * (x4 % 2147483629)).natAbs < 2 ^ 120 := by
          rw [Int.natAbs_mul]
          have := Nat.mul_lt_mul'' l7 l5
          rwa [← Nat.pow_add] at this
        have e : (2 : Nat) ^ 120 + 1 < 2 ^ 400 := by decide
        have h9 := Int.natAbs_add_le ((x4 % 2147483629) * (x4 % 2147483629) * (x4 % 2147483629)) 1
        have : (1 : Int).natAbs = 1 := rfl
        omega
      rw [oMul_int (mul_ok (small_lt m4.1 (by omega)) l8), sm_some]
      decreasing_trivial
      simp only [oMod_int h1, sm_some]
      have := emod_small (i := x3 % 2147483587 * ((x4 % 2147483629) * (x4 % 2147483629) * (x4 % 2147483629) + 1)) h1
      exact q _ _ this.1 this.2 hN
    · rw [if_neg (by simpa using hn)]
      simp only [oMod_int h1, sm_some]
      have := emod_small (i := x3 % 2147483587) h1
      exact q _ _ this.1 this.2 hN
/-- THE RULE for _law_draw -/
theorem w_draw {p T : Nat} {L M : Sto} {n : Int} {Q : D → Sto → Prop} {X : XP} (hM : At p T L M) (hL : Pl L) (hT : T < 1000000000) (h1 : 0 < n) (h2 : n < 1000000000000 := by omega) (q : Drawn p T L n Q) : Wp (callT gDraw [.ref (p + 1), .int n] M) Q X := by
  refine call_src hM hL (body_draw hM hT h1 ?_ fun k M' k0 k1 a => ⟨T + 1, [], by rw [List.append_nil]; exact a, rfl, fun M'' a2 => q k M'' k0 k1 a2⟩)
  have := log2_le (small_lt (i := n) (by omega) h2)
  omega
/-! ### pick -/
def gPick : List D → Ev D := fun ds M => bodyO ((sRet (eBin oIx (eVar 1) (eFun (callT gDraw) (aCons (eVar 0) (aCons (eCall gLen (aCons (eVar 1) aNil)) aNil))))) (startD ["source", "values"] ds) M)
/-- THE RULE for _law_pick: of a frozen list or tuple -/
theorem w_pick {p T : Nat} {L M : Sto} {v : D} {xs : List D} {Q : D → Sto → Prop} {X : XP} (hM : At p T L M) (hL : Pl L) (hT : T < 1000000000) (hv : v = .lst xs ∨ v = .tup xs) (h0 : xs ≠ []) (h1 : xs.length < 1000000000) (hc : cls 0 xs = true)
    (q : ∀ x ∈ xs, ∀ M', At p (T + 1) L M' → Q x M') : Wp (callT gPick [.ref (p + 1), v] M) Q X := by
  have hl : 0 < xs.length := List.length_pos_iff.mpr h0
  have key : ∀ (ix : ∀ (M' : Sto) (i : Int), oIx v (.int i) M' = atI xs i) (ln : ∀ M', gLen [v] M' = some (.int xs.length)), Wp (callT gPick [.ref (p + 1), v] M) Q X := fun ix ln => by
    refine call_src hM hL ?_
    unfold gPick
    rw [w_body]
    decreasing_trivial
    rw [ln, sm_some]
    refine w_draw hM hL hT (by omega) (by omega) fun k M' k0 k1 a => ?_
    obtain ⟨x, ex, hx, _⟩ := atI_at (xs := xs) k0 k1
    rw [ix, ex, sm_some]
    exact ⟨T + 1, [], by rw [List.append_nil]; exact a, cls_mem.mp hc x hx, fun M'' a2 => q x hx M'' a2⟩
  rcases hv with rfl | rfl
  · exact key (fun M' i => rfl) fun M' => rfl
  · exact key (fun M' i => rfl) fun M' => rfl
/-! ### shuffle -/
def fbShuffle : SF :=
    (sSeq (sAsg (eLstM aNil) (gN 2))
    (sSeq (sFor (iSeq (eVar 1)) (gN 3) (sExp (eMeth "list" gInsert (eVar 2) (aCons (eFun (callT gDraw) (aCons (eVar 0) (aCons (eBin oAdd (eCall gLen (aCons (eVar 2) aNil)) (eC (.int 1))) aNil))) (aCons (eVar 3) aNil)))))
    (sRet (eVar 2))))
def gShuffle : List D → Ev D := fun ds M => bodyO (fbShuffle (startD ["source", "values", "result", "value"] ds) M)
theorem gLen_ref {M : Sto} {j : Nat} {xs : List D} (h : M[j]? = some (.lst xs)) : gLen [.ref j] M = some (.int xs.length) := by
  show (match vw M (.ref j) with
    | .lst xs => some (D.int xs.length)
    | .rol xs => some (.int xs.length)
    | .tup xs => some (.int xs.length)
    | .str z => if z.length ≤ sizeLine then some (.int z.length) else none
    | _ => none) = _
  unfold vw; simp only [h]
theorem tyOk_ref {M : Sto} {j : Nat} {xs : List D} (h : M[j]? = some (.lst xs)) : tyOkD "list" M (.ref j) = true := by
  unfold tyOkD lvw vw; simp only [h]; rfl
theorem ins_perm {α : Type} (xs : List α) (k : Nat) (x : α) : (xs.take k ++ [x] ++ xs.drop k).Perm (xs ++ [x]) := by
  have h1 : (xs.take k ++ [x] ++ xs.drop k).Perm (xs.take k ++ (xs.drop k ++ [x])) := by
    rw [List.append_assoc]
    exact List.Perm.append_left _ List.perm_append_comm
  rw [← List.append_assoc, List.take_append_drop] at h1
  exact h1
/-- THE RULE for _law_shuffle -/
theorem w_shuffle {p T : Nat} {L M : Sto} {v : D} {xs : List D} {Q : D → Sto → Prop} {X : XP} (hM : At p T L M) (hL : Pl L) (hT : T + xs.length < 1000000000) (hv : seqF v = some xs) (h1 : xs.length < 1000000) (hc : cls 0 xs = true)
    (q : ∀ ys M', ys.Perm xs → At p (T + xs.length) L M' → Q (.lst ys) M') : Wp (callT gShuffle [.ref (p + 1), v] M) Q X := by
  refine call_srcL hM hL ?_
  unfold gShuffle
  rw [w_body]
  unfold fbShuffle
  decreasing_trivial
  have sz : sizeLine = 16777216 := sizeLine_eq
  refine ⟨by omega, ?_⟩
  have i0 : At p T (L ++ [.lst []]) (M ++ [.lst []]) := hM.push _
  rw [hM.length]
  refine ws_for (fun zs i δ M' => zs = xs ∧ ∃ (u : Option D) (ys : List D), δ = [some (.ref (p + 1)), some v, some (.ref (p + 2 + L.length)), u] ∧ ys.Perm (xs.take i) ∧ At p (T + i) (L ++ [.lst ys]) M') ?_
  refine wi_seq ?_
  decreasing_trivial
  rw [hv, sm_some]
  refine ⟨⟨rfl, none, [], rfl, by simp, i0⟩, fun i x δ M' hx ⟨_, u, ys, e, hp, ha⟩ => ?_, fun δ M' ⟨_, u, ys, e, hp, ha⟩ => ?_⟩
  · subst e
    have ilt : i < xs.length := by
      rcases Nat.lt_or_ge i xs.length with z | z
      · exact z
      · rw [List.getElem?_eq_none z] at hx; cases hx
    have yl : ys.length = i := by rw [hp.length_eq, List.length_take]; omega
    have at1 : M'[p + 2 + L.length]? = some (.lst ys) := by
      rw [ha.at, List.getElem?_append_right (Nat.le_refl _)]; simp
    have cy : cls 0 ys = true := cls_mem.mpr fun d hd => cls_mem.mp hc d (List.mem_of_mem_take (hp.mem_iff.mp hd))
    decreasing_trivial
    refine ⟨tyOk_ref at1, ?_⟩
    rw [gLen_ref at1]
    decreasing_trivial
    refine w_draw ha (hL.snoc cy) (by omega) (by omega) (by omega) fun k M2 k0 k1 a2 => ?_
    have at2 : M2[p + 2 + L.length]? = some (.lst ys) := by
      rw [a2.at, List.getElem?_append_right (Nat.le_refl _)]; simp
    have e : gInsert (.ref (p + 2 + L.length)) [.int k, x] M2 = some (.non, M2.set (p + 2 + L.length) (.lst (ys.take k.toNat ++ [x] ++ ys.drop k.toNat))) := by
      unfold gInsert
      simp only [at2]
      exact if_pos ⟨by omega, k0, by omega⟩
    decreasing_trivial
    rw [e, sm_some]
    refine ⟨some x, ys.take k.toNat ++ [x] ++ ys.drop k.toNat, rfl, ?_, ?_⟩
    · have tk : xs.take (i + 1) = xs.take i ++ [x] := by rw [List.take_succ, hx]; rfl
      rw [tk]
      exact (ins_perm ys k.toNat x).trans (hp.append_right _)
    · have a3 := a2.set L.length (.lst (ys.take k.toNat ++ [x] ++ ys.drop k.toNat))
      rw [List.set_append_right _ _ (Nat.le_refl _)] at a3
      simpa [Nat.add_assoc] using a3
  · subst e
    decreasing_trivial
    rw [List.take_length] at hp
    refine ⟨T + xs.length, [.lst ys], 0, ys, ha, rfl, rfl, cls_mem.mpr fun d hd => cls_mem.mp hc d (hp.mem_iff.mp hd), fun M'' a => q ys M'' hp a⟩
/-! ### word -/
def fbWord : SF := (sRet (eMeth "str" gJoin (eC (.str "")) (aCons (eLc (iArgs wRng1 (aCons (eVar 1) aNil)) (.nm 2) bYes (eBin oIx (eC (.str "abcdefghijklmnopqrstuvwxyz")) (eFun (callT gDraw) (aCons (eVar 0) (aCons (eC (.int 26)) aNil)))) [2]) aNil)))
def gWord : List D → Ev D := fun ds M => bodyO (fbWord (startD ["source", "size", "k"] ds) M)
def abcS : Str := "abcdefghijklmnopqrstuvwxyz"
def isLetter (c : Nat) : Bool := decide (97 ≤ c) && decide (c ≤ 122)
/-- a word of n letters -/
def IsWord (n : Nat) (x : Str) : Prop := x.cps.size = n ∧ ∀ c ∈ x.cps.toList, isLetter c = true
theorem abc_at {k : Int} (h0 : 0 ≤ k) (h1 : k < 26) (M : Sto) : ∃ c, oIx (.str abcS) (.int k) M = some (.str ⟨#[c]⟩) ∧ isLetter c = true := by
  have hl : abcS.cps.toList.length = 26 := by decide
  obtain ⟨c, e, hm, _⟩ := atI_at (xs := abcS.cps.toList) h0 (by rw [hl]; exact h1)
  refine ⟨c, ?_, ?_⟩
  · show (if abcS.length ≤ sizeLine then (atI abcS.cps.toList k).map fun c => D.str ⟨#[c]⟩ else none) = _
    rw [if_pos (by decide), e]; rfl
  · have : ∀ c ∈ abcS.cps.toList, isLetter c = true := by decide
    exact this c hm
/-- one letter each -/
def Letters (ys : List D) : Prop := ∀ d ∈ ys, ∃ c, d = .str ⟨#[c]⟩ ∧ isLetter c = true
theorem letters_strs : ∀ {ys : List D}, Letters ys → ∃ cs : List Nat, strsD ys = some (cs.map fun c => ⟨#[c]⟩) ∧ cs.length = ys.length ∧ ∀ c ∈ cs, isLetter c = true
  | [], _ => ⟨[], rfl, rfl, by simp⟩
  | d :: r, h => by
    obtain ⟨c, rfl, hc⟩ := h d (List.mem_cons_self ..)
    obtain ⟨cs, e, hl, ha⟩ := letters_strs (ys := r) fun x hx => h x (List.mem_cons_of_mem _ hx)
    refine ⟨c :: cs, ?_, by simp [hl], fun x hx => ?_⟩
    · unfold strsD; rw [e]; rfl
    · rcases List.mem_cons.mp hx with z | z
      · subst z; exact hc
      · exact ha x z
theorem join_letters (cs : List Nat) : Txt.join "" (cs.map fun c => ⟨#[c]⟩) = ⟨cs.toArray⟩ := by
  have e := SX.join_S [] (cs.map fun c => [c])
  have e2 : (cs.map fun c => [c]).map SX.S = cs.map fun c => (⟨#[c]⟩ : Str) := by rw [List.map_map]; rfl
  rw [e2] at e
  have e3 : SX.S [] = ("" : Str) := rfl
  rw [e3] at e
  rw [e]
  have : ∀ l : List Nat, TL.joinL [] (l.map fun c => [c]) = l := by
    intro l
    induction l with
    | nil => rfl
    | cons a r ih =>
      cases r with
      | nil => rfl
      | cons b r => 
        show [a] ++ ([] ++ TL.joinL [] ((b :: r).map fun c => [c])) = _
        rw [ih]; rfl
  rw [this]
theorem sum_ones : ∀ cs : List Nat, ((cs.map fun c => (⟨#[c]⟩ : Str)).map (·.length)).sum = cs.length
  | [] => rfl
  | c :: r => by
    rw [List.map_cons, List.map_cons, List.sum_cons, sum_ones r]
    show 1 + r.length = _
    rw [List.length_cons]; omega
/-- THE RULE for _law_word -/
theorem w_word {p T n : Nat} {L M : Sto} {Q : D → Sto → Prop} {X : XP} (hM : At p T L M) (hL : Pl L) (hT : T + n < 1000000000) (hn : n < 1000000) (q : ∀ x M', IsWord n x → At p (T + n) L M' → Q (.str x) M') : Wp (callT gWord [.ref (p + 1), .int n] M) Q X := by
  refine call_src hM hL ?_
  unfold gWord
  rw [w_body]
  unfold fbWord
  decreasing_trivial
  have sz : sizeLine = 16777216 := sizeLine_eq
  refine ⟨rfl, ?_⟩
  refine w_lc (fun _ i ys Ma => ys.length = i ∧ Letters ys ∧ At p (T + i) L Ma) (wi_rng1 ?_)
  decreasing_trivial
  refine ⟨(n : Int), rfl, by omega, by omega, ⟨fun d hd => (nomatch hd), hM⟩, fun i x ys Ma hx ⟨hl, hy, ha⟩ le => ?_, fun ys Me le ⟨hl, hy, ha⟩ => ?_⟩
  · have ilt : i < n := by
      rcases Nat.lt_or_ge i (rngD 0 (n : Int).toNat).length with z | z
      · rwa [rngD_length, Int.toNat_natCast] at z
      · rw [List.getElem?_eq_none z] at hx; cases hx
    have cy : clM 0 (.lst ys) = true := cls_mem.mpr fun d hd => by
      obtain ⟨c, rfl, _⟩ := hy d hd; rfl
    decreasing_trivial
    refine w_draw (ha.push _) (hL.snoc cy) (by omega) (by omega) (by omega) fun k M2 k0 k1 a2 => ?_
    obtain ⟨c, ec, hc⟩ := abc_at k0 k1 M2
    have ec' : oIx (.str "abcdefghijklmnopqrstuvwxyz") (.int k) M2 = _ := ec
    rw [ec', sm_some]
    obtain ⟨Mc, rfl, a3⟩ := a2.snoc
    refine ⟨Mc, rfl, by rw [a3.length, hM.length], by omega, by simp [hl], fun d hd => ?_, by simpa [Nat.add_assoc] using a3⟩
    rcases List.mem_append.mp hd with z | z
    · exact hy d z
    · rw [List.mem_singleton] at z; exact ⟨c, z, hc⟩
  · rw [rngD_length, Int.toNat_natCast] at hl ha
    refine ⟨ha.ok hL, cls_mem.mpr fun d hd => by
      obtain ⟨c, rfl, _⟩ := hy d hd; rfl, ?_⟩
    obtain ⟨cs, e, hcl, hcs⟩ := letters_strs hy
    have ej : gJoin (.str "") [.lst ys] Me = some (.str ⟨cs.toArray⟩, Me) := by
      show (match ((sqD Me (.lst ys)).bind strsD : Option (List Str)) with
        | some ys => if (ys.map (fun z : Str => z.length)).sum + ys.length * ("" : Str).length ≤ 16777216 then some (D.str (Txt.join "" ys), Me) else none
        | none => none) = _
      have : (sqD Me (.lst ys)).bind strsD = some (cs.map fun c => ⟨#[c]⟩) := e
      rw [this]
      simp only
      rw [if_pos ?_, join_letters]
      rw [sum_ones]
      show cs.length + _ * 0 ≤ _
      omega
    rw [ej, sm_some]
    exact ⟨T + n, [], by rw [List.append_nil]; exact ha, rfl, fun M'' a => q _ M'' ⟨by show cs.toArray.size = n; simp; omega, fun c hc => hcs c (by simpa using hc)⟩ a⟩
end L2.MK

end

section
set_option Elab.async false
set_option linter.all false
set_option maxRecDepth 100000
set_option maxHeartbeats 2000000
set_option autoImplicit false
set_option exponentiation.threshold 2000
/-! _law_source. -/
namespace L2.MK
local macro_rules
  | `(tactic| decreasing_trivial) => `(tactic| try simp only [w_bind, w_pure, w_pure', w_opt, w_var, w_C, w_bin, w_un, w_call, w_fun, w_nil, w_cons, w_tup, w_lst, w_lstM, w_dctM, w_isBl, w_bTru, w_bOf, w_and, w_or, w_not, wb_and, wb_or, wb_not, wb_yes, w_if, w_chain, w_cut, w_cutM, w_sNo, w_isI, w_sAt, w_meth, w_setd,
  ws_skip, ws_seq, ws_exp, ws_ret, ws_retN, ws_if, ws_asg, ws_gN, ws_gNils, ws_gConss, ws_gTup, ws_gSub, ws_raise, ws_try, ws_noRet, sm_some,
  startD, List.map_cons, List.map_nil, List.length_cons, List.length_nil, List.replicate, List.cons_append, List.nil_append, List.getElem?_cons_zero, List.getElem?_cons_succ, List.set_cons_zero, List.set_cons_succ, Option.join_some, Option.join_none, Nat.reduceAdd, Nat.reduceSub, Nat.add_zero, Nat.zero_add,
  sqD_lst, sqD_tup, sqD_rol, gLen_lst, gLen_tup, gInt_int, gInt_bl, gAbs_int, oAdd_int, oSub_int, oLt_int, oLe_int, oGt_int, oGe_int, oIx_lst, oIx_tup, oEq_int, oNe_int, true_and, and_true, true_implies, seqF_lst, seqF_tup, seqF_str, sqF_lst, sqF_tup, truD_bl, isStr, isTupB, isLst, ↓reduceIte, Bool.false_eq_true, Bool.not_true, Bool.not_false, setPt_nm, setPt_tp, setPts_nil, setPts_cons, wipeD_nil, wipeD_cons])
open PySem PySem.Spec PyProof.Rows PySem.W
def fbSource : SF :=
    (sSeq (sAsg (eCutM (eVar 0) sNo (sAt (eC (.int 63)))) (gN 1))
    (sSeq (sFor (iArgs wRng1 (aCons (eCall gLen (aCons (eVar 1) aNil)) aNil)) (gN 2) (sIf (bOf (eBin oGe (eCall gAbs (aCons (eBin oIx (eVar 1) (eVar 2)) aNil)) (eBin oPow (eC (.int 10)) (eC (.int 18))))) (sAsg (eBin oMod (eCall gInt (aCons (eBin oIx (eVar 1) (eVar 2)) aNil)) (eBin oPow (eBin oPow (eC (.int 10)) (eC (.int 60))) (eC (.int 20)))) (gSubD (eVar 1) (eVar 2))) sSkip))
    (sSeq (sIf (bOf (eBin oEq (eVar 1) (eLst aNil))) (sAsg (eLstM (aCons (eC (.int 0)) aNil)) (gN 1)) sSkip)
    (sRet (eLstM (aCons (eVar 1) (aCons (eC (.int 0)) aNil)))))))
def gSource : List D → Ev D := fun ds M => bodyO (fbSource (startD ["script", "cells", "k"] ds) M)
theorem pow60 (M : Sto) : ∃ x, oPow (.int 10) (.int 60) M = some (.int x) ∧ ∃ y, 0 < y ∧ oPow (.int x) (.int 20) M = some (.int y) := by
  refine ⟨10 ^ 60, ?_, (10 ^ 60) ^ 20, by decide +kernel, ?_⟩
  · unfold oPow
    show (if _ then _ else _) = _
    rw [if_pos (by decide +kernel)]; rfl
  · unfold oPow
    show (if _ then _ else _) = _
    rw [if_pos (by decide +kernel)]; rfl
theorem oIx_ref {M : Sto} {j : Nat} {xs : List D} (h : M[j]? = some (.lst xs)) (i : Int) : oIx (.ref j) (.int i) M = atI xs i := by
  unfold oIx vw; simp only [h]
theorem stI_ref {M : Sto} {j : Nat} {xs : List D} (h : M[j]? = some (.lst xs)) {i : Int} (v : D) (h0 : 0 ≤ i) (h1 : i < xs.length) : stI (.ref j) (.int i) v M = some (M.set j (.lst (xs.set i.toNat v))) := by
  unfold stI; simp only [h]
  rw [ixN_at h0 h1]; rfl
/-- whole numbers -/
def Ints (cs : List D) : Prop := ∀ d ∈ cs, ∃ i : Int, d = .int i
theorem pys_ints : ∀ {cs : List D}, Ints cs → ∃ ps, D.pys cs = some ps ∧ PyData.plainAll ps = true ∧ ps.isEmpty = cs.isEmpty
  | [], _ => ⟨[], by unfold D.pys; rfl, rfl, rfl⟩
  | d :: r, h => by
    obtain ⟨i, rfl⟩ := h d (List.mem_cons_self ..)
    obtain ⟨ps, e, a, b⟩ := pys_ints (cs := r) fun x hx => h x (List.mem_cons_of_mem _ hx)
    exact ⟨.int i :: ps, by unfold D.pys; rw [e]; rfl, by unfold PyData.plainAll; rw [a]; rfl, rfl⟩
theorem eq_nil_ref {M : Sto} {j : Nat} {xs : List D} (h : M[j]? = some (.lst xs)) (hi : Ints xs) : oEq (.ref j) (.lst []) M = some (.bl xs.isEmpty) := by
  obtain ⟨ps, e, a, b⟩ := pys_ints hi
  have e1 : (vw M (.ref j)).py = some (.list ps) := by
    unfold vw
    simp only [h]
    unfold D.py; rw [e]; rfl
  have e2 : (vw M (.lst [])).py = some (.list []) := by
    show (D.lst []).py = _
    unfold D.py D.pys; rfl
  unfold oEq eqD
  rw [e1, e2]
  simp only
  rw [if_pos ⟨a, rfl, Nat.le_trans (Nat.min_le_right _ _) (by decide)⟩, ← b]
  cases ps <;> rfl
theorem cut63 (xs : List D) : (cutD xs none (some 63)).length ≤ 63 := by
  unfold cutD
  rw [List.length_take]
  have : HT.sIx xs.length xs.length (some 63) ≤ 63 := by
    show (if (63 : Int) < 0 then ((63 : Int) + (xs.length : Int)).toNat else min (63 : Int).toNat xs.length) ≤ 63
    rw [if_neg (by decide)]
    exact Nat.min_le_left _ _
  omega
theorem cut_mem {xs : List D} {a b : Option Int} {d : D} (h : d ∈ cutD xs a b) : d ∈ xs := List.mem_of_mem_drop (List.mem_of_mem_take h)
/-- THE RULE for _law_source -/
theorem w_source {ns : List Int} {Q : D → Sto → Prop} {X : XP} (q : ∀ p M', At p 0 [] M' → Q (.ref (p + 1)) M') : Wp (callK gSource [.rol (ns.map .int)] []) Q X := by
  refine Wp.any (o := callK gSource [.rol (ns.map .int)] []) (Q := Q) ?_ fun _ _ h => h
  unfold callK gSource
  rw [w_body]
  unfold fbSource
  decreasing_trivial
  have e1 : ∀ M : Sto, rvw M (.rol (ns.map .int)) = some (ns.map .int) := fun M => rfl
  rw [e1, sm_some]
  have hI : Ints (cutD (ns.map D.int) none (some 63)) := fun d hd => by
    obtain ⟨i, _, rfl⟩ := List.mem_map.mp (cut_mem hd); exact ⟨i, rfl⟩
  have hL := cut63 (ns.map D.int)
  generalize cutD (ns.map D.int) none (some 63) = cs at hI hL
  refine ws_for (fun _ i δ M => ∃ (cs' : List D) (u : Option D), δ = [some (.rol (ns.map .int)), some (.ref 0), u] ∧ M = [.lst cs'] ∧ Ints cs' ∧ cs'.length = cs.length) ?_
  refine wi_rng1 ?_
  decreasing_trivial
  have e2 : gLen [.ref 0] [.lst cs] = some (.int cs.length) := gLen_ref rfl
  rw [e2]
  decreasing_trivial
  refine ⟨(cs.length : Int), rfl, by omega, by omega, ⟨cs, none, rfl, rfl, hI, rfl⟩, fun i x δ M hx ⟨cs', u, ed, eM, hi, hl⟩ => ?_, fun δ M ⟨cs', u, ed, eM, hi, hl⟩ => ?_⟩
  · subst ed eM
    rw [rngD_at] at hx
    have ilt : i < cs.length := by
      split at hx
      · rename_i h; simpa using h
      · cases hx
    rw [if_pos (by simpa using ilt)] at hx
    cases hx
    obtain ⟨c, ec, hcm, _⟩ := atI_at (xs := cs') (i := 0 + (i : Int)) (by omega) (by omega)
    obtain ⟨c, rfl⟩ := hi c hcm
    have e3 : oIx (.ref 0) (.int (0 + (i : Int))) [.lst cs'] = some (.int c) := (oIx_ref rfl _).trans ec
    decreasing_trivial
    rw [e3]
    decreasing_trivial
    rw [pow18]
    decreasing_trivial
    generalize (if c < 0 then -c else c) = b
    split
    · obtain ⟨x, ex, y, hy, ey⟩ := pow60 [.lst cs']
      rw [ex]
      decreasing_trivial
      rw [ey]
      decreasing_trivial
      rw [e3]
      decreasing_trivial
      rw [oMod_int hy]
      decreasing_trivial
      have e4 : stI (.ref 0) (.int (0 + (i : Int))) (.int (c % y)) [.lst cs'] = some _ := stI_ref rfl _ (by omega) (by omega)
      rw [e4, sm_some]
      refine ⟨_, some (.int (0 + (i : Int))), rfl, rfl, fun d hd => ?_, by rw [List.length_set]; exact hl⟩
      rcases List.mem_or_eq_of_mem_set hd with z | z
      · exact hi d z
      · exact ⟨_, z⟩
    · exact ⟨cs', some (.int (0 + (i : Int))), rfl, rfl, hi, hl⟩
  · subst ed eM
    decreasing_trivial
    have e5 : oEq (.ref 0) (.lst []) [.lst cs'] = some (.bl cs'.isEmpty) := eq_nil_ref rfl hi
    refine ⟨by decide, ?_⟩
    rw [e5]
    decreasing_trivial
    have z : sizeLine = 16777216 := sizeLine_eq
    cases cs' with
    | nil =>
      simp only [List.isEmpty_nil, ↓reduceIte]
      refine ⟨by omega, by omega, ?_⟩
      exact q 1 _ ⟨[.int 0], 0, rfl, ⟨by simp, by simp, fun d hd => ⟨0, by simpa using hd⟩⟩, by omega, by omega⟩
    | cons a r =>
      simp only [List.isEmpty_cons, ↓reduceIte, Bool.false_eq_true]
      refine ⟨by omega, ?_⟩
      exact q 0 _ ⟨a :: r, 0, rfl, ⟨by simp, by omega, hi⟩, by omega, by omega⟩
end L2.MK

end

section
set_option Elab.async false
set_option linter.all false
set_option maxRecDepth 100000
set_option maxHeartbeats 2000000
set_option autoImplicit false
set_option exponentiation.threshold 2000
/-! sorted({s for p in fi for q in fi1}), searches. -/
namespace L2.MK
open PySem PySem.Spec PyProof.Rows PySem.W
section
variable {fi fi1 : IF} {p p1 : Pt} {bt bt1 : BF} {f : EF} {vs vs1 : List Nat} {δ : Env} {M : Sto} {Q : D → Sto → Prop} {X : XP}
theorem sc1_all {it : ID} {δw : Env} {ss : List Str} (hit : ∀ M i, it M i = some ((ss.map D.str)[i]?)) {M : Sto}
    (h : ∀ s ∈ ss, Sm (setPt M p1 (.str s) δw) fun δ1 => Wp (bt1 δ1 M) (fun k M' => k = true ∧ M' = M) X0 ∧ Wp (f δ1 M) (fun y M' => y = .str s ∧ M' = M) X0) :
    ∀ r i acc, i + r = ss.length → acc.length + r < 1000 → sc1O it p1 bt1 f δw r i acc M = .ok (acc ++ ss.drop i) M
  | 0, i, acc, e, _ => by
    unfold sc1O
    rw [hit, List.getElem?_eq_none (by simp; omega), List.drop_eq_nil_of_le (by omega), List.append_nil]
  | r + 1, i, acc, e, hl => by with_unfolding_all
    unfold sc1O
    have hi : i < ss.length := by omega
    have e0 : (ss.map D.str)[i]? = some (.str ss[i]) := by rw [List.getElem?_map, List.getElem?_eq_getElem hi]; rfl
    rw [hit, e0]
    obtain ⟨δ1, e1, h1, h2⟩ := (h ss[i] (List.getElem_mem hi)).get
    simp only [e1]
    cases e2 : bt1 δ1 M with
    | stuck => rw [e2] at h1; exact h1.elim
    | exc C fs M' => rw [e2] at h1; exact h1.elim
    | ok k M2 =>
      rw [e2] at h1
      replace h1 := wp_ok.mp h1; obtain ⟨rfl, rfl⟩ := h1
      simp only
      cases e3 : f δ1 M2 with
      | stuck => rw [e3] at h2; exact h2.elim
      | exc C fs M' => rw [e3] at h2; exact h2.elim
      | ok y M3 =>
        rw [e3] at h2
        replace h2 := wp_ok.mp h2; obtain ⟨rfl, rfl⟩ := h2
        simp only
        rw [if_pos (by omega), sc1_all hit h r (i + 1) (acc ++ [ss[i]]) (by omega) (by simp; omega), List.append_assoc, List.drop_eq_getElem_cons hi]
        rfl
theorem sc_all {it : ID} {δw : Env} {xs : List D} {F : D → List Str} (hit : ∀ M i, it M i = some (xs[i]?)) {M : Sto}
    (h : ∀ x ∈ xs, Sm (setPt M p x δw) fun δ1 => Wp (bt δ1 M) (fun k M' => k = true ∧ M' = M) X0 ∧ Wi (fi1 δ1 M) (fun ys M' => M' = M ∧ ys = (F x).map .str) X0 ∧
      ∀ s ∈ F x, Sm (setPt M p1 (.str s) (wipeD δ1 vs1)) fun δ2 => Wp (bt1 δ2 M) (fun k M' => k = true ∧ M' = M) X0 ∧ Wp (f δ2 M) (fun y M' => y = .str s ∧ M' = M) X0) :
    ∀ r i acc, i + r = xs.length → acc.length + ((xs.drop i).flatMap F).length < 1000 → scO it p bt fi1 p1 bt1 f δw vs1 r i acc M = .ok (acc ++ (xs.drop i).flatMap F) M
  | 0, i, acc, e, _ => by
    unfold scO
    rw [hit, List.getElem?_eq_none (by omega), List.drop_eq_nil_of_le (by omega)]
    simp
  | r + 1, i, acc, e, hl => by with_unfolding_all
    unfold scO
    have hi : i < xs.length := by omega
    rw [hit, List.getElem?_eq_getElem hi]
    obtain ⟨δ1, e1, h1, h2, h3⟩ := (h xs[i] (List.getElem_mem hi)).get
    have ed : xs.drop i = xs[i] :: xs.drop (i + 1) := List.drop_eq_getElem_cons hi
    rw [ed, List.flatMap_cons, List.length_append] at hl
    simp only [e1]
    cases e2 : bt δ1 M with
    | stuck => rw [e2] at h1; exact h1.elim
    | exc C fs M' => rw [e2] at h1; exact h1.elim
    | ok k M2 =>
      rw [e2] at h1
      replace h1 := wp_ok.mp h1; obtain ⟨rfl, rfl⟩ := h1
      simp only
      cases e3 : fi1 δ1 M2 with
      | stuck => rw [e3] at h2; exact h2.elim
      | exc C fs M' => rw [e3] at h2; exact h2.elim
      | ok q M3 =>
        rw [e3] at h2
        replace h2 := wp_ok.mp h2; obtain ⟨ys, l, hit1, rfl, rfl⟩ := h2
        simp only
        rw [List.length_map] at l
        rw [sc1_all hit1 h3 q.1 0 acc (by omega) (by omega)]
        simp only [List.drop_zero]
        rw [sc_all hit h r (i + 1) (acc ++ F xs[i]) (by omega) (by rw [List.length_append]; omega), ed, List.flatMap_cons, List.append_assoc]
/-- THE RULE for sorted({s for p in fi for q in fi1}), texts, the store stays -/
theorem w_sortSc (xs : List D) (F : D → List Str) (hM : Ok M) (hl : (xs.flatMap F).length < 1000) (hi : Wi (fi δ M) (fun ys M1 => ys = xs ∧ M1 = M) X0)
    (h : ∀ x ∈ xs, ∀ M2 : Sto, Sm (setPt M2 p x (wipeD δ vs)) fun δ1 => Wp (bt δ1 M2) (fun k M' => k = true ∧ M' = M2) X0 ∧ Wi (fi1 δ1 M2) (fun ys M' => M' = M2 ∧ ys = (F x).map .str) X0 ∧
      ∀ s ∈ F x, Sm (setPt M2 p1 (.str s) (wipeD δ1 vs1)) fun δ2 => Wp (bt1 δ2 M2) (fun k M' => k = true ∧ M' = M2) X0 ∧ Wp (f δ2 M2) (fun y M' => y = .str s ∧ M' = M2) X0)
    (hQ : Q (.lst ((sortU (xs.flatMap F)).map .str)) M) : Wp (eSortSc fi p bt fi1 p1 bt1 f vs vs1 δ M) Q X := by with_unfolding_all
  unfold eSortSc
  cases e : fi δ M with
  | stuck => rw [e] at hi; exact hi.elim
  | exc C fs M' => rw [e] at hi; exact hi.elim
  | ok q M1 =>
    rw [e] at hi
    replace hi := wp_ok.mp hi; obtain ⟨ys, l, hit, rfl, rfl⟩ := hi
    have := sc_all (bt := bt) (bt1 := bt1) (p := p) (p1 := p1) (fi1 := fi1) (f := f) (vs1 := vs1) (δw := wipeD δ vs) hit (M := M1 ++ [.opq]) (fun x hx => h x hx _) q.1 0 [] (by omega) (by simpa using hl)
    simp only [this, List.drop_zero, List.nil_append]
    rw [if_pos hl, w_trim]
    refine trim_same hM ?_ hQ
    exact cls_mem.mpr fun d hd => by
      obtain ⟨s, _, rfl⟩ := List.mem_map.mp hd; rfl
end
theorem mem_sortU {a : Str} {xs : List Str} : a ∈ sortU xs ↔ a ∈ xs := by
  unfold sortU
  rw [(List.mergeSort_perm _ _).mem_iff, mem_dedupL]
theorem sortU_len (xs : List Str) : (sortU xs).length ≤ xs.length := by
  unfold sortU
  rw [(List.mergeSort_perm _ _).length_eq]
  exact length_dedupL xs
theorem nodup_sortU (xs : List Str) : (sortU xs).Nodup := by
  unfold sortU
  exact (List.mergeSort_perm _ _).nodup_iff.mpr (nodup_dedupL xs)
/-- what is sorted once more -/
theorem sortU_congr {xs ys : List Str} (h : ∀ a, a ∈ xs ↔ a ∈ ys) : sortU xs = sortU ys := by
  have := sortU_of (xs := ys) (ys := dedupL xs) (nodup_dedupL xs) fun a => by rw [mem_dedupL, h]
  exact this
theorem strsD_map : ∀ xs : List Str, strsD (xs.map .str) = some xs
  | [] => rfl
  | x :: r => by rw [List.map_cons, strsD, strsD_map r]; rfl
/-- the first of 0, .., n - 1 -/
def firstK (p : Nat → Bool) (n : Nat) : Option Nat := (List.range n).find? p
theorem firstK_some {p : Nat → Bool} {n i : Nat} (hi : i < n) (h : ∀ j, j < i → p j = false) (hp : p i = true) : firstK p n = some i := by
  unfold firstK
  rw [List.find?_range_eq_some]
  exact ⟨hp, by simpa using hi, fun j hj => by rw [h j hj]; rfl⟩
theorem firstK_none {p : Nat → Bool} {n : Nat} (h : ∀ j, j < n → p j = false) : firstK p n = none := by
  unfold firstK
  rw [List.find?_eq_none]
  intro j hj
  rw [h j (List.mem_range.mp hj)]
  simp
theorem enum_get {xs : List D} {i : Nat} {x : D} (h : (enumD 0 xs)[i]? = some x) : ∃ y, xs[i]? = some y ∧ x = .tup [.int (i : Nat), y] ∧ i < xs.length := by
  rw [enumD_at] at h
  obtain ⟨y, e, h⟩ := Option.map_eq_some_iff.mp h
  refine ⟨y, e, by rw [← h, Nat.zero_add], ?_⟩
  rcases Nat.lt_or_ge i xs.length with z | z
  · exact z
  · rw [List.getElem?_eq_none z] at e; cases e
theorem rng_get {n i : Nat} {x : D} (h : (rngD 0 n)[i]? = some x) : x = .int (i : Nat) ∧ i < n := by
  rw [rngD_at] at h
  split at h
  · cases h
    exact ⟨by rw [Int.zero_add], by assumption⟩
  · cases h
end L2.MK

end

section
set_option Elab.async false
set_option linter.all false
set_option maxRecDepth 100000
set_option maxHeartbeats 2000000
set_option autoImplicit false
set_option exponentiation.threshold 2000
/-! More about what is drawn. -/
namespace L2.MK
local macro_rules
  | `(tactic| decreasing_trivial) => `(tactic| try simp only [w_bind, w_pure, w_pure', w_opt, w_var, w_C, w_bin, w_un, w_call, w_fun, w_nil, w_cons, w_tup, w_lst, w_lstM, w_dctM, w_isBl, w_bTru, w_bOf, w_and, w_or, w_not, wb_and, wb_or, wb_not, wb_yes, w_if, w_chain, w_cut, w_cutM, w_sNo, w_isI, w_sAt, w_meth, w_setd,
  ws_skip, ws_seq, ws_exp, ws_ret, ws_retN, ws_if, ws_asg, ws_gN, ws_gNils, ws_gConss, ws_gTup, ws_gSub, ws_raise, ws_try, ws_noRet, sm_some,
  startD, List.map_cons, List.map_nil, List.length_cons, List.length_nil, List.replicate, List.cons_append, List.nil_append, List.getElem?_cons_zero, List.getElem?_cons_succ, List.set_cons_zero, List.set_cons_succ, Option.join_some, Option.join_none, Nat.reduceAdd, Nat.reduceSub, Nat.add_zero, Nat.zero_add,
  sqD_lst, sqD_tup, sqD_rol, gLen_lst, gLen_tup, gInt_int, gInt_bl, gAbs_int, oAdd_int, oSub_int, oLt_int, oLe_int, oGt_int, oGe_int, oIx_lst, oIx_tup, oEq_int, oNe_int, true_and, and_true, true_implies, seqF_lst, seqF_tup, seqF_str, sqF_lst, sqF_tup, truD_bl, isStr, isTupB, isLst, ↓reduceIte, Bool.false_eq_true, Bool.not_true, Bool.not_false, setPt_nm, setPt_tp, setPts_nil, setPts_cons, wipeD_nil, wipeD_cons])
open PySem PySem.Spec PyProof.Rows PySem.W
section
variable {p T : Nat} {L M : Sto} {Q : D → Sto → Prop} {X : XP} {δ : Env}
/-- _law_pick of a list of the store -/
theorem w_pickR {i : Nat} {xs : List D} (hM : At p T L M) (hL : Pl L) (hT : T < 1000000000) (hi : L[i]? = some (.lst xs)) (h0 : xs ≠ []) (h1 : xs.length < 1000000000)
    (q : ∀ x ∈ xs, ∀ M', At p (T + 1) L M' → Q x M') : Wp (callT gPick [.ref (p + 1), .ref (p + 2 + i)] M) Q X := by
  have hl : 0 < xs.length := List.length_pos_iff.mpr h0
  have hc : cls 0 xs = true := hL _ (List.mem_of_getElem? hi)
  refine call_src hM hL ?_
  unfold gPick
  rw [w_body]
  decreasing_trivial
  rw [gLen_ref ((hM.at i).trans hi), sm_some]
  refine w_draw hM hL hT (by omega) (by omega) fun k M' k0 k1 a => ?_
  obtain ⟨x, ex, hx, _⟩ := atI_at (xs := xs) k0 k1
  have e : oIx (.ref (p + 2 + i)) (.int k) M' = atI xs k := by
    unfold oIx vw
    simp only [(a.at i).trans hi]
  rw [e, ex, sm_some]
  exact ⟨T + 1, [], by rw [List.append_nil]; exact a, cls_mem.mp hc x hx, fun M'' a2 => q x hx M'' a2⟩
/-- [_law_pick(source, v) for _ in range(n)] -/
theorem w_lcPick {a b j n : Nat} {fN : EF} {v : D} {xs : List D} (hM : At p T L M) (hL : Pl L) (hT : T + n < 1000000000) (hn : n < 1000000) (h0 : xs ≠ [] ∨ n = 0) (h1 : xs.length < 1000000) (hc : cls 0 xs = true)
    (hN : Wp (fN δ M) (fun d M1 => d = .int (n : Nat) ∧ M1 = M) X0) (hA : ∀ x, (((wipeD δ [j]).set j (some x))[a]?).join = some (.ref (p + 1))) (hB : ∀ x, (((wipeD δ [j]).set j (some x))[b]?).join = some v) (hv : v = .lst xs ∨ v = .tup xs)
    (q : ∀ ys M', ys.length = n → (∀ y ∈ ys, y ∈ xs) → At p (T + n) L M' → Q (.lst ys) M') :
    Wp (eLc (iArgs wRng1 (aCons fN aNil)) (.nm j) bYes (eFun (callT gPick) (aCons (eVar a) (aCons (eVar b) aNil))) [j] δ M) Q X := by
  have sz : sizeLine = 16777216 := sizeLine_eq
  refine w_lc (fun _ i ys Ma => ys.length = i ∧ (∀ y ∈ ys, y ∈ xs) ∧ At p (T + i) L Ma) (wi_rng1 ?_)
  rw [w_cons]
  refine Wp.any hN fun d M1 ⟨e1, e2⟩ => ?_
  subst e1 e2
  rw [w_nil]
  refine ⟨(n : Int), rfl, by omega, by omega, rfl, ⟨rfl, fun y h => (nomatch h), hM⟩, fun i x ys Ma hx ⟨hl, hy, ha⟩ le => ?_, fun ys Me le ⟨hl, hy, ha⟩ => ?_⟩
  · rw [Int.toNat_natCast] at hx
    obtain ⟨rfl, hi⟩ := rng_get hx
    have cy : clM 0 (.lst ys) = true := cls_mem.mpr fun d hd => cls_mem.mp hc d (hy d hd)
    rw [setPt_nm, sm_some]
    simp only [wb_yes, ↓reduceIte, w_fun, w_cons, w_var, hA, hB, sm_some, w_nil]
    refine w_pick (ha.push _) (hL.snoc cy) (by omega) hv (by rcases h0 with z | z; exact z; omega) (by omega) hc fun y hyx M2 a2 => ?_
    obtain ⟨Mc, rfl, a3⟩ := a2.snoc
    refine ⟨Mc, rfl, by rw [a3.length, hM.length], by omega, by simp [hl], fun d hd => ?_, by simpa [Nat.add_assoc] using a3⟩
    rcases List.mem_append.mp hd with z | z
    · exact hy d z
    · rw [List.mem_singleton] at z; subst z; exact hyx
  · rw [rngD_length, Int.toNat_natCast] at hl ha
    exact ⟨ha.ok hL, cls_mem.mpr fun d hd => cl_mono (Nat.zero_le _) (cls_mem.mp hc d (hy d hd)), q ys Me hl hy ha⟩
end
end L2.MK

end

section
set_option Elab.async false
set_option linter.all false
set_option maxRecDepth 100000
set_option maxHeartbeats 2000000
set_option autoImplicit false
set_option exponentiation.threshold 2000
/-! What plain laws share. -/
namespace L2.MK
open PySem PySem.Spec PyProof.Rows PySem.W He
section
variable {K : Frag} {M : Sto} {Q : D → Sto → Prop} {X : XP} {p T : Nat} {L : Sto} {δ : Env} {N : Env → Sto → Prop} {R : D → Sto → Prop} {XX : XS}
def inAbc (c : Nat) : Bool := !(Builtin.Str.occurrences abcS ⟨#[c]⟩ 0 abcS.length 1).isEmpty
def wordB : D → Bool
  | .str z => decide (1 ≤ z.cps.size) && (decide (z.cps.size ≤ 8) && z.cps.toList.all inAbc)
  | _ => false
theorem inAbc_ok (c : Nat) : oIn (.str ⟨#[c]⟩) (.str abcS) M = some (.bl (inAbc c)) := rfl
theorem notAbc_ok (c : Nat) : oNotIn (.str ⟨#[c]⟩) (.str abcS) M = some (.bl (!inAbc c)) := rfl
theorem gLen_str {z : Str} (h : z.cps.size ≤ 2 ^ 20) : gLen [.str z] M = some (.int z.cps.size) := if_pos (Nat.le_trans h (by rw [sizeLine_eq]; decide))
theorem pys_bls (bs : List Bool) : D.pys (bs.map .bl) = some (bs.map .bool) := by
  induction bs with
  | nil => unfold D.pys; rfl
  | cons b r ih => rw [List.map_cons, D.pys, ih]; rfl
theorem blsP_bls (bs : List Bool) : blsP (bs.map .bool) = some bs := by
  induction bs with
  | nil => rfl
  | cons b r ih => rw [List.map_cons, blsP, ih]; rfl
theorem gAll_bls (bs : List Bool) : gAll [.lst (bs.map .bl)] M = some (.bl (bs.all id)) := by
  show ((pysOf M (.lst (bs.map .bl))).bind blsP).map (fun bs => D.bl (bs.all id)) = _
  have : pysOf M (.lst (bs.map .bl)) = some (bs.map .bool) := pys_bls bs
  rw [this, Option.bind_some, blsP_bls]; rfl
/-- a def that leaves the store and gives data r -/
theorem call_is {g : List D → Ev D} {ds : List D} {r : D} (hM : Ok M) (hr : cl 0 r = true) (h : Wp (g ds M) (fun d M' => d = r ∧ ∃ L2, M' = M ++ L2) X0) (q : Q r M) : Wp (callT g ds M) Q X := by
  refine call_pure hM (h.mono fun d M' ⟨e, L2, e2⟩ => ⟨L2, e2, ?_, ?_⟩)
  · subst e; exact cl_mono (Nat.zero_le _) hr
  · subst e; exact q
theorem mem_chars {z : Str} {x : D} (h : x ∈ charsD z) : ∃ c, x = .str ⟨#[c]⟩ ∧ c ∈ z.cps.toList := by
  obtain ⟨c, hc, rfl⟩ := List.mem_map.mp h
  exact ⟨c, rfl, hc⟩
theorem filter_yes {α : Type} (xs : List α) : xs.filter (fun _ => true) = xs := List.filter_eq_self.mpr fun _ _ => rfl
/-- the sign of a text of one -/
def chr : D → Nat
  | .str z => z.cps.toList.headD 0
  | _ => 0
theorem dBks_mem {x : D} : ∀ {xs : List D}, x ∈ xs → dBk x ≤ dBks xs
  | d :: r, h => by
    unfold dBks
    rcases List.mem_cons.mp h with z | z
    · subst z; omega
    · have := dBks_mem z
      omega
theorem dBks_len : ∀ xs : List D, xs.length ≤ dBks xs
  | [] => Nat.le_refl _
  | d :: r => by
    have := dBks_len r
    simp only [dBks, List.length_cons]
    omega
theorem dDeps_mem {x : D} {xs : List D} (h : x ∈ xs) : dDep x ≤ dDeps xs := dDeps_le.mp (Nat.le_refl _) x h
theorem atI0 {α : Type} (x : α) (r : List α) : atI (x :: r) 0 = some x := atI_nat (i := 0) rfl
theorem atI1 {α : Type} (x y : α) (r : List α) : atI (x :: y :: r) 1 = some y := atI_nat (i := 1) rfl
theorem oEq_nil {xs : List D} (h : dOks xs = true) (hd : dDeps xs ≤ 59) : oEq (.lst xs) (.lst []) M = some (.bl xs.isEmpty) := by
  unfold oEq
  rw [eqD_ok (show dOk (.lst xs) = true from h) rfl (show dDeps xs + 1 ≤ 60 by omega), eqv_nil h]; rfl
theorem oNe_nil {xs : List D} (h : dOks xs = true) (hd : dDeps xs ≤ 59) : oNe (.lst xs) (.lst []) M = some (.bl (!xs.isEmpty)) := by
  unfold oNe
  rw [eqD_ok (show dOk (.lst xs) = true from h) rfl (show dDeps xs + 1 ≤ 60 by omega), eqv_nil h]; rfl
theorem isEmpty_filter {α : Type} (p : α → Bool) : ∀ xs : List α, (xs.filter fun x => !p x).isEmpty = xs.all p
  | [] => rfl
  | x :: r => by
    rw [List.filter_cons, List.all_cons, ← isEmpty_filter p r]
    cases p x <;> rfl
theorem sub_ok {xs ys : List D} (h : dOks xs = true) (s : ∀ d ∈ ys, d ∈ xs) : dOks ys = true := dOks_mem.mpr fun d hd => dOks_mem.mp h d (s d hd)
theorem sub_dep {xs ys : List D} (s : ∀ d ∈ ys, d ∈ xs) : dDeps ys ≤ dDeps xs := dDeps_le.mpr fun d hd => dDeps_mem (s d hd)
theorem sz : sizeLine = 16777216 := sizeLine_eq
theorem wordB_str {z : Str} : wordB (.str z) = (decide (1 ≤ z.cps.size) && (decide (z.cps.size ≤ 8) && z.cps.toList.all inAbc)) := rfl
theorem pre_chars (z : Str) (hz : z.cps.size ≤ 8) : (charsD z).length ≤ sizeLine := by
  unfold charsD
  rw [List.length_map, Array.length_toList, sz]; omega
def strOf : D → Str
  | .str z => z
  | _ => ""
def atD (xs : List D) (k : Nat) : D := xs.getD k .non
/-- a list or a tuple -/
def Sq (v : D) (xs : List D) : Prop := v = .lst xs ∨ v = .tup xs
theorem Sq.len {v : D} {xs : List D} (h : Sq v xs) : gLen [v] M = some (.int xs.length) := by rcases h with rfl | rfl <;> rfl
theorem Sq.f {v : D} {xs : List D} (h : Sq v xs) : sqF v = some xs := by rcases h with rfl | rfl <;> rfl
theorem Sq.seq {v : D} {xs : List D} (h : Sq v xs) : seqF v = some xs := by rcases h with rfl | rfl <;> rfl
theorem Sq.ix {v : D} {xs : List D} (h : Sq v xs) (i : Int) : oIx v (.int i) M = atI xs i := by rcases h with rfl | rfl <;> rfl
theorem Sq.is {v : D} {xs : List D} (h : Sq v xs) : (isLst v || isTupB v) = true := by rcases h with rfl | rfl <;> rfl
theorem Sq.ok {v : D} {xs : List D} (h : Sq v xs) (hd : dOk v = true) : dOks xs = true := by rcases h with rfl | rfl <;> exact hd
theorem Sq.bk {v : D} {xs : List D} (h : Sq v xs) : dBk v = dBks xs := by rcases h with rfl | rfl <;> rfl
theorem gIsi_lt {Ci Ce : List Str} {d : D} (h : dOk d = true) : gIsi K Ci Ce [d, .tup [.ty "list", .ty "tuple"]] M = some (.bl (isLst d || isTupB d)) := by
  cases d <;> first | rfl | (unfold dOk at h; cases h)
theorem sq_or {d : D} (h : (isLst d || isTupB d) = true) : ∃ xs, Sq d xs := by
  cases d with
  | lst xs => exact ⟨xs, .inl rfl⟩
  | tup xs => exact ⟨xs, .inr rfl⟩
  | _ => cases h
theorem atD_get {xs : List D} {i : Nat} {x : D} (h : xs[i]? = some x) : atD xs i = x := by
  unfold atD
  rw [List.getD_eq_getElem?_getD, h]; rfl
theorem mem_take {xs : List D} {i : Nat} {y : D} (h : y ∈ xs.take i) : ∃ j, j < i ∧ xs[j]? = some y := by
  obtain ⟨j, hj, e⟩ := List.mem_take_iff_getElem.mp h
  exact ⟨j, by omega, by rw [← e]; exact List.getElem?_eq_getElem _⟩
theorem oNotIn_strs {a : Str} {ys : List Str} (ha : dOk (.str a) = true) (hy : dOks (ys.map .str) = true) : oNotIn (.str a) (.lst (ys.map .str)) M = some (.bl (!ys.contains a)) := by
  unfold oNotIn
  rw [inD_ok ha hy (Nat.zero_le _), List.any_map]
  show some (D.bl (!_)) = _
  congr 3
  induction ys with
  | nil => rfl
  | cons y r ih =>
    have hr : dOks (r.map .str) = true := by
      rw [List.map_cons, dOks, Bool.and_eq_true] at hy; exact hy.2
    rw [List.any_cons, List.contains_cons, ih hr]
    congr 1
    show eqv (.str y) (.str a) = _
    rw [eqv_str]
    by_cases e : y = a
    · subst e; simp
    · have : ¬ a = y := fun z => e z.symm
      simp [e, this]
theorem ok_snoc {M : Sto} {m : MO} (h : Ok M) (hm : clM 0 m = true) : Ok (M ++ [m]) := fun x hx => by
  rcases List.mem_append.mp hx with z | z
  · exact clM_mono (by simp) (h x z)
  · rw [List.mem_singleton] at z; subst z; exact clM_mono (Nat.zero_le _) hm
theorem bk_small {d : D} {xs : List D} (h : d ∈ xs) (hk : dBks xs ≤ 2 ^ 20) : dBk d ≤ 2 ^ 20 := Nat.le_trans (dBks_mem h) hk
theorem sIx_le6 {n i : Nat} (h : i ≤ n) : HT.sIx n n (some (i : Int)) = i := by
  show (if (i : Int) < 0 then ((i : Int) + (n : Int)).toNat else min (i : Int).toNat n) = i
  rw [if_neg (by omega)]
  omega
theorem cut_to {xs : List D} {i : Nat} (h : i ≤ xs.length) : cutD xs none (some (i : Int)) = xs.take i := by
  unfold cutD
  rw [sIx_le6 h]
  show (xs.drop 0).take (i - 0) = _
  simp
theorem Sq.cut {v : D} {xs : List D} (h : Sq v xs) (a b : Option Int) : ∃ w, oCut v a b M = some w ∧ Sq w (cutD xs a b) := by
  rcases h with rfl | rfl
  · exact ⟨_, rfl, .inl rfl⟩
  · exact ⟨_, rfl, .inr rfl⟩
theorem getD_at {xs : List D} {i : Nat} {x : D} (h : xs[i]? = some x) : atI xs (i : Int) = some x := atI_nat h
theorem oEq_str {M : Sto} {a b : Str} (ha : dOk (.str a) = true) (hb : dOk (.str b) = true) : oEq (.str a) (.str b) M = some (.bl (decide (a = b))) := by
  unfold oEq
  rw [eqD_ok ha hb (Nat.zero_le _), eqv_str]; rfl
theorem gList_tup (M : Sto) (xs : List D) : gList [.tup xs] M = some (.lst xs) := rfl
theorem oAdd_lst {M : Sto} {xs ys : List D} (h : xs.length + ys.length ≤ sizeLine) : oAdd (.lst xs) (.lst ys) M = some (.lst (xs ++ ys)) := if_pos h
theorem ws_unset (i : Nat) (o : SO) : Ws (unsetO i o) N R XX ↔ Ws o (fun δ M => N (δ.set i none) M) R (fun _ _ _ _ => False) := by with_unfolding_all
  cases o <;> exact Iff.rfl
theorem w_makeK (C : Str) (g : List D → Ev D) (ds : List D) : Wp (makeK C g ds M) Q X ↔ Wp (g (.ref M.length :: ds) (M ++ [.ins C []])) (fun d M' => d = .non ∧ Q (.ref M.length) M') X := by
  unfold makeK Wp
  cases g (.ref M.length :: ds) (M ++ [.ins C []]) with
  | ok d M' => cases d <;> first | exact ⟨fun h => ⟨rfl, h⟩, fun h => h.2⟩ | exact ⟨fun h => h.elim, fun h => by cases h.1⟩
  | exc C fs M' => exact Iff.rfl
  | stuck => exact Iff.rfl
theorem wp_congr {α : Type} {o : Out α} {Q Q' : α → Sto → Prop} {X : XP} (h : ∀ a M, Q a M ↔ Q' a M) : Wp o Q X ↔ Wp o Q' X := ⟨fun z => z.mono fun a M => (h a M).mp, fun z => z.mono fun a M => (h a M).mpr⟩
theorem ws_fld (Ci : List Str) (f : Str) (fo fv : EF) : Ws (sFldD Ci f fo fv δ M) N R XX ↔ Wp (fv δ M) (fun v M1 => Wp (fo δ M1) (fun o M2 => Sm (setF Ci f o v M2) (fun M' => N δ M')) (fun C fs M' => XX C fs δ M')) (fun C fs M' => XX C fs δ M') := by
  have e : ∀ (o v : D) (M2 : Sto), Ws (match setF Ci f o v M2 with
    | some M' => SO.nx δ M'
    | none => .stuck) N R XX ↔ Sm (setF Ci f o v M2) (fun M' => N δ M') := fun o v M2 => by with_unfolding_all
    cases setF Ci f o v M2 <;> exact Iff.rfl
  exact (ws_bind fv _).trans (wp_congr fun v M1 => (ws_bind fo _).trans (wp_congr fun o M2 => e o v M2))
theorem thawf_cl {n : Nat} {M : Sto} {k : Nat} : ∀ {fs : List (Str × D)}, (∀ p ∈ fs, cl n p.2 = true) → thawfW (resN n M k) fs = some fs
  | [], _ => by unfold thawfW; rfl
  | (f, d) :: r, h => by
    unfold thawfW
    rw [thaw_cl (h (f, d) (List.mem_cons_self ..)), thawf_cl fun p hp => h p (List.mem_cons_of_mem _ hp)]
/-- the end of a made instance -/
theorem trim_ins {M : Sto} {C : Str} {fs : List (Str × D)} {P : D → Sto → Prop} (hM : Ok M) (hf : ∀ p ∈ fs, cl M.length p.2 = true) (h : P (.ins C fs) M) :
    Sm (thaw M.length (M ++ [MO.ins C fs]) (.ref M.length)) fun d' => Sm (thawSto M.length (M ++ [MO.ins C fs]) ((M ++ [MO.ins C fs]).take M.length)) fun M'' => P d' M'' := by
  have e : thaw M.length (M ++ [MO.ins C fs]) (.ref M.length) = some (.ins C fs) := by
    unfold thaw thawW resN
    rw [if_neg (by omega), List.getElem?_append_right (Nat.le_refl _)]
    simp only [Nat.sub_self, List.getElem?_cons_zero]
    rw [thawf_cl hf]; rfl
  rw [e, List.take_left' rfl, thawSto_cl hM]
  exact h
theorem alike_strs : ∀ a b : List Str, alikeAll (a.map .str) (b.map .str) = true
  | [], _ => by simp [alikeAll]
  | _ :: _, [] => by simp [alikeAll]
  | x :: r, y :: s => by
    rw [List.map_cons, List.map_cons, alikeAll, alike_strs r s]; rfl
theorem pys_strs (ns : List Str) : D.pys (ns.map .str) = some (ns.map .str) := by
  induction ns with
  | nil => unfold D.pys; rfl
  | cons b r ih => rw [List.map_cons, D.pys, ih]; rfl
theorem depth_strs : ∀ ns : List Str, PyData.depthAll (ns.map .str) = 0
  | [] => rfl
  | x :: r => by rw [List.map_cons, PyData.depthAll, depth_strs r]; rfl
theorem w_one (d : D) : Wp (one [d] M) Q X ↔ Q d M := by with_unfolding_all exact Iff.rfl
theorem putD_mem {f : Str} {v : D} {p : Str × D} : ∀ {fs : List (Str × D)}, p ∈ putD f v fs → p.2 = v ∨ p ∈ fs
  | [], h => by
    unfold putD at h
    rw [List.mem_singleton] at h; subst h; exact .inl rfl
  | (g, x) :: r, h => by
    unfold putD at h
    split at h
    · rcases List.mem_cons.mp h with z | z
      · subst z; exact .inl rfl
      · exact .inr (List.mem_cons_of_mem _ z)
    · rcases List.mem_cons.mp h with z | z
      · subst z; exact .inr (List.mem_cons_self ..)
      · rcases putD_mem z with y | y
        · exact .inl y
        · exact .inr (List.mem_cons_of_mem _ y)
theorem isNon_iff {d : D} : isNon d = true ↔ d = .non := by cases d <;> simp [isNon]
theorem kitOne_self (K : Frag) (u : Value) : kitOne K u u = some true := by
  unfold kitOne
  rw [if_pos (by simp)]
theorem oCut_lst (xs : List D) (a b : Option Int) : oCut (.lst xs) a b M = some (.lst (cutD xs a b)) := rfl
/-- a short text that may be shown -/
def Txt8 (d : D) : Prop := ∃ x : Str, d = .str x ∧ dOk (.str x) = true ∧ x.cps.size ≤ 12
def Shape (d : D) : Prop := ∃ (x : Str) (n : Nat), d = .tup [.str x, .int n] ∧ dOk (.str x) = true ∧ x.cps.size ≤ 12 ∧ 1 ≤ n ∧ n ≤ 3
theorem word_ok {n : Nat} {x : Str} (h : IsWord n x) : dOk (.str x) = true := by
  show (x.cps.toList.all fun c => decide (c < 16 ^ 8)) = true
  refine List.all_eq_true.mpr fun c hc => decide_eq_true ?_
  have := h.2 c hc
  unfold isLetter at this
  simp only [Bool.and_eq_true, decide_eq_true_eq] at this
  have e : 16 ^ 8 = 4294967296 := by decide
  omega
theorem cut_len {ys : List D} {j : Int} (h : 1 ≤ j) (hy : ys ≠ []) : cutD ys none (some j) ≠ [] := by
  intro e
  have := congrArg List.length e
  unfold cutD at this
  have s0 : HT.sIx ys.length 0 none = 0 := rfl
  have s1 : HT.sIx ys.length ys.length (some j) = min j.toNat ys.length := by
    show (if j < 0 then (j + (ys.length : Int)).toNat else min j.toNat ys.length) = _
    rw [if_neg (by omega)]
  rw [s0, s1] at this
  simp only [List.drop_zero, Nat.sub_zero, List.length_take, List.length_nil] at this
  have : 0 < ys.length := List.length_pos_iff.mpr hy
  omega
theorem cut_le (ys : List D) (a b : Option Int) : (cutD ys a b).length ≤ ys.length := by
  unfold cutD
  rw [List.length_take, List.length_drop]
  omega
theorem txt_cl {xs : List D} (h : ∀ x ∈ xs, Txt8 x) : cls 0 xs = true := cls_mem.mpr fun d hd => by
  obtain ⟨x, rfl, _⟩ := h d hd; rfl
theorem shape_cl {xs : List D} (h : ∀ x ∈ xs, Shape x) : cls 0 xs = true := cls_mem.mpr fun d hd => by
  obtain ⟨x, n, rfl, _⟩ := h d hd; rfl
theorem txts_map {ys : List D} (h : ∀ y ∈ ys, Txt8 y) : ∃ ns : List Str, ys = ns.map .str ∧ ∀ s ∈ ns, Txt8 (.str s) := by
  refine ⟨ys.map strOf, ?_, fun s hs => ?_⟩
  · rw [List.map_map]
    refine (List.map_id ys).symm.trans (List.map_congr_left fun x hx => ?_)
    obtain ⟨z, rfl, _⟩ := h x hx
    rfl
  · obtain ⟨x, hx, rfl⟩ := List.mem_map.mp hs
    have := h x hx
    obtain ⟨z, rfl, _⟩ := this
    exact h _ hx
theorem append_ref {M : Sto} {j : Nat} {xs : List D} (h : M[j]? = some (.lst xs)) (hl : xs.length < sizeLine) (d : D) : gAppend (.ref j) [d] M = some (.non, M.set j (.lst (xs ++ [d]))) := by
  unfold gAppend
  simp only [h]
  rw [if_pos hl]
theorem at_last {m : MO} (h : At p T (L ++ [m]) M) : M[p + 2 + L.length]? = some m := by
  rw [h.at, List.getElem?_append_right (Nat.le_refl _)]; simp
theorem set_last {m m' : MO} (h : At p T (L ++ [m]) M) : At p T (L ++ [m']) (M.set (p + 2 + L.length) m') := by
  have := h.set L.length m'
  rw [List.set_append_right _ _ (Nat.le_refl _)] at this
  simpa using this
theorem strs_cl (ns : List Str) (n : Nat) : cls n (ns.map .str) = true := cls_mem.mpr fun d hd => by
  obtain ⟨s, _, rfl⟩ := List.mem_map.mp hd; rfl
/-- data, small -/
structure Sm9 (k n : Nat) (d : D) : Prop where
  ok : dOk d = true
  dep : dDep d ≤ k
  bk : dBk d ≤ n
theorem sm_cl {k n : Nat} {xs : List D} (h : ∀ x ∈ xs, Sm9 k n x) : cls 0 xs = true := cls_mem.mpr fun d hd => cl_dOk (h d hd).ok
theorem sms_ok {k n : Nat} {xs : List D} (h : ∀ x ∈ xs, Sm9 k n x) : dOks xs = true := dOks_mem.mpr fun d hd => (h d hd).ok
theorem sms_dep {k n : Nat} {xs : List D} (h : ∀ x ∈ xs, Sm9 k n x) : dDeps xs ≤ k := dDeps_le.mpr fun d hd => (h d hd).dep
theorem sms_bk {k n : Nat} {xs : List D} (h : ∀ x ∈ xs, Sm9 k n x) : dBks xs ≤ xs.length * (n + 1) := dBks_le fun d hd => (h d hd).bk
theorem Sm9.mono {k n k' n' : Nat} {d : D} (h : Sm9 k n d) (a : k ≤ k') (b : n ≤ n') : Sm9 k' n' d := ⟨h.ok, by have := h.dep; omega, by have := h.bk; omega⟩
theorem txt_sm {d : D} (h : Txt8 d) : Sm9 0 12 d := by
  obtain ⟨x, rfl, o, s⟩ := h
  exact ⟨o, Nat.le_refl _, s⟩
theorem tup_sm {k n m : Nat} {xs : List D} (h : ∀ x ∈ xs, Sm9 k n x) (hl : xs.length ≤ m) : Sm9 (k + 1) (m * (n + 1)) (.tup xs) :=
  ⟨sms_ok h, by have := sms_dep h; show dDeps xs + 1 ≤ _; omega, Nat.le_trans (sms_bk h) (Nat.mul_le_mul_right _ hl)⟩
theorem lst_sm {k n m : Nat} {xs : List D} (h : ∀ x ∈ xs, Sm9 k n x) (hl : xs.length ≤ m) : Sm9 (k + 1) (m * (n + 1)) (.lst xs) :=
  ⟨sms_ok h, by have := sms_dep h; show dDeps xs + 1 ≤ _; omega, Nat.le_trans (sms_bk h) (Nat.mul_le_mul_right _ hl)⟩
theorem pair_sm {k n : Nat} {x y : D} (h : Sm9 k n x) (h2 : Sm9 k n y) : Sm9 (k + 1) (2 * (n + 1)) (.tup [x, y]) := tup_sm (fun z hz => by
  simp only [List.mem_cons, List.not_mem_nil, or_false] at hz
  rcases hz with rfl | rfl
  · exact h
  · exact h2) (Nat.le_refl _)
theorem strs_sm {ns : List Str} {m : Nat} (h : ∀ s ∈ ns, Txt8 (.str s)) (hl : ns.length ≤ m) : Sm9 1 (m * 13) (.tup (ns.map .str)) := tup_sm (k := 0) (n := 12) (fun x hx => by
  obtain ⟨s, hs, rfl⟩ := List.mem_map.mp hx
  exact txt_sm (h s hs)) (by rw [List.length_map]; exact hl)
theorem sm_dec {d : D} {k n : Nat} (h : (dOk d && (decide (dDep d ≤ k) && decide (dBk d ≤ n))) = true) : Sm9 k n d := by
  simp only [Bool.and_eq_true, decide_eq_true_eq] at h
  exact ⟨h.1, h.2.1, h.2.2⟩
theorem all_dec {k n : Nat} {xs : List D} (h : (xs.all fun d => dOk d && (decide (dDep d ≤ k) && decide (dBk d ≤ n))) = true) : ∀ x ∈ xs, Sm9 k n x := fun x hx => sm_dec (List.all_eq_true.mp h x hx)
theorem smnil {k n : Nat} : ∀ x ∈ ([] : List D), Sm9 k n x := fun x h => nomatch h
theorem smcons {k n : Nat} {x : D} {r : List D} (h : Sm9 k n x) (t : ∀ y ∈ r, Sm9 k n y) : ∀ y ∈ x :: r, Sm9 k n y := fun y hy => by
  rcases List.mem_cons.mp hy with z | z
  · subst z; exact h
  · exact t y z
theorem smapp {k n : Nat} {xs ys : List D} (h : ∀ y ∈ xs, Sm9 k n y) (t : ∀ y ∈ ys, Sm9 k n y) : ∀ y ∈ xs ++ ys, Sm9 k n y := fun y hy => by
  rcases List.mem_append.mp hy with z | z
  · exact h y z
  · exact t y z
theorem smsub {k n : Nat} {xs ys : List D} (h : ∀ y ∈ xs, Sm9 k n y) (t : ∀ y ∈ ys, y ∈ xs) : ∀ y ∈ ys, Sm9 k n y := fun y hy => h y (t y hy)
theorem smono {k n k' n' : Nat} {xs : List D} (h : ∀ y ∈ xs, Sm9 k n y) (a : k ≤ k') (b : n ≤ n') : ∀ y ∈ xs, Sm9 k' n' y := fun y hy => (h y hy).mono a b
theorem oMul_tup {M : Sto} {xs : List D} {k : Int} (h : xs = [] ∨ 1 ≤ k) (h1 : -1000 ≤ k) (h2 : k ≤ 1000) (h3 : xs.length ≤ 1000) : oMul (.tup xs) (.int k) M = some (.tup (repL k.toNat xs)) := if_pos ⟨h1, h2, h3⟩
theorem oMul_tup0 {M : Sto} {xs : List D} {k : Int} (h1 : -1000 ≤ k) (h2 : k ≤ 1000) (h3 : xs.length ≤ 1000) : oMul (.tup xs) (.int k) M = some (.tup (repL k.toNat xs)) := if_pos ⟨h1, h2, h3⟩
theorem oMul_lst {M : Sto} {xs : List D} {k : Int} (h1 : -1000 ≤ k) (h2 : k ≤ 1000) (h3 : xs.length * k.toNat ≤ sizeLine) : oMul (.lst xs) (.int k) M = some (.lst (repL k.toNat xs)) := if_pos ⟨by omega, by omega, h3⟩
theorem rep_mem {k : Nat} {xs : List D} {x : D} (h : x ∈ repL k xs) : x ∈ xs := by
  unfold repL at h
  obtain ⟨l, hl, hx⟩ := List.mem_flatten.mp h
  rw [(List.mem_replicate.mp hl).2] at hx
  exact hx
theorem rep_len (k : Nat) (xs : List D) : (repL k xs).length = k * xs.length := by
  unfold repL
  rw [List.length_flatten]
  simp
theorem w_pickS {k n : Nat} {xs : List D} (hM : At p T L M) (hL : Pl L) (hT : T < 1000000000) (hx : ∀ y ∈ xs, Sm9 k n y) (h0 : xs ≠ []) (h1 : xs.length < 1000000000) (q : ∀ x M', Sm9 k n x → At p (T + 1) L M' → Q x M') : Wp (callT gPick [.ref (p + 1), .lst xs] M) Q X :=
  w_pick hM hL hT (.inl rfl) h0 h1 (sm_cl hx) fun x hm M' a => q x M' (hx x hm) a
theorem ws_cut {f g : SF} {δ : Env} {M : Sto} {N : Env → Sto → Prop} {R : D → Sto → Prop} {XX : XS} (Mid : Env → Sto → Prop) (h1 : Ws (f δ M) Mid R XX) (h2 : ∀ δ' M', Mid δ' M' → Ws (g δ' M') N R XX) : Ws (sSeq f g δ M) N R XX :=
  (ws_seq f g).mpr (h1.mono h2 (fun _ _ z => z) fun _ _ _ _ z => z)
theorem cut_from {xs : List D} {i : Nat} (h : i ≤ xs.length) : cutD xs (some (i : Int)) none = xs.drop i := by
  unfold cutD
  have s0 : HT.sIx xs.length 0 (some (i : Int)) = i := by
    show (if (i : Int) < 0 then ((i : Int) + (xs.length : Int)).toNat else min (i : Int).toNat xs.length) = i
    rw [if_neg (by omega)]
    omega
  rw [s0]
  show (xs.drop i).take (xs.length - i) = _
  rw [List.take_of_length_le (by simp)]
theorem oAdd_tup {M : Sto} {xs ys : List D} (h : xs.length + ys.length ≤ sizeLine) : oAdd (.tup xs) (.tup ys) M = some (.tup (xs ++ ys)) := if_pos h
theorem ws_end {o : Out D} {d : D} (h : Wp o (fun d' _ => d' = d) X0) : ∃ M, o = .ok d M := by with_unfolding_all
  cases o with
  | ok a M => exact ⟨M, by rw [show a = d from h]⟩
  | exc C fs M => exact h.elim
  | stuck => exact h.elim
theorem oNe_same {d : D} (h : dOk d = true) (hd : dDep d ≤ 60) : oNe d d M = some (.bl false) := by
  unfold oNe
  rw [eqD_ok h h hd, eqv_self h]; rfl
theorem oNe_str_same (s : Str) : oNe (.str s) (.str s) M = some (.bl false) := by
  have e : eqD (.str s) (.str s) M = some true := by
    unfold eqD
    show (if _ then some (PyData.eqv (.str s) (.str s)) else none) = _
    rw [if_pos ⟨rfl, rfl, by show min 0 0 ≤ 60; decide⟩]
    show some (s == s) = _
    simp
  unfold oNe
  rw [e]; rfl
end
end L2.MK

end

section
set_option Elab.async false
set_option linter.all false
set_option maxRecDepth 100000
set_option maxHeartbeats 2000000
set_option autoImplicit false
set_option exponentiation.threshold 2000
/-! Own operators, turned sequences, kept sums, loops over what is in the store, sorted lists. -/
namespace L2.MK
open PySem PySem.Spec PyProof.Rows PySem.W He
section
variable {K : Frag} {M : Sto} {QD : D → Sto → Prop} {X : XP} {δ : Env} {N : Env → Sto → Prop} {R : D → Sto → Prop} {XX : XS}
theorem w_noX (m : Ev D) : Wp (noX m M) QD X ↔ Wp (m M) QD X0 := by
  unfold noX Wp
  cases m M <;> exact Iff.rfl
theorem w_binE (g : D → D → Ev D) (fa fb : EF) : Wp (eBinE g fa fb δ M) QD X ↔ Wp (fa δ M) (fun x M1 => Wp (fb δ M1) (fun y M2 => Wp (g x y M2) QD X0) X) X := by
  unfold eBinE; simp only [w_bind, w_noX]
theorem w_unE (g : D → Ev D) (fa : EF) : Wp (eUnE g fa δ M) QD X ↔ Wp (fa δ M) (fun x M1 => Wp (g x M1) QD X0) X := by
  unfold eUnE; simp only [w_bind, w_noX]
theorem w_callE (g : GE) (fa : AF) : Wp (eCallE g fa δ M) QD X ↔ Wp (fa δ M) (fun ds M1 => Wp (g ds M1) QD X0) X := by
  unfold eCallE; simp only [w_bind, w_noX]
theorem w_evRevM (x : D) : Wp (evRevM x M) QD X ↔ Sm (rvw M x) (fun xs => QD (.ref M.length) (M ++ [.lst xs.reverse])) := by
  unfold evRevM Wp; cases rvw M x <;> exact Iff.rfl
theorem w_revM (f : EF) : Wp (eRevM f δ M) QD X ↔ Wp (f δ M) (fun x M1 => Sm (rvw M1 x) (fun xs => QD (.ref M1.length) (M1 ++ [.lst xs.reverse]))) X := by
  unfold eRevM; simp only [w_bind, w_evRevM]
theorem w_evAddM {x y : D} {xs ys : List D} (hx : lvw M x = some xs) (hy : lvw M y = some ys) (hl : xs.length + ys.length ≤ sizeLine) (q : QD (.ref M.length) (M ++ [.lst (xs ++ ys)])) : Wp (evAddM x y M) QD X := by
  unfold evAddM
  rw [hx, hy]
  simp only
  rw [if_pos hl, wp_ok]
  exact q
theorem w_addM (fa fb : EF) : Wp (eAddM fa fb δ M) QD X ↔ Wp (fa δ M) (fun x M1 => Wp (fb δ M1) (fun y M2 => Wp (evAddM x y M2) QD X) X) X := by
  unfold eAddM; simp only [w_bind]
theorem lk1 {C : Str} {g : List D → Ev D} : ([(C, g)] : GT).lookup C = some g := by simp [List.lookup]
theorem ev_eq_ins {Ci : List Str} {C : Str} {g : List D → Ev D} {fs : List (Str × D)} {y : D} (hk : knD Ci M y = true) (h : Wp (callT g [.ins C fs, y] M) QD X) : Wp (evEq Ci [(C, g)] (.ins C fs) y M) QD X := by
  unfold evEq
  show Wp (match ([(C, g)] : GT).lookup C with
    | some g => if knD Ci M y = true then callT g [.ins C fs, y] M else .stuck
    | none => .stuck) QD X
  rw [lk1]
  simp only
  rw [if_pos hk]
  exact h
theorem ev_eq_dat {Ci : List Str} {ms : GT} {x y : D} (h : insOf M x = none) : Wp (evEq Ci ms x y M) QD X ↔ Sm (oEq x y M) fun d => QD d M := by
  unfold evEq
  rw [h]
  exact w_opt (oEq x y)
theorem wp_notO {o : Out D} (h : Wp o (fun d M' => ∃ b, d = .bl b ∧ QD (.bl !b) M') X0) : Wp (notO o) QD X := by
  unfold Wp at h ⊢
  cases o with
  | ok d M' =>
    obtain ⟨b, e, q⟩ := h
    subst e
    exact q
  | exc C fs M' => exact h.elim
  | stuck => exact h.elim
theorem wp_blO {o : Out D} (h : Wp o (fun d M' => ∃ b, d = .bl b ∧ QD (.bl b) M') X0) : Wp (blO o) QD X := by
  unfold Wp at h ⊢
  cases o with
  | ok d M' =>
    obtain ⟨b, e, q⟩ := h
    subst e
    exact q
  | exc C fs M' => exact h.elim
  | stuck => exact h.elim
theorem wp_lenO {o : Out D} (h : Wp o (fun d M' => ∃ n : Int, d = .int n ∧ 0 ≤ n ∧ n < 2 ^ 63 ∧ QD (.int n) M') X0) : Wp (lenO o) QD X := by
  unfold Wp at h ⊢
  cases o with
  | ok d M' =>
    obtain ⟨n, e, h0, h1, q⟩ := h
    subst e
    unfold lenO
    simp only
    rw [if_pos ⟨h0, h1⟩]
    exact q
  | exc C fs M' => exact h.elim
  | stuck => exact h.elim
theorem ev_ne_ins {Ci : List Str} {C : Str} {g : List D → Ev D} {fs : List (Str × D)} {y : D} (hk : knD Ci M y = true) (h : Wp (callT g [.ins C fs, y] M) (fun d M' => ∃ b, d = .bl b ∧ QD (.bl !b) M') X0) : Wp (evNe Ci [(C, g)] (.ins C fs) y M) QD X := by
  unfold evNe
  show Wp (match ([(C, g)] : GT).lookup C with
    | some g => if knD Ci M y = true then notO (callT g [.ins C fs, y] M) else .stuck
    | none => .stuck) QD X
  rw [lk1]
  simp only
  rw [if_pos hk]
  exact wp_notO h
theorem ev_ne_dat {Ci : List Str} {ms : GT} {x y : D} (h : insOf M x = none) : Wp (evNe Ci ms x y M) QD X ↔ Sm (oNe x y M) fun d => QD d M := by
  unfold evNe
  rw [h]
  exact w_opt (oNe x y)
theorem ev_in_ins {C : Str} {g : List D → Ev D} {fs : List (Str × D)} {x : D} (h : Wp (callT g [.ins C fs, x] M) (fun d M' => ∃ b, d = .bl b ∧ QD (.bl b) M') X0) : Wp (evIn [(C, g)] x (.ins C fs) M) QD X := by
  unfold evIn
  show Wp (match ([(C, g)] : GT).lookup C with
    | some g => blO (callT g [.ins C fs, x] M)
    | none => .stuck) QD X
  rw [lk1]
  exact wp_blO h
theorem ev_notin_ins {C : Str} {g : List D → Ev D} {fs : List (Str × D)} {x : D} (h : Wp (callT g [.ins C fs, x] M) (fun d M' => ∃ b, d = .bl b ∧ QD (.bl !b) M') X0) : Wp (evNotIn [(C, g)] x (.ins C fs) M) QD X := by
  unfold evNotIn
  show Wp (match ([(C, g)] : GT).lookup C with
    | some g => notO (callT g [.ins C fs, x] M)
    | none => .stuck) QD X
  rw [lk1]
  exact wp_notO h
theorem ev_len_ins {C : Str} {g : List D → Ev D} {fs : List (Str × D)} (h : Wp (callT g [.ins C fs] M) (fun d M' => ∃ n : Int, d = .int n ∧ 0 ≤ n ∧ n < 2 ^ 63 ∧ QD (.int n) M') X0) : Wp (gLenE [(C, g)] [.ins C fs] M) QD X := by
  unfold gLenE
  show Wp (match ([(C, g)] : GT).lookup C with
    | some g => lenO (callT g [.ins C fs] M)
    | none => .stuck) QD X
  rw [lk1]
  exact wp_lenO h
theorem ev_len_dat {ms : GT} {x : D} (h : insOf M x = none) : Wp (gLenE ms [x] M) QD X ↔ Sm (gLen [x] M) fun d => QD d M := by
  unfold gLenE
  show Wp (match insOf M x with
    | none => opt (gLen [x]) M
    | some C => _) QD X ↔ _
  rw [h]
  exact w_opt (gLen [x])
theorem ev_pr_ins {C : Str} {g : List D → Ev D} {fs : List (Str × D)} (h : Wp (callT g [.ins C fs] M) QD X) : Wp (evPr [(C, g)] (.ins C fs) M) QD X := by
  unfold evPr
  show Wp (match ([(C, g)] : GT).lookup C with
    | some g => callT g [.ins C fs] M
    | none => .stuck) QD X
  rw [lk1]
  exact h
theorem insOf_ok {d : D} (h : dOk d = true) : insOf M d = none := by
  cases d <;> first | rfl | (unfold dOk at h; cases h)
theorem knD_ok {Ci : List Str} {d : D} (h : dOk d = true) : knD Ci M d = true := by
  cases d <;> first | rfl | (unfold dOk at h; cases h)
theorem knD_ins {Ci : List Str} {C : Str} {fs : List (Str × D)} (h : C ∈ Ci) : knD Ci M (.ins C fs) = true := by
  show ((btD M (.ins C fs)).isSome || decide (C ∈ Ci)) = true
  rw [decide_eq_true h, Bool.or_true]
/-! loops over what stands in the store -/
theorem forD_invI {it : ID} {g : D → SF} {b : SF} {xs : List D} (I : Nat → Env → Sto → Prop) (hit : ∀ i δ M, I i δ M → it M i = some (xs[i]?))
    (h : ∀ i x δ M, xs[i]? = some x → I i δ M → Ws (g x δ M) (fun δ1 M1 => Ws (b δ1 M1) (I (i + 1)) R XX) (fun _ _ => False) XX) :
    ∀ r i δ M, i + r = xs.length → I i δ M → Ws (forD it g b r i δ M) (I xs.length) R XX
  | 0, i, δ, M, e, hI => by with_unfolding_all
    unfold forD
    rw [hit i δ M hI, List.getElem?_eq_none (by omega)]
    have : i = xs.length := by omega
    subst this
    exact hI
  | r + 1, i, δ, M, e, hI => by with_unfolding_all
    unfold forD
    have hi : i < xs.length := by omega
    rw [hit i δ M hI, List.getElem?_eq_getElem hi]
    have q := h i xs[i] δ M (List.getElem?_eq_getElem hi) hI
    simp only
    cases e1 : g xs[i] δ M with
    | ret d M' => rw [e1] at q; exact q.elim
    | exc C fs δ' M' => rw [e1] at q; exact q
    | stuck => rw [e1] at q; exact q.elim
    | nx δ1 M1 =>
      rw [e1] at q
      replace q : Ws (b δ1 M1) (I (i + 1)) R XX := q
      show Ws (match b δ1 M1 with
        | .nx δ2 M2 => forD it g b r (i + 1) δ2 M2
        | o => o) _ _ _
      cases e2 : b δ1 M1 with
      | nx δ2 M2 => rw [e2] at q; exact forD_invI I hit h r (i + 1) δ2 M2 (by omega) q
      | ret d M' => rw [e2] at q; exact q
      | exc C fs δ' M' => rw [e2] at q; exact q
      | stuck => rw [e2] at q; exact q.elim
theorem ws_forI {f : IF} {g : D → SF} {b : SF} (I : List D → Nat → Env → Sto → Prop) (hi : Wp (f δ M) (fun p M1 => ∃ xs : List D, p.1 = xs.length ∧ (∀ i δ M, I xs i δ M → p.2 M i = some (xs[i]?)) ∧ I xs 0 δ M1 ∧
      (∀ i x δ M, xs[i]? = some x → I xs i δ M → Ws (g x δ M) (fun δ1 M1 => Ws (b δ1 M1) (I xs (i + 1)) R XX) (fun _ _ => False) XX) ∧ ∀ δ M, I xs xs.length δ M → N δ M) (fun C fs M' => XX C fs δ M')) :
    Ws (sFor f g b δ M) N R XX := by with_unfolding_all
  unfold sFor
  cases e : f δ M with
  | stuck => rw [e] at hi; exact hi.elim
  | exc C fs M' => rw [e] at hi; exact hi
  | ok p M' =>
    rw [e] at hi
    replace hi := wp_ok.mp hi
    obtain ⟨xs, e1, e2, i0, h, fin⟩ := hi
    have q := forD_invI (I xs) e2 h p.1 0 δ M' (by omega) i0
    exact q.mono fin (fun _ _ z => z) fun _ _ _ _ z => z
/-- a list or a tuple, or a list of the store -/
def SqM (M : Sto) (v : D) (xs : List D) : Prop := Sq v xs ∨ ∃ j, v = .ref j ∧ M[j]? = some (.lst xs)
theorem SqM.len {v : D} {xs : List D} (h : SqM M v xs) : gLen [v] M = some (.int xs.length) := by
  rcases h with h | ⟨j, rfl, h⟩
  · exact h.len
  · exact gLen_ref h
theorem SqM.sq {v : D} {xs : List D} (h : SqM M v xs) : sqD M v = some xs := by
  rcases h with h | ⟨j, rfl, h⟩
  · exact sqD_F h.f
  · unfold sqD vw; simp only [h]
theorem SqM.cut {v : D} {xs : List D} (h : SqM M v xs) (a b : Option Int) : ∃ w, oCut v a b M = some w ∧ Sq w (cutD xs a b) := by
  rcases h with h | ⟨j, rfl, h⟩
  · exact h.cut a b
  · refine ⟨.lst (cutD xs a b), ?_, .inl rfl⟩
    unfold oCut vw; simp only [h]
theorem SqM.is {Ci Ce : List Str} {v : D} {xs : List D} (h : SqM M v xs) : gIsi K Ci Ce [v, .tup [.ty "list", .ty "tuple"]] M = some (.bl true) := by
  rcases h with (rfl | rfl) | ⟨j, rfl, h⟩
  · rfl
  · rfl
  · have e : btD M (.ref j) = some "list" := by unfold btD; simp only [h]
    have e2 : isiD K Ci Ce M (.ref j) (fun t => kitAny K t [.type "list", .type "tuple"]) = some true := by
      unfold isiD
      rw [e]
      rfl
    show Option.map D.bl (isiD K Ci Ce M (.ref j) fun t => kitAny K t [.type "list", .type "tuple"]) = _
    rw [e2]; rfl
theorem SqM.app {v : D} {xs : List D} (h : SqM M v xs) (L2 : Sto) : SqM (M ++ L2) v xs := by
  rcases h with h | ⟨j, rfl, h⟩
  · exact .inl h
  · refine .inr ⟨j, rfl, ?_⟩
    rw [List.getElem?_append_left (List.getElem?_eq_some_iff.mp h).1]
    exact h
/-! booleans -/
theorem gAny_bls (bs : List Bool) : gAny [.lst (bs.map .bl)] M = some (.bl (bs.any id)) := by
  show ((pysOf M (.lst (bs.map .bl))).bind blsP).map (fun bs => D.bl (bs.any id)) = _
  have : pysOf M (.lst (bs.map .bl)) = some (bs.map .bool) := pys_bls bs
  rw [this, Option.bind_some, blsP_bls]; rfl
end
/-! ### sorted lists -/
theorem perm_sorted {α : Type} {le : α → α → Bool} : ∀ {l1 l2 : List α}, l1.Perm l2 → l1.Pairwise (fun a b => le a b = true) → l2.Pairwise (fun a b => le a b = true) → (∀ a ∈ l1, ∀ b ∈ l1, le a b = true → le b a = true → a = b) → l1 = l2
  | [], l2, p, _, _, _ => (List.nil_perm.mp p).symm ▸ rfl
  | a :: r, [], p, _, _, _ => by simp at p
  | a :: r, b :: s, p, s1, s2, h => by
    have e : a = b := by
      by_cases q : a = b
      · exact q
      · have hb : b ∈ r := by
          rcases List.mem_cons.mp (p.mem_iff.mpr (List.mem_cons_self ..)) with z | z
          · exact absurd z.symm q
          · exact z
        have ha : a ∈ s := by
          rcases List.mem_cons.mp (p.mem_iff.mp (List.mem_cons_self ..)) with z | z
          · exact absurd z q
          · exact z
        exact h a (List.mem_cons_self ..) b (List.mem_cons_of_mem _ hb) ((List.pairwise_cons.mp s1).1 b hb) ((List.pairwise_cons.mp s2).1 a ha)
    subst e
    rw [perm_sorted (List.Perm.cons_inv p) (List.pairwise_cons.mp s1).2 (List.pairwise_cons.mp s2).2 fun x hx y hy => h x (List.mem_cons_of_mem _ hx) y (List.mem_cons_of_mem _ hy)]
theorem leD_sorted (xs : List D) : (xs.mergeSort leD).Pairwise (fun a b => leD a b = true) := List.pairwise_mergeSort (fun a b c h1 h2 => (sortLe_total (listOrd itemOrd) false fun b => keyToks (pyD b)).trans a b c h1 h2) (fun a b => Bool.or_eq_true_iff.mpr ((sortLe_total (listOrd itemOrd) false fun b => keyToks (pyD b)).total a b)) xs
theorem leD_anti {a b : D} (h1 : leD a b = true) (h2 : leD b a = true) : keyToks (pyD a) = keyToks (pyD b) := by
  have e1 : (!(listOrd itemOrd).blt (keyToks (pyD b)) (keyToks (pyD a))) = true := h1
  have e2 : (!(listOrd itemOrd).blt (keyToks (pyD a)) (keyToks (pyD b))) = true := h2
  rw [Bool.not_eq_true'] at e1 e2
  exact (listOrd itemOrd).total _ _ e2 e1
end L2.MK

end

section
set_option Elab.async false
set_option linter.all false
set_option maxRecDepth 100000
set_option maxHeartbeats 2000000
set_option autoImplicit false
set_option exponentiation.threshold 2000
/-! Comprehensions over lists of the store. -/
namespace L2.MK
open PySem PySem.Spec PyProof.Rows PySem.W
section
variable {fi : IF} {p : Pt} {bt : BF} {f : EF} {vs : List Nat} {δ : Env} {M : Sto} {Q : D → Sto → Prop} {X : XP}
theorem lcO_invI {it : ID} {xs : List D} {n : Nat} {δw : Env} (I : Nat → List D → Sto → Prop) (hit : ∀ i ys Ma, I i ys Ma → Ma.length = n → it (Ma ++ [.lst ys]) i = some (xs[i]?))
    (h : ∀ i x ys Ma, xs[i]? = some x → I i ys Ma → Ma.length = n → Sm (setPt (Ma ++ [.lst ys]) p x δw) fun δ1 => Wp (bt δ1 (Ma ++ [.lst ys])) (fun k M2 => if k = true then Wp (f δ1 M2) (fun y M3 => ∃ Mc, M3 = Mc ++ [.lst ys] ∧ Mc.length = n ∧ ys.length < sizeLine ∧ I (i + 1) (ys ++ [y]) Mc) X0 else ∃ Mb, M2 = Mb ++ [.lst ys] ∧ Mb.length = n ∧ I (i + 1) ys Mb) X0) :
    ∀ r i ys Ma, i + r = xs.length → I i ys Ma → Ma.length = n → ∃ ys' Me, Me.length = n ∧ lcO it p bt f n δw r i (Ma ++ [.lst ys]) = .ok (.ref n) (Me ++ [.lst ys']) ∧ I xs.length ys' Me
  | 0, i, ys, Ma, e, hI, hl => by
    unfold lcO
    rw [hit i ys Ma hI hl, List.getElem?_eq_none (by omega)]
    have : i = xs.length := by omega
    subst this
    exact ⟨ys, Ma, hl, rfl, hI⟩
  | r + 1, i, ys, Ma, e, hI, hl => by with_unfolding_all
    unfold lcO
    have hi : i < xs.length := by omega
    rw [hit i ys Ma hI hl, List.getElem?_eq_getElem hi]
    obtain ⟨δ1, e1, q⟩ := (h i xs[i] ys Ma (List.getElem?_eq_getElem hi) hI hl).get
    simp only [e1]
    cases e2 : bt δ1 (Ma ++ [.lst ys]) with
    | stuck => rw [e2] at q; exact q.elim
    | exc C fs M' => rw [e2] at q; exact q.elim
    | ok k M2 =>
      rw [e2] at q
      cases k with
      | false =>
        rw [wp_ok, if_neg (by simp)] at q
        obtain ⟨Mb, rfl, lb, hb⟩ := q
        simp only
        exact lcO_invI I hit h r (i + 1) ys Mb (by omega) hb lb
      | true =>
        rw [wp_ok, if_pos rfl] at q
        simp only
        cases e3 : f δ1 M2 with
        | stuck => rw [e3] at q; exact q.elim
        | exc C fs M' => rw [e3] at q; exact q.elim
        | ok y M3 =>
          rw [e3] at q
          rw [wp_ok] at q
          obtain ⟨Mc, rfl, lc, hs, hc⟩ := q
          have e4 : gAppend (.ref n) [y] (Mc ++ [.lst ys]) = some (.non, Mc ++ [.lst (ys ++ [y])]) := by
            show (match (Mc ++ [MO.lst ys])[n]? with
              | some (.lst xs) => if xs.length < sizeLine then some (D.non, (Mc ++ [MO.lst ys]).set n (.lst (xs ++ [y]))) else none
              | _ => none) = _
            rw [← lc, List.getElem?_append_right (Nat.le_refl _)]
            simp only [Nat.sub_self, List.getElem?_cons_zero]
            rw [if_pos hs, List.set_append_right _ _ (Nat.le_refl _)]
            simp
          simp only [e4]
          exact lcO_invI I hit h r (i + 1) (ys ++ [y]) Mc (by omega) hc lc
/-- THE RULE for [f for p in fi if bt]: I what holds ahead of turn i, ys what is there -/
theorem w_lcI (I : List D → Nat → List D → Sto → Prop) (hi : Wp (fi δ M) (fun q M1 => ∃ xs : List D, q.1 = xs.length ∧ (∀ i ys Ma, I xs i ys Ma → Ma.length = M.length → q.2 (Ma ++ [.lst ys]) i = some (xs[i]?)) ∧ M1.length = M.length ∧ I xs 0 [] M1 ∧
      (∀ i x ys Ma, xs[i]? = some x → I xs i ys Ma → Ma.length = M.length → Sm (setPt (Ma ++ [.lst ys]) p x (wipeD δ vs)) fun δ1 => Wp (bt δ1 (Ma ++ [.lst ys])) (fun k M2 => if k = true then Wp (f δ1 M2) (fun y M3 => ∃ Mc, M3 = Mc ++ [.lst ys] ∧ Mc.length = M.length ∧ ys.length < sizeLine ∧ I xs (i + 1) (ys ++ [y]) Mc) X0 else ∃ Mb, M2 = Mb ++ [.lst ys] ∧ Mb.length = M.length ∧ I xs (i + 1) ys Mb) X0) ∧
      ∀ ys Me, Me.length = M.length → I xs xs.length ys Me → Ok Me ∧ cls M.length ys = true ∧ Q (.lst ys) Me) X0) : Wp (eLc fi p bt f vs δ M) Q X := by with_unfolding_all
  unfold eLc eLcM
  cases e : fi δ M with
  | stuck => rw [e] at hi; exact hi.elim
  | exc C fs M' => rw [e] at hi; exact hi.elim
  | ok q M1 =>
    rw [e] at hi
    replace hi := wp_ok.mp hi
    obtain ⟨xs, e1, e2, l1, i0, h, fin⟩ := hi
    obtain ⟨ys', Me, le, eo, hI⟩ := lcO_invI (n := M1.length) (δw := wipeD δ vs) (I xs) (fun i ys Ma a b => e2 i ys Ma a (by rw [b, l1])) (fun i x ys Ma a b c => by rw [l1]; exact h i x ys Ma a b (by rw [c, l1])) q.1 0 [] M1 (by omega) i0 rfl
    simp only [eo]
    obtain ⟨o1, o2, o3⟩ := fin ys' Me (le.trans l1) hI
    rw [w_trim]
    show Sm _ _
    rw [← le.trans l1] at o2 ⊢
    exact trim_lst o1 (by omega) (by rw [← le, List.getElem?_append_right (Nat.le_refl _)]; simp) o2 o3
/-- the store stays: a filter and a map -/
theorem w_lcPR {f0 : EF} {j : Nat} (xs : List D) (B : D → Bool) (F : D → D) (hM : Ok M) (hj : M[j]? = some (.lst xs)) (hl : xs.length ≤ sizeLine) (hi : Wp (f0 δ M) (fun d M1 => d = .ref j ∧ M1 = M) X0)
    (h : ∀ x ∈ xs, ∀ M2 : Sto, Ok M2 → Sm (setPt M2 p x (wipeD δ vs)) fun δ1 => Wp (bt δ1 M2) (fun k M3 => k = B x ∧ M3 = M2) X0 ∧ (B x = true → Wp (f δ1 M2) (fun y M3 => y = F x ∧ M3 = M2) X0))
    (hc : ∀ x ∈ xs, B x = true → cl M.length (F x) = true) (hQ : Q (.lst ((xs.filter B).map F)) M) : Wp (eLc (iSeq f0) p bt f vs δ M) Q X := by
  have sqj : ∀ N : Sto, sqD (M ++ N) (.ref j) = some xs := fun N => by
    unfold sqD vw
    have : (M ++ N)[j]? = some (.lst xs) := by
      rw [List.getElem?_append_left (List.getElem?_eq_some_iff.mp hj).1]; exact hj
    simp only [this]
  have clAll : ∀ n : Nat, cls M.length (((xs.take n).filter B).map F) = true := fun n => cls_mem.mpr fun d hd => by
    obtain ⟨x, hx, rfl⟩ := List.mem_map.mp hd
    obtain ⟨h1, h2⟩ := List.mem_filter.mp hx
    exact hc x (List.mem_of_mem_take h1) h2
  refine w_lcI (fun zs i ys Ma => zs = xs ∧ Ma = M ∧ ys = ((xs.take i).filter B).map F) ?_
  unfold iSeq
  rw [w_bind]
  refine hi.mono fun d M1 ⟨e1, e2⟩ => ?_
  subst e1 e2
  have ew : wSeq (.ref j) M1 = some (xs.length, fun M i => (sqD M (.ref j)).map fun zs => zs[i]?) := by
    show (sqD M1 (.ref j)).map _ = _
    have := sqj []
    rw [List.append_nil] at this
    rw [this]; rfl
  unfold evI
  rw [ew]
  refine wp_ok.mpr ⟨xs, rfl, fun i ys Ma ⟨_, eM, _⟩ _ => ?_, ?_⟩
  · subst eM
    show (sqD (Ma ++ [.lst ys]) (.ref j)).map _ = _
    rw [sqj]; rfl
  refine ⟨rfl, ⟨rfl, rfl, by simp⟩, fun i x zs Ma hx ⟨_, e1, e2⟩ ln => ?_, fun zs Me ln ⟨_, e1, e2⟩ => ?_⟩
  · subst e1
    have hm : x ∈ xs := List.mem_of_getElem? hx
    have ok2 : Ok (Ma ++ [.lst zs]) := fun m hm => by
      rcases List.mem_append.mp hm with hm | hm
      · have := hM m hm
        revert this
        cases m with
        | lst as => exact fun z => cls_mono (by simp) z
        | dK as => exact fun z => cls_mono (by simp) z
        | ins _ _ => exact fun z => z
        | opq => exact fun z => z
        | dead => exact fun z => z
      · rw [List.mem_singleton] at hm
        subst hm
        subst e2
        exact cls_mono (by simp) (clAll i)
    have ilt : i < xs.length := by
      rcases Nat.lt_or_ge i xs.length with z | z
      · exact z
      · rw [List.getElem?_eq_none z] at hx; cases hx
    have tk : xs.take (i + 1) = xs.take i ++ [x] := by
      rw [List.take_succ, hx]; rfl
    refine (h x hm _ ok2).mono fun δ1 ⟨h1, h2⟩ => h1.mono fun k M3 ⟨ek, eM⟩ => ?_
    subst eM ek
    by_cases hb : B x = true
    · rw [if_pos hb]
      refine (h2 hb).mono fun y M4 ⟨ey, eM⟩ => ?_
      subst ey eM
      refine ⟨Ma, rfl, rfl, ?_, rfl, rfl, ?_⟩
      · subst e2
        have : (((xs.take i).filter B).map F).length ≤ i := by
          rw [List.length_map]
          exact Nat.le_trans (List.length_filter_le _ _) (List.length_take_le _ _)
        omega
      · rw [e2, tk, List.filter_append, List.map_append]
        simp [hb]
    · rw [if_neg hb]
      refine ⟨Ma, rfl, rfl, rfl, rfl, ?_⟩
      rw [e2, tk, List.filter_append, List.map_append]
      simp [hb]
  · subst e1
    rw [List.take_length] at e2
    subst e2
    refine ⟨hM, ?_, hQ⟩
    have := clAll xs.length
    rw [List.take_length] at this
    exact this
end
end L2.MK

end

section
set_option Elab.async false
set_option linter.all false
set_option maxRecDepth 100000
set_option maxHeartbeats 2000000
set_option autoImplicit false
set_option exponentiation.threshold 2000
/-! Plain rules: dict comprehensions, items, get, update, stars, own operators, comprehensions behind which the store grows. -/
namespace L2.MK
open PySem PySem.Spec PyProof.Rows PySem.W
section
variable {δ : Env} {M : Sto} {QD : D → Sto → Prop} {X : XP} {N : Env → Sto → Prop} {R : D → Sto → Prop} {XX : XS}
theorem w_get2 (fo fe ff : EF) : Wp (eGet2 fo fe ff δ M) QD X ↔ Wp (fo δ M) (fun d M1 => Wp (evIsD d M1) (fun _ M2 => Wp (fe δ M2) (fun y M3 => Wp (ff δ M3) (fun z M4 => Wp (evGet2 d y z M4) QD X) X) X) X) X := by
  unfold eGet2; simp only [w_bind]
theorem w_upd (fo fe : EF) : Wp (eUpd fo fe δ M) QD X ↔ Wp (fo δ M) (fun d M1 => Wp (evIsD d M1) (fun _ M2 => Wp (fe δ M2) (fun y M3 => Wp (evUpd d y M3) QD X) X) X) X := by
  unfold eUpd; simp only [w_bind]
theorem w_isD {QU : Unit → Sto → Prop} {i : Nat} {kvs : List (Key × D)} (h : M[i]? = some (.dK kvs)) : Wp (evIsD (.ref i) M) QU X ↔ QU () M := by
  unfold evIsD dctD
  simp only [h]
  exact wp_ok
theorem w_evGet2 {i : Nat} {kvs : List (Key × D)} {y z : D} {k : Key} (h : M[i]? = some (.dK kvs)) (hk : keyD y = some k) : Wp (evGet2 (.ref i) y z M) QD X ↔ QD ((valG kvs k).getD z) M := by
  unfold evGet2 dctD
  simp only [h, hk]
  exact wp_ok
theorem w_evUpd {i j : Nat} {kvs more : List (Key × D)} (h : M[i]? = some (.dK kvs)) (h2 : M[j]? = some (.dK more)) (hne : i ≠ j) (hl : kvs.length + more.length ≤ sizeLine) : Wp (evUpd (.ref i) (.ref j) M) QD X ↔ QD .non (M.set i (.dK (mergeG kvs more))) := by
  unfold evUpd
  simp only [h, h2]
  rw [if_pos ⟨hne, hl⟩]
  exact wp_ok
theorem w_aStar {QL : List D → Sto → Prop} (f : EF) : Wp (aStar f δ M) QL X ↔ Wp (f δ M) (fun d M1 => Sm (sqD M1 d) fun xs => QL xs M1) X := by
  unfold aStar
  rw [w_bind]
  have e : ∀ d M1, Wp (evSpread d M1) QL X ↔ Sm (sqD M1 d) fun xs => QL xs M1 := fun d M1 => by
    unfold evSpread
    cases sqD M1 d with
    | none => with_unfolding_all exact Iff.rfl
    | some xs => exact wp_ok
  exact wp_congr fun d M1 => e d M1
theorem w_binO (ms : GT) (fa fb : EF) : Wp (eBinO ms fa fb δ M) QD X ↔ Wp (fa δ M) (fun x M1 => Wp (fb δ M1) (fun y M2 => Wp (evBinO ms x y M2) QD X) X) X := by
  unfold eBinO; simp only [w_bind]
theorem ev_binO_ins {C : Str} {g : List D → Ev D} {fs gs : List (Str × D)} (h : Wp (callT g [.ins C fs, .ins C gs] M) QD X) : Wp (evBinO [(C, g)] (.ins C fs) (.ins C gs) M) QD X := by
  unfold evBinO
  have e1 : insOf M (.ins C fs) = some C := rfl
  have e2 : insOf M (.ins C gs) = some C := rfl
  simp only [e1, lk1]
  rw [if_pos e2]
  exact h
theorem ev_prK_ins {C : Str} {g : List D → Ev D} {fs : List (Str × D)} (h : Wp (g [.ins C fs] M) QD X) : Wp (evPrK [(C, g)] (.ins C fs) M) QD X := by
  unfold evPrK
  have e1 : insOf M (.ins C fs) = some C := rfl
  simp only [e1, lk1]
  exact h
theorem ws_par (i j : Nat) (fa : AF) : Ws (sPar i j fa δ M) N R XX ↔ Wp (fa δ M) (fun ds M' => ∃ d e, ds = [d, e] ∧ N ((δ.set i (some d)).set j (some e)) M') (fun C fs M' => XX C fs δ M') := by with_unfolding_all
  unfold sPar
  cases fa δ M with
  | stuck => exact Iff.rfl
  | exc C fs M' => exact Iff.rfl
  | ok ds M' =>
    refine Iff.trans ?_ wp_ok.symm
    cases ds with
    | nil => exact ⟨fun h => False.elim h, fun ⟨_, _, e, _⟩ => nomatch e⟩
    | cons d r =>
      cases r with
      | nil => exact ⟨fun h => False.elim h, fun ⟨_, _, e, _⟩ => nomatch e⟩
      | cons e r =>
        cases r with
        | nil => exact ⟨fun h => ⟨d, e, rfl, h⟩, fun ⟨d', e', q, h⟩ => by cases q; exact h⟩
        | cons z r => exact ⟨fun h => False.elim h, fun ⟨_, _, e, _⟩ => nomatch e⟩
/-- the items of a dict that the getter made -/
theorem wi_items {f : EF} {P : List D → Sto → Prop} (hM : Ok M) (h : Wp (f δ M) (fun d M1 => ∃ kvs : List (Key × D), d = .ref M.length ∧ M1 = M ++ [.dK kvs] ∧ (∀ p ∈ kvs, scalD p.2 = true) ∧ P (kvs.map fun p => .tup [keyDD p.1, p.2]) M) X) : Wi (iItemsD f δ M) P X := by with_unfolding_all
  unfold iItemsD
  cases e : f δ M with
  | stuck => rw [e] at h; exact h
  | exc C fs M' => rw [e] at h; exact h
  | ok d M1 =>
    rw [e] at h
    obtain ⟨kvs, rfl, rfl, hs, hP⟩ := (show ∃ kvs : List (Key × D), d = .ref M.length ∧ M1 = M ++ [.dK kvs] ∧ (∀ p ∈ kvs, scalD p.2 = true) ∧ P (kvs.map fun p => .tup [keyDD p.1, p.2]) M from h)
    have e1 : (M ++ [MO.dK kvs])[M.length]? = some (.dK kvs) := by rw [List.getElem?_append_right (Nat.le_refl _)]; simp
    have e2 : evItems M.length (.ref M.length) (M ++ [MO.dK kvs]) = .ok (kvs.length, fun _ j => some ((kvs[j]?).map fun p => .tup [keyDD p.1, p.2])) M := by
      unfold evItems
      simp only [e1]
      rw [if_pos ⟨Nat.le_refl _, by simp, by
        rw [List.take_left' rfl, Bool.and_eq_true]
        exact ⟨List.all_eq_true.mpr hM, List.all_eq_true.mpr hs⟩⟩, List.take_left' rfl]
    show Wp (evItems M.length (.ref M.length) (M ++ [MO.dK kvs])) _ X
    rw [e2]
    refine ⟨kvs.map fun p => .tup [keyDD p.1, p.2], by rw [List.length_map], fun M' i => ?_, hP⟩
    show some _ = _
    rw [List.getElem?_map]
theorem oNeN_lst (xs : List D) : oNeN (.lst xs) (.lst []) M = some (.bl (!xs.isEmpty)) := by
  cases xs with
  | nil =>
    have e : someD M (.lst []) (.lst []) = false := rfl
    unfold oNeN
    rw [e, if_neg (by simp)]
    exact oNe_nil rfl (by decide)
  | cons x r =>
    have e : someD M (.lst (x :: r)) (.lst []) = true := rfl
    unfold oNeN
    rw [if_pos e]; rfl
theorem oNeN_ref {j : Nat} {xs : List D} (h : M[j]? = some (.lst xs)) : oNeN (.ref j) (.lst []) M = some (.bl (!xs.isEmpty)) := by
  have v : vw M (.ref j) = .lst xs := by unfold vw; simp only [h]
  have v2 : vw M (.lst []) = .lst [] := rfl
  cases xs with
  | nil =>
    have e : someD M (.ref j) (.lst []) = false := by
      unfold someD lvw
      rw [v]
    unfold oNeN
    rw [e, if_neg (by simp)]
    have := oNe_nil (M := M) (xs := []) rfl (by decide)
    unfold oNe eqD at this ⊢
    rw [v]
    rw [show vw M (.lst []) = .lst [] from rfl] at this ⊢
    exact this
  | cons x r =>
    have e : someD M (.ref j) (.lst []) = true := by
      unfold someD lvw
      rw [v]; rfl
    unfold oNeN
    rw [if_pos e]; rfl
end
/-! ### comprehensions -/
section
variable {fi : IF} {p : Pt} {bt : BF} {f fk fv : EF} {vs : List Nat} {δ : Env} {M : Sto} {Q : D → Sto → Prop} {X : XP}
theorem lcO_invG {it : ID} {xs : List D} {n : Nat} {δw : Env} (I : Nat → List D → Sto → Prop) (hit : ∀ M' i, it M' i = some (xs[i]?))
    (h : ∀ i x ys M', xs[i]? = some x → I i ys M' → M'[n]? = some (.lst ys) → Sm (setPt M' p x δw) fun δ1 => Wp (bt δ1 M') (fun k M2 => if k = true then Wp (f δ1 M2) (fun y M3 => M3[n]? = some (.lst ys) ∧ ys.length < sizeLine ∧ I (i + 1) (ys ++ [y]) (M3.set n (.lst (ys ++ [y])))) X0 else M2[n]? = some (.lst ys) ∧ I (i + 1) ys M2) X0) :
    ∀ r i ys M', i + r = xs.length → I i ys M' → M'[n]? = some (.lst ys) → ∃ ys' Me, Me[n]? = some (.lst ys') ∧ lcO it p bt f n δw r i M' = .ok (.ref n) Me ∧ I xs.length ys' Me
  | 0, i, ys, M', e, hI, hl => by
    unfold lcO
    rw [hit M' i, List.getElem?_eq_none (by omega)]
    have : i = xs.length := by omega
    subst this
    exact ⟨ys, M', hl, rfl, hI⟩
  | r + 1, i, ys, M', e, hI, hl => by with_unfolding_all
    unfold lcO
    have hi : i < xs.length := by omega
    rw [hit M' i, List.getElem?_eq_getElem hi]
    obtain ⟨δ1, e1, q⟩ := (h i xs[i] ys M' (List.getElem?_eq_getElem hi) hI hl).get
    simp only [e1]
    cases e2 : bt δ1 M' with
    | stuck => rw [e2] at q; exact q.elim
    | exc C fs M' => rw [e2] at q; exact q.elim
    | ok k M2 =>
      rw [e2] at q
      cases k with
      | false =>
        rw [wp_ok, if_neg (by simp)] at q
        simp only
        exact lcO_invG I hit h r (i + 1) ys M2 (by omega) q.2 q.1
      | true =>
        rw [wp_ok, if_pos rfl] at q
        simp only
        cases e3 : f δ1 M2 with
        | stuck => rw [e3] at q; exact q.elim
        | exc C fs M' => rw [e3] at q; exact q.elim
        | ok y M3 =>
          rw [e3] at q
          rw [wp_ok] at q
          obtain ⟨c1, c2, c3⟩ := q
          have e4 : gAppend (.ref n) [y] M3 = some (.non, M3.set n (.lst (ys ++ [y]))) := append_ref c1 c2 y
          simp only [e4]
          refine lcO_invG I hit h r (i + 1) (ys ++ [y]) _ (by omega) c3 ?_
          have := (List.getElem?_eq_some_iff.mp c1).1
          simp [this]
/-- the store may grow behind the list -/
theorem w_lcE (xs : List D) (B : D → Bool) (F : D → D) (hM : Ok M) (hl : xs.length ≤ sizeLine) (hi : Wi (fi δ M) (fun ys M1 => ys = xs ∧ M1 = M) X0)
    (h : ∀ x ∈ xs, ∀ N : Sto, Ok (M ++ N) → Sm (setPt (M ++ N) p x (wipeD δ vs)) fun δ1 => Wp (bt δ1 (M ++ N)) (fun k M3 => k = B x ∧ ∃ E, M3 = M ++ N ++ E ∧ Ok M3) X0 ∧ ∀ N', Ok (M ++ N') → B x = true → Wp (f δ1 (M ++ N')) (fun y M3 => y = F x ∧ ∃ E, M3 = M ++ N' ++ E ∧ Ok M3) X0)
    (hc : ∀ x ∈ xs, B x = true → cl M.length (F x) = true) (hQ : Q (.lst ((xs.filter B).map F)) M) : Wp (eLc fi p bt f vs δ M) Q X := by with_unfolding_all
  unfold eLc eLcM
  cases e : fi δ M with
  | stuck => rw [e] at hi; exact hi.elim
  | exc C fs M' => rw [e] at hi; exact hi.elim
  | ok q M1 =>
    rw [e] at hi
    replace hi := wp_ok.mp hi
    obtain ⟨ys0, e1, e2, rfl, rfl⟩ := hi
    have clAll : ∀ n : Nat, cls M1.length (((ys0.take n).filter B).map F) = true := fun n => cls_mem.mpr fun d hd => by
      obtain ⟨x, hx, rfl⟩ := List.mem_map.mp hd
      obtain ⟨h1, h2⟩ := List.mem_filter.mp hx
      exact hc x (List.mem_of_mem_take h1) h2
    have at0 : ∀ (ys : List D) (E : Sto), (M1 ++ MO.lst ys :: E)[M1.length]? = some (.lst ys) := fun ys E => by
      rw [List.getElem?_append_right (Nat.le_refl _)]; simp
    have okS : ∀ n E, Ok (M1 ++ E) → 0 < E.length → Ok (M1 ++ MO.lst (((ys0.take n).filter B).map F) :: E.drop 1) := fun n E hE hl x hx => by
      have hlen : (M1 ++ MO.lst (((ys0.take n).filter B).map F) :: E.drop 1).length = (M1 ++ E).length := by
        simp; omega
      rw [hlen]
      rcases List.mem_append.mp hx with z | z
      · exact hE x (List.mem_append_left _ z)
      · rcases List.mem_cons.mp z with z | z
        · subst z
          exact cls_mono (by simp) (clAll n)
        · exact hE x (List.mem_append_right _ (List.mem_of_mem_drop z))
    obtain ⟨ys', Me, le, eo, E, eE, oE, hI⟩ := lcO_invG (p := p) (bt := bt) (f := f) (n := M1.length) (δw := wipeD δ vs) (fun i ys M' => ∃ E, M' = M1 ++ MO.lst ys :: E ∧ Ok M' ∧ ys = ((ys0.take i).filter B).map F) e2 (fun i x ys M' hx ⟨E, eE, oE, ey⟩ hn => by
      subst eE
      have hm : x ∈ ys0 := List.mem_of_getElem? hx
      have tk : ys0.take (i + 1) = ys0.take i ++ [x] := by rw [List.take_succ, hx]; rfl
      have ilt : i < ys0.length := (List.getElem?_eq_some_iff.mp hx).1
      refine (h x hm _ oE).mono fun δ1 ⟨h1, h2⟩ => h1.mono fun k M3 ⟨ek, E2, eM, o3⟩ => ?_
      subst eM ek
      by_cases hb : B x = true
      · rw [if_pos hb]
        have e3 : M1 ++ MO.lst ys :: E ++ E2 = M1 ++ (MO.lst ys :: (E ++ E2)) := by simp
        rw [e3] at o3 ⊢
        refine (h2 _ o3 hb).mono fun y M4 ⟨ey4, E4, eM, o4⟩ => ?_
        subst eM ey4
        have e5 : M1 ++ MO.lst ys :: (E ++ E2) ++ E4 = M1 ++ (MO.lst ys :: (E ++ E2 ++ E4)) := by simp
        rw [e5] at o4 ⊢
        have ey5 : ys ++ [F x] = ((ys0.take (i + 1)).filter B).map F := by
          rw [tk, List.filter_append, List.map_append, ← ey]
          simp [hb]
        refine ⟨at0 _ _, ?_, E ++ E2 ++ E4, ?_, ?_, ey5⟩
        · subst ey
          have : (((ys0.take i).filter B).map F).length ≤ i := by
            rw [List.length_map]
            exact Nat.le_trans (List.length_filter_le _ _) (List.length_take_le _ _)
          omega
        · rw [List.set_append_right _ _ (Nat.le_refl _), Nat.sub_self]; rfl
        · rw [List.set_append_right _ _ (Nat.le_refl _), Nat.sub_self, ey5]
          exact okS (i + 1) _ o4 (by simp)
      · rw [if_neg hb]
        have e3 : M1 ++ MO.lst ys :: E ++ E2 = M1 ++ (MO.lst ys :: (E ++ E2)) := by simp
        rw [e3] at o3 ⊢
        refine ⟨at0 _ _, E ++ E2, rfl, o3, ?_⟩
        rw [tk, List.filter_append, List.map_append, ey]
        simp [hb]) q.1 0 [] (M1 ++ [MO.lst []]) (by omega) ⟨[], rfl, by
          intro x hx
          rcases List.mem_append.mp hx with z | z
          · exact clM_mono (by simp) (hM x z)
          · rw [List.mem_singleton] at z; subst z; rfl, by simp⟩ (at0 [] [])
    simp only [eo]
    rw [w_trim]
    rw [List.take_length] at hI
    subst hI
    show Sm _ _
    subst eE
    have hfin := clAll ys0.length
    rw [List.take_length] at hfin
    exact trim_lst hM (Nat.le_refl _) (at0 _ _) hfin hQ
/-- {k: v for ..}: over a store that stays -/
theorem w_dcM (xs : List D) (F : D → Key × D) (hl : xs.length < sizeLine) (hi : Wi (fi δ M) (fun ys M1 => ys = xs ∧ M1 = M) X)
    (h : ∀ x ∈ xs, ∀ kvs : List (Key × D), Sm (setPt (M ++ [.dK kvs]) p x (wipeD δ vs)) fun δ1 => Wp (bt δ1 (M ++ [.dK kvs])) (fun k M3 => k = true ∧ M3 = M ++ [.dK kvs]) X0 ∧ Wp (fk δ1 (M ++ [.dK kvs])) (fun y M3 => keyD y = some (F x).1 ∧ M3 = M ++ [.dK kvs]) X0 ∧ Wp (fv δ1 (M ++ [.dK kvs])) (fun y M3 => y = (F x).2 ∧ M3 = M ++ [.dK kvs]) X0)
    (hQ : Q (.ref M.length) (M ++ [.dK (xs.foldl (fun acc x => putG acc (F x).1 (F x).2) [])])) : Wp (eDcM fi p bt fk fv vs δ M) Q X := by with_unfolding_all
  unfold eDcM
  cases e : fi δ M with
  | stuck => rw [e] at hi; exact hi
  | exc C fs M' => rw [e] at hi; exact hi
  | ok q M1 =>
    rw [e] at hi
    replace hi := wp_ok.mp hi
    obtain ⟨ys0, e1, e2, rfl, rfl⟩ := hi
    have len : ∀ (kvs : List (Key × D)) (k : Key) (v : D), (putG kvs k v).length ≤ kvs.length + 1 := fun kvs k v => by
      unfold putG
      split
      · rw [List.length_map]; omega
      · rw [List.length_append]; simp
    have key : ∀ r i kvs, i + r = ys0.length → kvs.length ≤ i → dcO q.2 p bt fk fv M1.length (wipeD δ vs) r i (M1 ++ [.dK kvs]) = .ok (.ref M1.length) (M1 ++ [.dK ((ys0.drop i).foldl (fun acc x => putG acc (F x).1 (F x).2) kvs)]) := by
      intro r
      induction r with
      | zero =>
        intro i kvs hir _
        unfold dcO
        rw [e2, List.getElem?_eq_none (by omega)]
        rw [List.drop_eq_nil_of_le (by omega)]; rfl
      | succ r ih =>
        intro i kvs hir hk
        have hi : i < ys0.length := by omega
        have hx : ys0[i]? = some ys0[i] := List.getElem?_eq_getElem hi
        obtain ⟨δ1, es, h1, h2, h3⟩ := (h ys0[i] (List.getElem_mem hi) kvs).get
        unfold dcO
        rw [e2, hx]
        simp only [es]
        cases eb : bt δ1 (M1 ++ [MO.dK kvs]) with
        | stuck => rw [eb] at h1; exact h1.elim
        | exc C fs M' => rw [eb] at h1; exact h1.elim
        | ok k M2 =>
          rw [eb] at h1
          obtain ⟨rfl, rfl⟩ := wp_ok.mp h1
          simp only
          cases ek : fk δ1 (M1 ++ [MO.dK kvs]) with
          | stuck => rw [ek] at h2; exact h2.elim
          | exc C fs M' => rw [ek] at h2; exact h2.elim
          | ok y M3 =>
            rw [ek] at h2
            obtain ⟨hy, rfl⟩ := wp_ok.mp h2
            simp only
            cases ev : fv δ1 (M1 ++ [MO.dK kvs]) with
            | stuck => rw [ev] at h3; exact h3.elim
            | exc C fs M' => rw [ev] at h3; exact h3.elim
            | ok z M4 =>
              rw [ev] at h3
              obtain ⟨rfl, rfl⟩ := wp_ok.mp h3
              have at0 : (M1 ++ [MO.dK kvs])[M1.length]? = some (.dK kvs) := by rw [List.getElem?_append_right (Nat.le_refl _)]; simp
              have ep : putI M1.length y (F ys0[i]).2 (M1 ++ [MO.dK kvs]) = some (M1 ++ [.dK (putG kvs (F ys0[i]).1 (F ys0[i]).2)]) := by
                unfold putI
                simp only [hy, at0]
                rw [if_pos (by omega), List.set_append_right _ _ (Nat.le_refl _), Nat.sub_self]; rfl
              simp only [ep]
              rw [ih (i + 1) _ (by omega) (by have := len kvs (F ys0[i]).1 (F ys0[i]).2; omega), List.drop_eq_getElem_cons hi, List.foldl_cons]
    have := key q.1 0 [] (by omega) (by simp)
    simp only [this]
    rw [List.drop_zero]
    exact hQ
end
end L2.MK

end

section
set_option Elab.async false
set_option linter.all false
set_option maxRecDepth 100000
set_option maxHeartbeats 4000000
set_option autoImplicit false
set_option exponentiation.threshold 2000
namespace L2.MK.W_k07
open PySem PySem.Spec PyProof.Rows PySem.W He
abbrev N_Query_places : List Str := ["self", "table", "names"]
def fb_Query_places (K : Frag) : SF :=
    (sRet (eDcM (iSeq (eUn (oFld ["Query"] [] "rest") (eVar 0))) (.tp [(.nm 1), (.nm 2)]) bYes (eVar 1) (eCall gLen (aCons (eVar 2) aNil)) [1, 2]))
def g_Query_places (K : Frag) : List D → Ev D := fun ds M => bodyO (fb_Query_places K (startD N_Query_places ds) M)
abbrev N_Query_head : List Str := ["self"]
def fb_Query_head (K : Frag) : SF :=
    (sRet (eUn (oFld ["Query"] [] "first") (eVar 0)))
def g_Query_head (K : Frag) : List D → Ev D := fun ds M => bodyO (fb_Query_head K (startD N_Query_head ds) M)
abbrev N_law_expected : List Str := ["values", "k", "table", "size", "one"]
def fb_law_expected (K : Frag) : SF :=
    (sSeq (sIf (bOr (bOf (eBin oLt (eCall gLen (aCons (eVar 0) aNil)) (eC (.int 1)))) (bOf (eBin oGt (eCall gLen (aCons (eVar 0) aNil)) (eC (.int 3))))) (sRet (eTup (aCons (eC (.str "queries")) aNil))) sSkip)
    (sSeq (sFor (iArgs wRng1 (aCons (eCall gLen (aCons (eVar 0) aNil)) aNil)) (gN 1) (sIf (bNot (bTru (eCall (gIsi K ["Query", "Union"] ["InvalidQuery", "InvalidUnion", "MarkError"]) (aCons (eBin oIx (eVar 0) (eVar 1)) (aCons (eC (.cls "Query")) aNil))))) (sRet (eTup (aCons (eC (.str "query")) (aCons (eVar 1) aNil)))) sSkip))
    (sSeq (sFor (iArgs wRng1 (aCons (eCall gLen (aCons (eVar 0) aNil)) aNil)) (gN 1) (sIf (bOf (eBin oNe (eCall gLen (aCons (eUnE (evPr [("Query", g_Query_head K)]) (eBin oIx (eVar 0) (eVar 1))) aNil)) (eCall gLen (aCons (eUnE (evPr [("Query", g_Query_head K)]) (eBin oIx (eVar 0) (eC (.int 0)))) aNil)))) (sRet (eTup (aCons (eC (.str "head")) (aCons (eVar 1) aNil)))) sSkip))
    (sSeq (sFor (iArgs wRng1 (aCons (eCall gLen (aCons (eVar 0) aNil)) aNil)) (gN 1) (sFor (iItemsD (eUnE (evPrK [("Query", g_Query_places K)]) (eBin oIx (eVar 0) (eVar 1)))) (gTupD 2 (gConss (gN 2) (gConss (gN 3) gNils))) (sIf (bOf (eBin oNeN (eLc (iSeq (eCut (eVar 0) sNo (sAt (eVar 1)))) (.nm 4) (bOf (eBin oNe (eGet2 (eUnE (evPrK [("Query", g_Query_places K)]) (eVar 4)) (eVar 2) (eVar 3)) (eVar 3))) (eVar 4) [4]) (eLst aNil))) (sRet (eTup (aCons (eC (.str "places")) (aCons (eVar 1) aNil)))) sSkip)))
    (sRet (eC .non))))))
def g_law_expected (K : Frag) : List D → Ev D := fun ds M => bodyO (fb_law_expected K (startD N_law_expected ds) M)
abbrev N_Query_atoms : List Str := ["self"]
def fb_Query_atoms (K : Frag) : SF :=
    (sRet (eUn (oFld ["Query"] [] "rest") (eVar 0)))
def g_Query_atoms (K : Frag) : List D → Ev D := fun ds M => bodyO (fb_Query_atoms K (startD N_Query_atoms ds) M)
abbrev N_key : List Str := ["query"]
def fb_key (K : Frag) : SF :=
    (sRet (eTup (aCons (eUnE (evPr [("Query", g_Query_head K)]) (eVar 0)) (aCons (eUnE (evPr [("Query", g_Query_atoms K)]) (eVar 0)) aNil))))
def g_key (K : Frag) : List D → Ev D := fun ds M => bodyO (fb_key K (startD N_key ds) M)
abbrev N_InvalidQuery__init : List Str := ["self", "reason"]
abbrev N_names_in : List Str := ["atoms", "table", "names", "name"]
def fb_names_in (K : Frag) : SF :=
    (sRet (eSortSc (iSeq (eVar 0)) (.tp [(.nm 1), (.nm 2)]) bYes (iSeq (eVar 2)) (.nm 3) bYes (eVar 3) [1, 2, 3] [3]))
def g_names_in (K : Frag) : List D → Ev D := fun ds M => bodyO (fb_names_in K (startD N_names_in ds) M)
abbrev N_is_name : List Str := ["value", "letter"]
def fb_is_name (K : Frag) : SF :=
    (sRet (eAnd (eCall (gIsi K ["Query", "Union"] ["InvalidQuery", "InvalidUnion", "MarkError"]) (aCons (eVar 0) (aCons (eC (.ty "str")) aNil))) (eAnd (eChain oLe oLe (eC (.int 1)) (eCall gLen (aCons (eVar 0) aNil)) (eC (.int 8))) (eCall gAll (aCons (eLc (iSeq (eVar 0)) (.nm 1) bYes (eBin oIn (eVar 1) (eC (.str "abcdefghijklmnopqrstuvwxyz"))) [1]) aNil)))))
def g_is_name (K : Frag) : List D → Ev D := fun ds M => bodyO (fb_is_name K (startD N_is_name ds) M)
abbrev N_are_names : List Str := ["value", "least", "most", "name"]
def fb_are_names (K : Frag) : SF :=
    (sRet (eAnd (eCall (gIsi K ["Query", "Union"] ["InvalidQuery", "InvalidUnion", "MarkError"]) (aCons (eVar 0) (aCons (eC (.ty "tuple")) aNil))) (eAnd (eChain oLe oLe (eVar 1) (eCall gLen (aCons (eVar 0) aNil)) (eVar 2)) (eCall gAll (aCons (eLc (iSeq (eVar 0)) (.nm 3) bYes (eFun (callT (g_is_name K)) (aCons (eVar 3) aNil)) [3]) aNil)))))
def g_are_names (K : Frag) : List D → Ev D := fun ds M => bodyO (fb_are_names K (startD N_are_names ds) M)
abbrev N_is_atom : List Str := ["value"]
def fb_is_atom (K : Frag) : SF :=
    (sRet (eAnd (eCall (gIsi K ["Query", "Union"] ["InvalidQuery", "InvalidUnion", "MarkError"]) (aCons (eVar 0) (aCons (eC (.ty "tuple")) aNil))) (eAnd (eBin oEq (eCall gLen (aCons (eVar 0) aNil)) (eC (.int 2))) (eAnd (eFun (callT (g_is_name K)) (aCons (eBin oIx (eVar 0) (eC (.int 0))) aNil)) (eFun (callT (g_are_names K)) (aCons (eBin oIx (eVar 0) (eC (.int 1))) (aCons (eC (.int 1)) (aCons (eC (.int 3)) aNil))))))))
def g_is_atom (K : Frag) : List D → Ev D := fun ds M => bodyO (fb_is_atom K (startD N_is_atom ds) M)
abbrev N_query_error : List Str := ["head", "atoms", "k", "atom", "places", "table", "names", "variables", "name"]
def fb_query_error (K : Frag) : SF :=
    (sSeq (sIf (bNot (bTru (eFun (callT (g_are_names K)) (aCons (eVar 0) (aCons (eC (.int 0)) (aCons (eC (.int 3)) aNil)))))) (sRet (eTup (aCons (eC (.str "head")) aNil))) sSkip)
    (sSeq (sIf (bOr (bNot (bTru (eCall (gIsi K ["Query", "Union"] ["InvalidQuery", "InvalidUnion", "MarkError"]) (aCons (eVar 1) (aCons (eTup (aCons (eC (.ty "list")) (aCons (eC (.ty "tuple")) aNil))) aNil))))) (bNot (bOf (eChain oLe oLe (eC (.int 1)) (eCall gLen (aCons (eVar 1) aNil)) (eC (.int 6)))))) (sRet (eTup (aCons (eC (.str "atoms")) aNil))) sSkip)
    (sSeq (sFor (iArgs wEnum (aCons (eVar 1) aNil)) (gTupD 2 (gConss (gN 2) (gConss (gN 3) gNils))) (sIf (bNot (bTru (eFun (callT (g_is_atom K)) (aCons (eVar 3) aNil)))) (sRet (eTup (aCons (eC (.str "atom")) (aCons (eVar 2) aNil)))) sSkip))
    (sSeq (sAsg eDctM (gN 4))
    (sSeq (sFor (iArgs wEnum (aCons (eVar 1) aNil)) (gTupD 2 (gConss (gN 2) (gConss (gTupD 2 (gConss (gN 5) (gConss (gN 6) gNils))) gNils))) (sIf (bOf (eBin oNe (eSetd (eVar 4) (eVar 5) (eCall gLen (aCons (eVar 6) aNil))) (eCall gLen (aCons (eVar 6) aNil)))) (sRet (eTup (aCons (eC (.str "places")) (aCons (eVar 2) aNil)))) sSkip))
    (sSeq (sAsg (eFun (callT (g_names_in K)) (aCons (eVar 1) aNil)) (gN 7))
    (sSeq (sFor (iArgs wEnum (aCons (eVar 0) aNil)) (gTupD 2 (gConss (gN 2) (gConss (gN 8) gNils))) (sIf (bOf (eBin oNotIn (eVar 8) (eVar 7))) (sRet (eTup (aCons (eC (.str "variable")) (aCons (eVar 2) aNil)))) sSkip))
    (sRet (eIf (bOf (eBin oGt (eCall gLen (aCons (eVar 7) aNil)) (eC (.int 5)))) (eTup (aCons (eC (.str "variables")) aNil)) (eC .non))))))))))
def g_query_error (K : Frag) : List D → Ev D := fun ds M => bodyO (fb_query_error K (startD N_query_error ds) M)
abbrev N_Query__init : List Str := ["self", "head", "atoms", "reason"]
def fb_Query__init (K : Frag) : SF :=
    (sSeq (sAsg (eFun (callT (g_query_error K)) (aCons (eVar 1) (aCons (eVar 2) aNil))) (gN 3))
    (sSeq (sIf (bOf (eBin oIsNot (eVar 3) (eC .non))) (sRaise (mkX "InvalidQuery" "reason" (aCons (eVar 3) aNil))) sSkip)
    (sSeq (sFldD ["Query"] "first" (eVar 0) (eVar 1))
    (sFldD ["Query"] "rest" (eVar 0) (eCall gTuple (aCons (eCall gSort (aCons (eVar 2) aNil)) aNil))))))
def g_Query__init (K : Frag) : List D → Ev D := fun ds M => bodyO (fb_Query__init K (startD N_Query__init ds) M)
abbrev N_InvalidUnion__init : List Str := ["self", "reason"]
abbrev N_other_places : List Str := ["known", "query", "table", "number"]
def fb_other_places (K : Frag) : SF :=
    (sRet (eCall gAny (aCons (eLc (iItemsD (eUnE (evPrK [("Query", g_Query_places K)]) (eVar 1))) (.tp [(.nm 2), (.nm 3)]) bYes (eBin oNe (eGet2 (eVar 0) (eVar 2) (eVar 3)) (eVar 3)) [2, 3]) aNil)))
def g_other_places (K : Frag) : List D → Ev D := fun ds M => bodyO (fb_other_places K (startD N_other_places ds) M)
abbrev N_union_error : List Str := ["queries", "k", "query", "known"]
def fb_union_error (K : Frag) : SF :=
    (sSeq (sIf (bNot (bOf (eChain oLe oLe (eC (.int 1)) (eCall gLen (aCons (eVar 0) aNil)) (eC (.int 3))))) (sRet (eTup (aCons (eC (.str "queries")) aNil))) sSkip)
    (sSeq (sFor (iArgs wEnum (aCons (eVar 0) aNil)) (gTupD 2 (gConss (gN 1) (gConss (gN 2) gNils))) (sIf (bNot (bTru (eCall (gIsi K ["Query", "Union"] ["InvalidQuery", "InvalidUnion", "MarkError"]) (aCons (eVar 2) (aCons (eC (.cls "Query")) aNil))))) (sRet (eTup (aCons (eC (.str "query")) (aCons (eVar 1) aNil)))) sSkip))
    (sSeq (sFor (iArgs wEnum (aCons (eVar 0) aNil)) (gTupD 2 (gConss (gN 1) (gConss (gN 2) gNils))) (sIf (bOf (eBin oNe (eCall gLen (aCons (eUnE (evPr [("Query", g_Query_head K)]) (eVar 2)) aNil)) (eCall gLen (aCons (eUnE (evPr [("Query", g_Query_head K)]) (eBin oIx (eVar 0) (eC (.int 0)))) aNil)))) (sRet (eTup (aCons (eC (.str "head")) (aCons (eVar 1) aNil)))) sSkip))
    (sSeq (sAsg eDctM (gN 3))
    (sSeq (sFor (iArgs wEnum (aCons (eVar 0) aNil)) (gTupD 2 (gConss (gN 1) (gConss (gN 2) gNils))) (sSeq (sIf (bTru (eFun (callT (g_other_places K)) (aCons (eVar 3) (aCons (eVar 2) aNil)))) (sRet (eTup (aCons (eC (.str "places")) (aCons (eVar 1) aNil)))) sSkip)
    (sExp (eUpd (eVar 3) (eUnE (evPrK [("Query", g_Query_places K)]) (eVar 2))))))
    (sRet (eC .non)))))))
def g_union_error (K : Frag) : List D → Ev D := fun ds M => bodyO (fb_union_error K (startD N_union_error ds) M)
abbrev N_Union__init : List Str := ["self", "queries", "reason", "head", "atoms", "query"]
def fb_Union__init (K : Frag) : SF :=
    (sSeq (sAsg (eFun (callT (g_union_error K)) (aCons (eVar 1) aNil)) (gN 2))
    (sSeq (sIf (bOf (eBin oIsNot (eVar 2) (eC .non))) (sRaise (mkX "InvalidUnion" "reason" (aCons (eVar 2) aNil))) sSkip)
    (sFldD ["Union"] "members" (eVar 0) (eCall gTuple (aCons (eLc (iSeq (eCall gSort (aCons (eLc (iSeq (eVar 1)) (.nm 5) bYes (eFun (callT (g_key K)) (aCons (eVar 5) aNil)) [5]) aNil))) (.tp [(.nm 3), (.nm 4)]) bYes (eFun (makeT "Query" (g_Query__init K)) (aCons (eVar 3) (aCons (eVar 4) aNil))) [3, 4]) aNil)))))
def g_Union__init (K : Frag) : List D → Ev D := starV 1 fun ds M => bodyO (fb_Union__init K (startD N_Union__init ds) M)
abbrev N_law_make : List Str := ["values"]
def fb_law_make (K : Frag) : SF :=
    (sSeq (sIf (bOf (eBin oEq (eCall gLen (aCons (eVar 0) aNil)) (eC (.int 0)))) (sRet (eFun (makeT "Union" (g_Union__init K)) aNil)) sSkip)
    (sSeq (sIf (bOf (eBin oEq (eCall gLen (aCons (eVar 0) aNil)) (eC (.int 1)))) (sRet (eFun (makeT "Union" (g_Union__init K)) (aCons (eBin oIx (eVar 0) (eC (.int 0))) aNil))) sSkip)
    (sSeq (sIf (bOf (eBin oEq (eCall gLen (aCons (eVar 0) aNil)) (eC (.int 2)))) (sRet (eFun (makeT "Union" (g_Union__init K)) (aCons (eBin oIx (eVar 0) (eC (.int 0))) (aCons (eBin oIx (eVar 0) (eC (.int 1))) aNil)))) sSkip)
    (sSeq (sIf (bOf (eBin oEq (eCall gLen (aCons (eVar 0) aNil)) (eC (.int 3)))) (sRet (eFun (makeT "Union" (g_Union__init K)) (aCons (eBin oIx (eVar 0) (eC (.int 0))) (aCons (eBin oIx (eVar 0) (eC (.int 1))) (aCons (eBin oIx (eVar 0) (eC (.int 2))) aNil))))) sSkip)
    (sRet (eFun (makeT "Union" (g_Union__init K)) (aCons (eBin oIx (eVar 0) (eC (.int 0))) (aCons (eBin oIx (eVar 0) (eC (.int 1))) (aCons (eBin oIx (eVar 0) (eC (.int 2))) (aCons (eBin oIx (eVar 0) (eC (.int 3))) aNil))))))))))
def g_law_make (K : Frag) : List D → Ev D := fun ds M => bodyO (fb_law_make K (startD N_law_make ds) M)
abbrev N_Union__or : List Str := ["self", "other", "queries"]
def fb_Union__or (K : Frag) : SF :=
    (sSeq (sAsg (eBin oAdd (eUn (oFld ["Union"] [] "members") (eVar 0)) (eUn (oFld ["Union"] [] "members") (eVar 1))) (gN 2))
    (sRet (eFun (makeT "Union" (g_Union__init K)) (aStar (eVar 2)))))
def g_Union__or (K : Frag) : List D → Ev D := fun ds M => bodyO (fb_Union__or K (startD N_Union__or ds) M)
abbrev N_law_raised : List Str := ["one", "other", "caught", "e", "made"]
def fb_law_raised (K : Frag) : SF :=
    (sSeq (sAsg (eC .non) (gN 2))
    (sSeq (sTry K (.ref (ga K "MarkError")) 3 (sIf (bTru (eCall (gIsi K ["Query", "Union"] ["InvalidQuery", "InvalidUnion", "MarkError"]) (aCons (eVar 0) (aCons (eC (.ty "list")) aNil)))) (sExp (eFun (callT (g_law_make K)) (aCons (eVar 0) aNil))) (sAsg (eBinO [("Union", g_Union__or K)] (eVar 0) (eVar 1)) (gN 4))) (sAsg (eVar 3) (gN 2)))
    (sSeq (sIf (bAnd (bTru (eCall (gIsi K ["Query", "Union"] ["InvalidQuery", "InvalidUnion", "MarkError"]) (aCons (eVar 2) (aCons (eC (.cls "InvalidUnion")) aNil)))) (bTru (eCall (gIsi K ["Query", "Union"] ["InvalidQuery", "InvalidUnion", "MarkError"]) (aCons (eVar 2) (aCons (eC (.ty "ValueError")) aNil))))) (sRet (eUn (oFld [] ["InvalidQuery", "InvalidUnion"] "reason") (eVar 2))) sSkip)
    (sRet (eVar 2)))))
def g_law_raised (K : Frag) : List D → Ev D := fun ds M => bodyO (fb_law_raised K (startD N_law_raised ds) M)
abbrev N_Union_queries : List Str := ["self"]
def fb_Union_queries (K : Frag) : SF :=
    (sRet (eUn (oFld ["Union"] [] "members") (eVar 0)))
def g_Union_queries (K : Frag) : List D → Ev D := fun ds M => bodyO (fb_Union_queries K (startD N_Union_queries ds) M)
abbrev N_law_draw : List Str := ["source", "limit", "cells", "turn", "place", "cell", "number", "other"]
def fb_law_draw (K : Frag) : SF :=
    (sSeq (sAsg (eVar 0) (gTupD 2 (gConss (gN 2) (gConss (gN 3) gNils))))
    (sSeq (sAsg (eBin oMod (eCall gInt (aCons (eVar 3) aNil)) (eCall gLen (aCons (eVar 2) aNil))) (gN 4))
    (sSeq (sAsg (eBin oIx (eVar 2) (eVar 4)) (gN 5))
    (sSeq (sAsg (eBin oAdd (eVar 3) (eC (.int 1))) (gSubD (eVar 0) (eC (.int 1))))
    (sSeq (sIf (bOf (eBin oGe (eVar 5) (eBin oPow (eC (.int 10)) (eC (.int 18))))) (sSeq (sAsg (eBin oDiv (eVar 5) (eVar 1)) (gSubD (eVar 2) (eVar 4)))
    (sRet (eBin oMod (eCall gInt (aCons (eVar 5) aNil)) (eVar 1)))) sSkip)
    (sSeq (sAsg (eBin oMod (eCall gInt (aCons (eBin oAdd (eBin oAdd (eBin oMul (eBin oMod (eCall gInt (aCons (eVar 5) aNil)) (eC (.int 2147483629))) (eC (.int 48271))) (eBin oMul (eBin oMul (eVar 3) (eVar 3)) (eC (.int 69621)))) (eC (.int 11))) aNil)) (eC (.int 2147483647))) (gN 6))
    (sSeq (sAsg (eBin oMod (eCall gInt (aCons (eBin oMul (eVar 6) (eVar 6)) aNil)) (eC (.int 2147483629))) (gN 6))
    (sSeq (sAsg (eBin oMod (eCall gInt (aCons (eBin oMul (eVar 6) (eVar 6)) aNil)) (eC (.int 2147483587))) (gN 6))
    (sSeq (sIf (bOf (eBin oGt (eVar 1) (eBin oPow (eC (.int 10)) (eC (.int 9))))) (sSeq (sAsg (eBin oMod (eCall gInt (aCons (eBin oAdd (eBin oAdd (eBin oMul (eVar 6) (eC (.int 39373))) (eBin oMul (eVar 3) (eC (.int 7919)))) (eC (.int 500))) aNil)) (eC (.int 2147483629))) (gN 7))
    (sAsg (eBin oMul (eVar 6) (eBin oAdd (eBin oMul (eBin oMul (eVar 7) (eVar 7)) (eVar 7)) (eC (.int 1)))) (gN 6))) sSkip)
    (sRet (eBin oMod (eCall gInt (aCons (eVar 6) aNil)) (eVar 1))))))))))))
def g_law_draw (K : Frag) : List D → Ev D := fun ds M => bodyO (fb_law_draw K (startD N_law_draw ds) M)
abbrev N_law_pick : List Str := ["source", "values"]
def fb_law_pick (K : Frag) : SF :=
    (sRet (eBin oIx (eVar 1) (eFun (callT (g_law_draw K)) (aCons (eVar 0) (aCons (eCall gLen (aCons (eVar 1) aNil)) aNil)))))
def g_law_pick (K : Frag) : List D → Ev D := fun ds M => bodyO (fb_law_pick K (startD N_law_pick ds) M)
abbrev N_law_atoms : List Str := ["source", "shapes", "variables", "most", "found", "k", "table", "size", "j"]
def fb_law_atoms (K : Frag) : SF :=
    (sSeq (sAsg (eLstM aNil) (gN 4))
    (sSeq (sFor (iArgs wRng1 (aCons (eBin oAdd (eC (.int 1)) (eFun (callT (g_law_draw K)) (aCons (eVar 0) (aCons (eVar 3) aNil)))) aNil)) (gN 5) (sSeq (sAsg (eFun (callT (g_law_pick K)) (aCons (eVar 0) (aCons (eVar 1) aNil))) (gTupD 2 (gConss (gN 6) (gConss (gN 7) gNils))))
    (sExp (eMeth "list" gAppend (eVar 4) (aCons (eTup (aCons (eVar 6) (aCons (eCall gTuple (aCons (eLc (iArgs wRng1 (aCons (eVar 7) aNil)) (.nm 8) bYes (eFun (callT (g_law_pick K)) (aCons (eVar 0) (aCons (eVar 2) aNil))) [8]) aNil)) aNil))) aNil)))))
    (sSeq (sIf (bAnd (bOf (eBin oEq (eFun (callT (g_law_draw K)) (aCons (eVar 0) (aCons (eC (.int 3)) aNil))) (eC (.int 0)))) (bOf (eBin oLt (eCall gLen (aCons (eVar 4) aNil)) (eVar 3)))) (sExp (eMeth "list" gAppend (eVar 4) (aCons (eFun (callT (g_law_pick K)) (aCons (eVar 0) (aCons (eVar 4) aNil))) aNil))) sSkip)
    (sRet (eVar 4)))))
def g_law_atoms (K : Frag) : List D → Ev D := fun ds M => bodyO (fb_law_atoms K (startD N_law_atoms ds) M)
abbrev N_law_shuffle : List Str := ["source", "values", "result", "value"]
def fb_law_shuffle (K : Frag) : SF :=
    (sSeq (sAsg (eLstM aNil) (gN 2))
    (sSeq (sFor (iSeq (eVar 1)) (gN 3) (sExp (eMeth "list" gInsert (eVar 2) (aCons (eFun (callT (g_law_draw K)) (aCons (eVar 0) (aCons (eBin oAdd (eCall gLen (aCons (eVar 2) aNil)) (eC (.int 1))) aNil))) (aCons (eVar 3) aNil)))))
    (sRet (eVar 2))))
def g_law_shuffle (K : Frag) : List D → Ev D := fun ds M => bodyO (fb_law_shuffle K (startD N_law_shuffle ds) M)
abbrev N_law_word : List Str := ["source", "size", "k"]
def fb_law_word (K : Frag) : SF :=
    (sRet (eMeth "str" gJoin (eC (.str "")) (aCons (eLc (iArgs wRng1 (aCons (eVar 1) aNil)) (.nm 2) bYes (eBin oIx (eC (.str "abcdefghijklmnopqrstuvwxyz")) (eFun (callT (g_law_draw K)) (aCons (eVar 0) (aCons (eC (.int 26)) aNil)))) [2]) aNil)))
def g_law_word (K : Frag) : List D → Ev D := fun ds M => bodyO (fb_law_word K (startD N_law_word ds) M)
abbrev N_law_variables : List Str := ["source", "most", "names"]
def fb_law_variables (K : Frag) : SF :=
    (sSeq (sAsg (eLst (aCons (eC (.str "x")) (aCons (eC (.str "xy")) (aCons (eC (.str "y")) (aCons (eC (.str "z")) (aCons (eC (.str "eightvar")) (aCons (eC (.str "eightvas")) (aCons (eC (.str "a")) (aCons (eC (.str "b")) (aCons (eFun (callT (g_law_word K)) (aCons (eVar 0) (aCons (eC (.int 5)) aNil))) (aCons (eFun (callT (g_law_word K)) (aCons (eVar 0) (aCons (eC (.int 7)) aNil))) aNil))))))))))) (gN 2))
    (sRet (eCut (eFun (callT (g_law_shuffle K)) (aCons (eVar 0) (aCons (eVar 2) aNil))) sNo (sAt (eBin oAdd (eC (.int 1)) (eFun (callT (g_law_draw K)) (aCons (eVar 0) (aCons (eVar 1) aNil))))))))
def g_law_variables (K : Frag) : List D → Ev D := fun ds M => bodyO (fb_law_variables K (startD N_law_variables ds) M)
abbrev N_law_parts : List Str := ["source", "shapes", "most", "width", "variables", "atoms", "met", "table", "names", "k"]
def fb_law_parts (K : Frag) : SF :=
    (sSeq (sAsg (eFun (callT (g_law_variables K)) (aCons (eVar 0) (aCons (eC (.int 5)) aNil))) (gN 4))
    (sSeq (sAsg (eFun (callT (g_law_atoms K)) (aCons (eVar 0) (aCons (eVar 1) (aCons (eVar 4) (aCons (eVar 2) aNil))))) (gN 5))
    (sSeq (sAsg (eLst aNil) (gN 6))
    (sSeq (sFor (iSeq (eVar 5)) (gTupD 2 (gConss (gN 7) (gConss (gN 8) gNils))) (sAsg (eUn gSetS (eBin oAdd (eVar 6) (eCall gList (aCons (eVar 8) aNil)))) (gN 6)))
    (sRet (eTup (aCons (eCall gTuple (aCons (eLc (iArgs wRng1 (aCons (eVar 3) aNil)) (.nm 9) bYes (eFun (callT (g_law_pick K)) (aCons (eVar 0) (aCons (eVar 6) aNil))) [9]) aNil)) (aCons (eVar 5) aNil))))))))
def g_law_parts (K : Frag) : List D → Ev D := fun ds M => bodyO (fb_law_parts K (startD N_law_parts ds) M)
abbrev N_law_values : List Str := ["source", "shapes", "width", "found", "k", "first", "parts", "table", "size", "other", "odd"]
def fb_law_values (K : Frag) : SF :=
    (sSeq (sAsg (eLstM aNil) (gN 3))
    (sSeq (sFor (iArgs wRng1 (aCons (eFun (callT (g_law_draw K)) (aCons (eVar 0) (aCons (eC (.int 5)) aNil))) aNil)) (gN 4) (sSeq (sAsg (eFun (callT (g_law_parts K)) (aCons (eVar 0) (aCons (eVar 1) (aCons (eC (.int 4)) (aCons (eVar 2) aNil))))) (gTupD 2 (gConss (gN 5) (gConss (gN 6) gNils))))
    (sExp (eMeth "list" gAppend (eVar 3) (aCons (eFun (makeT "Query" (g_Query__init K)) (aCons (eVar 5) (aCons (eVar 6) aNil))) aNil)))))
    (sSeq (sFor (iArgs wRng1 (aCons (eFun (callT (g_law_draw K)) (aCons (eVar 0) (aCons (eC (.int 3)) aNil))) aNil)) (gN 4) (sSeq (sAsg (eFun (callT (g_law_parts K)) (aCons (eVar 0) (aCons (eVar 1) (aCons (eC (.int 3)) (aCons (eFun (callT (g_law_draw K)) (aCons (eVar 0) (aCons (eC (.int 4)) aNil))) aNil))))) (gTupD 2 (gConss (gN 5) (gConss (gN 6) gNils))))
    (sSeq (sAsg (eFun (callT (g_law_pick K)) (aCons (eVar 0) (aCons (eVar 1) aNil))) (gTupD 2 (gConss (gN 7) (gConss (gN 8) gNils))))
    (sSeq (sAsg (eFun (makeT "Query" (g_Query__init K)) (aCons (eBin oMul (eTup (aCons (eC (.str "x")) aNil)) (eFun (callT (g_law_pick K)) (aCons (eVar 0) (aCons (eLst (aCons (eC (.int 0)) (aCons (eVar 2) aNil))) aNil)))) (aCons (eLst (aCons (eTup (aCons (eVar 7) (aCons (eBin oMul (eTup (aCons (eC (.str "x")) aNil)) (eBin oAdd (eC (.int 1)) (eBin oMod (eCall gInt (aCons (eVar 8) aNil)) (eC (.int 3))))) aNil))) aNil)) aNil))) (gN 9))
    (sSeq (sAsg (eLst (aCons (eC .non) (aCons (eC (.int 7)) (aCons (eC (.str "<- e x")) (aCons (eTup (aCons (eVar 5) (aCons (eVar 6) aNil))) (aCons (eVar 9) (aCons (eFun (makeT "Query" (g_Query__init K)) (aCons (eVar 5) (aCons (eVar 6) aNil))) (aCons (eFun (makeT "Query" (g_Query__init K)) (aCons (eVar 5) (aCons (eVar 6) aNil))) aNil)))))))) (gN 10))
    (sSeq (sAsg (eBin oAdd (eVar 10) (eLst (aCons (eFun (makeT "Union" (g_Union__init K)) (aCons (eFun (makeT "Query" (g_Query__init K)) (aCons (eVar 5) (aCons (eVar 6) aNil))) aNil)) (aCons (eLst (aCons (eFun (makeT "Query" (g_Query__init K)) (aCons (eVar 5) (aCons (eVar 6) aNil))) aNil)) (aCons (eTup (aCons (eFun (makeT "Query" (g_Query__init K)) (aCons (eVar 5) (aCons (eVar 6) aNil))) aNil)) (aCons (eLst aNil) (aCons (eTup aNil) (aCons (eLst (aCons (eC .non) aNil)) aNil)))))))) (gN 10))
    (sIf (bOf (eBin oNeN (eVar 3) (eLst aNil))) (sAsg (eFun (callT (g_law_pick K)) (aCons (eVar 0) (aCons (eVar 10) aNil))) (gSubD (eVar 3) (eFun (callT (g_law_draw K)) (aCons (eVar 0) (aCons (eCall gLen (aCons (eVar 3) aNil)) aNil))))) sSkip)))))))
    (sRet (eVar 3)))))
def g_law_values (K : Frag) : List D → Ev D := fun ds M => bodyO (fb_law_values K (startD N_law_values ds) M)
abbrev N_Union__len : List Str := ["self"]
def fb_Union__len (K : Frag) : SF :=
    (sRet (eCall gLen (aCons (eUn (oFld ["Union"] [] "members") (eVar 0)) aNil)))
def g_Union__len (K : Frag) : List D → Ev D := fun ds M => bodyO (fb_Union__len K (startD N_Union__len ds) M)
abbrev N_law_shapes : List Str := ["source", "shapes"]
def fb_law_shapes (K : Frag) : SF :=
    (sSeq (sAsg (eLst (aCons (eTup (aCons (eC (.str "e")) (aCons (eC (.int 2)) aNil))) (aCons (eTup (aCons (eC (.str "f")) (aCons (eC (.int 1)) aNil))) (aCons (eTup (aCons (eC (.str "g")) (aCons (eC (.int 3)) aNil))) (aCons (eTup (aCons (eFun (callT (g_law_word K)) (aCons (eVar 0) (aCons (eC (.int 4)) aNil))) (aCons (eC (.int 2)) aNil))) (aCons (eTup (aCons (eC (.str "edgeofit")) (aCons (eC (.int 2)) aNil))) aNil)))))) (gN 1))
    (sRet (eCut (eFun (callT (g_law_shuffle K)) (aCons (eVar 0) (aCons (eVar 1) aNil))) sNo (sAt (eBin oAdd (eC (.int 1)) (eFun (callT (g_law_draw K)) (aCons (eVar 0) (aCons (eC (.int 3)) aNil))))))))
def g_law_shapes (K : Frag) : List D → Ev D := fun ds M => bodyO (fb_law_shapes K (startD N_law_shapes ds) M)
abbrev N_law_source : List Str := ["script", "cells", "k"]
def fb_law_source (K : Frag) : SF :=
    (sSeq (sAsg (eCutM (eVar 0) sNo (sAt (eC (.int 63)))) (gN 1))
    (sSeq (sFor (iArgs wRng1 (aCons (eCall gLen (aCons (eVar 1) aNil)) aNil)) (gN 2) (sIf (bOf (eBin oGe (eCall gAbs (aCons (eBin oIx (eVar 1) (eVar 2)) aNil)) (eBin oPow (eC (.int 10)) (eC (.int 18))))) (sAsg (eBin oMod (eCall gInt (aCons (eBin oIx (eVar 1) (eVar 2)) aNil)) (eBin oPow (eBin oPow (eC (.int 10)) (eC (.int 60))) (eC (.int 20)))) (gSubD (eVar 1) (eVar 2))) sSkip))
    (sSeq (sIf (bOf (eBin oEq (eVar 1) (eLst aNil))) (sAsg (eLstM (aCons (eC (.int 0)) aNil)) (gN 1)) sSkip)
    (sRet (eLstM (aCons (eVar 1) (aCons (eC (.int 0)) aNil)))))))
def g_law_source (K : Frag) : List D → Ev D := fun ds M => bodyO (fb_law_source K (startD N_law_source ds) M)
abbrev N_law : List Str := ["script", "source", "repeat", "shapes", "width", "values", "others", "one", "due", "other"]
def fb_law (K : Frag) : SF :=
    (sSeq (sAsg (eFun (callK (g_law_source K)) (aCons (eVar 0) aNil)) (gN 1))
    (sSeq (sFor (iArgs wRng1 (aCons (eC (.int 20)) aNil)) (gN 2) (sSeq (sAsg (eFun (callT (g_law_shapes K)) (aCons (eVar 1) aNil)) (gN 3))
    (sSeq (sAsg (eFun (callT (g_law_draw K)) (aCons (eVar 1) (aCons (eC (.int 4)) aNil))) (gN 4))
    (sSeq (sAsg (eFun (callT (g_law_values K)) (aCons (eVar 1) (aCons (eVar 3) (aCons (eVar 4) aNil)))) (gN 5))
    (sSeq (sIf (bOf (eBin oNe (eFun (callT (g_law_raised K)) (aCons (eVar 5) (aCons (eC .non) aNil))) (eFun (callT (g_law_expected K)) (aCons (eVar 5) aNil)))) (sRet (eC (.bl false))) sSkip)
    (sSeq (sIf (bOf (eBin oIs (eFun (callT (g_law_expected K)) (aCons (eVar 5) aNil)) (eC .non))) (sSeq (sAsg (eFun (callT (g_law_make K)) (aCons (eVar 5) aNil)) (gN 7))
    (sSeq (sAsg (eFun (callT (g_law_expected K)) (aCons (eBin oMul (eCall gList (aCons (eUnE (evPr [("Union", g_Union_queries K)]) (eVar 7)) aNil)) (eC (.int 2))) aNil)) (gN 8))
    (sIf (bOr (bOf (eBin oNe (eFun (callT (g_law_raised K)) (aCons (eVar 7) (aCons (eVar 7) aNil))) (eVar 8))) (bAnd (bOf (eBin oIs (eVar 8) (eC .non))) (bOf (eBin oNe (eCallE (gLenE [("Union", g_Union__len K)]) (aCons (eBinO [("Union", g_Union__or K)] (eVar 7) (eVar 7)) aNil)) (eBin oMul (eC (.int 2)) (eCallE (gLenE [("Union", g_Union__len K)]) (aCons (eVar 7) aNil))))))) (sRet (eC (.bl false))) sSkip))) sSkip)
    (sSeq (sAsg (eFun (callT (g_law_values K)) (aCons (eVar 1) (aCons (eVar 3) (aCons (eFun (callT (g_law_pick K)) (aCons (eVar 1) (aCons (eLst (aCons (eVar 4) (aCons (eVar 4) (aCons (eFun (callT (g_law_draw K)) (aCons (eVar 1) (aCons (eC (.int 4)) aNil))) aNil)))) aNil))) aNil)))) (gN 6))
    (sIf (bAnd (bOf (eBin oIs (eFun (callT (g_law_expected K)) (aCons (eVar 5) aNil)) (eC .non))) (bOf (eBin oIs (eFun (callT (g_law_expected K)) (aCons (eVar 6) aNil)) (eC .non)))) (sSeq (sPar 7 9 (aCons (eFun (callT (g_law_make K)) (aCons (eVar 5) aNil)) (aCons (eFun (callT (g_law_make K)) (aCons (eVar 6) aNil)) aNil)))
    (sIf (bOf (eBin oNe (eFun (callT (g_law_raised K)) (aCons (eVar 7) (aCons (eVar 9) aNil))) (eFun (callT (g_law_expected K)) (aCons (eBin oAdd (eCall gList (aCons (eUnE (evPr [("Union", g_Union_queries K)]) (eVar 7)) aNil)) (eCall gList (aCons (eUnE (evPr [("Union", g_Union_queries K)]) (eVar 9)) aNil))) aNil)))) (sRet (eC (.bl false))) sSkip)) sSkip))))))))
    (sRet (eC (.bl true)))))
def g_law (K : Frag) : List D → Ev D := fun ds M => bodyO (fb_law K (startD N_law ds) M)
/-- what the classes are -/
structure Kf (K : Frag) : Prop where
  q_NoneType_Query : kitOne K (.type "NoneType") (.ref (ga K "Query")) = some false
  q_bool_Query : kitOne K (.type "bool") (.ref (ga K "Query")) = some false
  q_int_Query : kitOne K (.type "int") (.ref (ga K "Query")) = some false
  q_str_Query : kitOne K (.type "str") (.ref (ga K "Query")) = some false
  q_tuple_Query : kitOne K (.type "tuple") (.ref (ga K "Query")) = some false
  q_list_Query : kitOne K (.type "list") (.ref (ga K "Query")) = some false
  q_dict_Query : kitOne K (.type "dict") (.ref (ga K "Query")) = some false
  q_Union_Query : kitOne K (.ref (ga K "Union")) (.ref (ga K "Query")) = some false
  q_InvalidQuery_Query : kitOne K (.ref (ga K "InvalidQuery")) (.ref (ga K "Query")) = some false
  q_InvalidUnion_Query : kitOne K (.ref (ga K "InvalidUnion")) (.ref (ga K "Query")) = some false
  q_MarkError_Query : kitOne K (.ref (ga K "MarkError")) (.ref (ga K "Query")) = some false
  q_Query_ValueError : kitOne K (.ref (ga K "Query")) (.type "ValueError") = some false
  q_Union_ValueError : kitOne K (.ref (ga K "Union")) (.type "ValueError") = some false
  q_InvalidQuery_ValueError : kitOne K (.ref (ga K "InvalidQuery")) (.type "ValueError") = some true
  q_InvalidUnion_ValueError : kitOne K (.ref (ga K "InvalidUnion")) (.type "ValueError") = some true
  q_MarkError_ValueError : kitOne K (.ref (ga K "MarkError")) (.type "ValueError") = some true
  q_NoneType_InvalidUnion : kitOne K (.type "NoneType") (.ref (ga K "InvalidUnion")) = some false
  q_bool_InvalidUnion : kitOne K (.type "bool") (.ref (ga K "InvalidUnion")) = some false
  q_int_InvalidUnion : kitOne K (.type "int") (.ref (ga K "InvalidUnion")) = some false
  q_str_InvalidUnion : kitOne K (.type "str") (.ref (ga K "InvalidUnion")) = some false
  q_tuple_InvalidUnion : kitOne K (.type "tuple") (.ref (ga K "InvalidUnion")) = some false
  q_list_InvalidUnion : kitOne K (.type "list") (.ref (ga K "InvalidUnion")) = some false
  q_dict_InvalidUnion : kitOne K (.type "dict") (.ref (ga K "InvalidUnion")) = some false
  q_Query_InvalidUnion : kitOne K (.ref (ga K "Query")) (.ref (ga K "InvalidUnion")) = some false
  q_Union_InvalidUnion : kitOne K (.ref (ga K "Union")) (.ref (ga K "InvalidUnion")) = some false
  q_InvalidQuery_InvalidUnion : kitOne K (.ref (ga K "InvalidQuery")) (.ref (ga K "InvalidUnion")) = some false
  q_MarkError_InvalidUnion : kitOne K (.ref (ga K "MarkError")) (.ref (ga K "InvalidUnion")) = some false
  e_InvalidQuery_MarkError : exmOne K (.ref (ga K "InvalidQuery")) (.ref (ga K "MarkError")) = some true
  e_InvalidUnion_MarkError : exmOne K (.ref (ga K "InvalidUnion")) (.ref (ga K "MarkError")) = some true
  e_MarkError_MarkError : exmOne K (.ref (ga K "MarkError")) (.ref (ga K "MarkError")) = some true
  q_Query_list : kitOne K (.ref (ga K "Query")) (.type "list") = some false
  q_Union_list : kitOne K (.ref (ga K "Union")) (.type "list") = some false
  q_InvalidQuery_list : kitOne K (.ref (ga K "InvalidQuery")) (.type "list") = some false
  q_InvalidUnion_list : kitOne K (.ref (ga K "InvalidUnion")) (.type "list") = some false
  q_MarkError_list : kitOne K (.ref (ga K "MarkError")) (.type "list") = some false
  q_Query_str : kitOne K (.ref (ga K "Query")) (.type "str") = some false
  q_Union_str : kitOne K (.ref (ga K "Union")) (.type "str") = some false
  q_InvalidQuery_str : kitOne K (.ref (ga K "InvalidQuery")) (.type "str") = some false
  q_InvalidUnion_str : kitOne K (.ref (ga K "InvalidUnion")) (.type "str") = some false
  q_MarkError_str : kitOne K (.ref (ga K "MarkError")) (.type "str") = some false
  q_Query_tuple : kitOne K (.ref (ga K "Query")) (.type "tuple") = some false
  q_Union_tuple : kitOne K (.ref (ga K "Union")) (.type "tuple") = some false
  q_InvalidQuery_tuple : kitOne K (.ref (ga K "InvalidQuery")) (.type "tuple") = some false
  q_InvalidUnion_tuple : kitOne K (.ref (ga K "InvalidUnion")) (.type "tuple") = some false
  q_MarkError_tuple : kitOne K (.ref (ga K "MarkError")) (.type "tuple") = some false
  any : True
end L2.MK.W_k07

end

section
set_option Elab.async false
set_option linter.all false
set_option maxRecDepth 100000
set_option maxHeartbeats 2000000
set_option autoImplicit false
set_option exponentiation.threshold 2000
namespace L2.MK.W_k07
local macro_rules
  | `(tactic| decreasing_trivial) => `(tactic| try simp only [w_bind, w_pure, w_pure', w_opt, w_var, w_C, w_bin, w_un, w_call, w_fun, w_nil, w_cons, w_tup, w_lst, w_lstM, w_dctM, w_isBl, w_bTru, w_bOf, w_and, w_or, w_not, wb_and, wb_or, wb_not, wb_yes, w_if, w_chain, w_cut, w_cutM, w_sNo, w_isI, w_sAt, w_meth, w_setd,
  ws_skip, ws_seq, ws_exp, ws_ret, ws_retN, ws_if, ws_asg, ws_gN, ws_gNils, ws_gConss, ws_gTup, ws_gSub, ws_raise, ws_try, ws_noRet, sm_some,
  startD, List.map_cons, List.map_nil, List.length_cons, List.length_nil, List.replicate, List.cons_append, List.nil_append, List.getElem?_cons_zero, List.getElem?_cons_succ, List.set_cons_zero, List.set_cons_succ, Option.join_some, Option.join_none, Nat.reduceAdd, Nat.reduceSub, Nat.add_zero, Nat.zero_add,
  sqD_lst, sqD_tup, sqD_rol, gLen_lst, gLen_tup, gInt_int, gInt_bl, gAbs_int, oAdd_int, oSub_int, oLt_int, oLe_int, oGt_int, oGe_int, oIx_lst, oIx_tup, oEq_int, oNe_int, true_and, and_true, true_implies, seqF_lst, seqF_tup, seqF_str, sqF_lst, sqF_tup, truD_bl, isStr, isTupB, isLst, ↓reduceIte, Bool.false_eq_true, Bool.not_true, Bool.not_false, setPt_nm, setPt_tp, setPts_nil, setPts_cons, wipeD_nil, wipeD_cons])
open PySem PySem.Spec PyProof.Rows PySem.W He
section
variable {K : Frag} {M : Sto} {Q : D → Sto → Prop} {X : XP}
def wordsB (a b : Nat) : D → Bool
  | .tup xs => decide (a ≤ xs.length) && (decide (xs.length ≤ b) && xs.all wordB)
  | _ => false
def atomB : D → Bool
  | .tup [t, ns] => wordB t && wordsB 1 3 ns
  | _ => false
theorem wordsB_tup {a b : Nat} {xs : List D} : wordsB a b (.tup xs) = (decide (a ≤ xs.length) && (decide (xs.length ≤ b) && xs.all wordB)) := rfl
theorem w_is_name {d : D} (hM : Ok M) (hd : dOk d = true) (hb : dBk d ≤ 2 ^ 20) (q : Q (.bl (wordB d)) M) : Wp (callT (g_is_name K) [d] M) Q X := by
  refine call_is (r := .bl (wordB d)) hM rfl ?_ q
  unfold g_is_name
  rw [w_body]
  unfold fb_is_name
  decreasing_trivial
  rw [gIsi_str hd]
  cases d with
  | str z =>
    have hz : z.cps.size ≤ 2 ^ 20 := hb
    decreasing_trivial
    rw [gLen_str hz, wordB_str]
    decreasing_trivial
    by_cases h1 : 1 ≤ z.cps.size
    · rw [if_pos (decide_eq_true (by omega))]
      by_cases h2 : z.cps.size ≤ 8
      · rw [if_pos (decide_eq_true (by omega))]
        refine w_lcP (charsD z) (fun _ => true) (fun d => .bl (inAbc (chr d))) hM (pre_chars z h2) ?_ ?_ (fun x hx _ => rfl) ?_
        · refine wi_seq ?_
          decreasing_trivial
          (all_goals first | done | trivial | rfl | exact ⟨rfl, rfl⟩ | exact ⟨trivial, trivial⟩ | exact ⟨rfl, [], by simp⟩ | exact ⟨[], by simp⟩)
        · intro x hx M2 hM2
          obtain ⟨c, rfl, hc⟩ := mem_chars hx
          decreasing_trivial
          have e := inAbc_ok (M := M2) c
          rw [show oIn (.str ⟨#[c]⟩) (.str "abcdefghijklmnopqrstuvwxyz") M2 = _ from e, sm_some]
          (all_goals first | done | trivial | rfl | exact ⟨rfl, rfl⟩ | exact ⟨trivial, trivial⟩ | exact ⟨rfl, [], by simp⟩ | exact ⟨[], by simp⟩)
        · have e : (List.filter (fun _ => true) (charsD z)).map (fun d => D.bl (inAbc (chr d))) = (z.cps.toList.map inAbc).map D.bl := by
            rw [filter_yes]; unfold charsD; rw [List.map_map, List.map_map]; rfl
          rw [e, gAll_bls, sm_some]
          refine ⟨?_, [], by simp⟩
          rw [decide_eq_true h1, decide_eq_true h2, List.all_map]
          rfl
      · rw [if_neg (by simp; omega)]
        refine ⟨?_, [], by simp⟩
        rw [decide_eq_false h2, decide_eq_false (by omega)]
        simp
    · rw [if_neg (by simp; omega)]
      refine ⟨?_, [], by simp⟩
      rw [decide_eq_false h1]; rfl
  | _ =>
    decreasing_trivial
    (all_goals first | done | trivial | rfl | exact ⟨rfl, rfl⟩ | exact ⟨trivial, trivial⟩ | exact ⟨rfl, [], by simp⟩ | exact ⟨[], by simp⟩)
theorem w_are_names {d : D} {a b : Nat} (hM : Ok M) (hd : dOk d = true) (hb : dBk d ≤ 2 ^ 20) (q : Q (.bl (wordsB a b d)) M) : Wp (callT (g_are_names K) [d, .int a, .int b] M) Q X := by
  refine call_is (r := .bl (wordsB a b d)) hM rfl ?_ q
  unfold g_are_names
  rw [w_body]
  unfold fb_are_names
  decreasing_trivial
  rw [gIsi_tup hd]
  cases d with
  | tup xs =>
    have hx : dOks xs = true := hd
    have hk : dBks xs ≤ 2 ^ 20 := hb
    have hl := dBks_len xs
    decreasing_trivial
    rw [wordsB_tup]
    by_cases h1 : a ≤ xs.length
    · rw [if_pos (decide_eq_true (by omega))]
      by_cases h2 : xs.length ≤ b
      · rw [if_pos (decide_eq_true (by omega))]
        refine w_lcP xs (fun _ => true) (fun d => .bl (wordB d)) hM (by rw [sz]; omega) ?_ ?_ (fun x hx _ => rfl) ?_
        · refine wi_seq ?_
          decreasing_trivial
          (all_goals first | done | trivial | rfl | exact ⟨rfl, rfl⟩ | exact ⟨trivial, trivial⟩ | exact ⟨rfl, [], by simp⟩ | exact ⟨[], by simp⟩)
        · intro x hxm M2 hM2
          decreasing_trivial
          exact w_is_name hM2 (dOks_mem.mp hx x hxm) (Nat.le_trans (dBks_mem hxm) hk) ⟨rfl, rfl⟩
        · have e : (List.filter (fun _ => true) xs).map (fun d => D.bl (wordB d)) = (xs.map wordB).map D.bl := by
            rw [filter_yes, List.map_map]; rfl
          rw [e, gAll_bls, sm_some]
          refine ⟨?_, [], by simp⟩
          rw [decide_eq_true h1, decide_eq_true h2, List.all_map]
          rfl
      · rw [if_neg (by simp; omega)]
        refine ⟨?_, [], by simp⟩
        rw [decide_eq_false h2, decide_eq_false (by omega)]
        simp
    · rw [if_neg (by simp; omega)]
      refine ⟨?_, [], by simp⟩
      rw [decide_eq_false h1]; rfl
  | _ =>
    decreasing_trivial
    (all_goals first | done | trivial | rfl | exact ⟨rfl, rfl⟩ | exact ⟨trivial, trivial⟩ | exact ⟨rfl, [], by simp⟩ | exact ⟨[], by simp⟩)
theorem w_is_atom {d : D} (hM : Ok M) (hd : dOk d = true) (hb : dBk d ≤ 2 ^ 20) (q : Q (.bl (atomB d)) M) : Wp (callT (g_is_atom K) [d] M) Q X := by
  refine call_is (r := .bl (atomB d)) hM rfl ?_ q
  unfold g_is_atom
  rw [w_body]
  unfold fb_is_atom
  decreasing_trivial
  rw [gIsi_tup hd]
  cases d with
  | tup xs =>
    have hx : dOks xs = true := hd
    have hk : dBks xs ≤ 2 ^ 20 := hb
    decreasing_trivial
    match xs, hx, hk with
    | [], _, _ => rw [if_neg (by simp)]; exact ⟨rfl, [], by simp⟩
    | [_], _, _ => rw [if_neg (by simp)]; exact ⟨rfl, [], by simp⟩
    | _ :: _ :: _ :: r, _, _ =>
      rw [if_neg (by simp; omega)]
      refine ⟨?_, [], by simp⟩
      rw [decide_eq_false (by simp; omega)]; rfl
    | [x, y], hx, hk =>
      have o1 := dOks_mem.mp hx x (by simp)
      have o2 := dOks_mem.mp hx y (by simp)
      have b1 := dBks_mem (x := x) (xs := [x, y]) (by simp)
      have b2 := dBks_mem (x := y) (xs := [x, y]) (by simp)
      rw [if_pos (by rfl)]
      decreasing_trivial
      rw [atI0, sm_some]
      refine w_is_name hM o1 (by omega) ?_
      decreasing_trivial
      by_cases h1 : wordB x = true
      · rw [if_pos h1]
        decreasing_trivial
        rw [atI1, sm_some]
        refine w_are_names (a := 1) (b := 3) hM o2 (by omega) ⟨?_, [], by simp⟩
        show _ = D.bl (wordB x && wordsB 1 3 y)
        rw [h1]; rfl
      · rw [if_neg h1]
        refine ⟨?_, [], by simp⟩
        show _ = D.bl (wordB x && wordsB 1 3 y)
        rw [Bool.eq_false_iff.mpr h1]; rfl
  | _ =>
    decreasing_trivial
    (all_goals first | done | trivial | rfl | exact ⟨rfl, rfl⟩ | exact ⟨trivial, trivial⟩ | exact ⟨rfl, [], by simp⟩ | exact ⟨[], by simp⟩)
/-! the law's own -/
end
end L2.MK.W_k07

end

section
set_option Elab.async false
set_option linter.all false
set_option maxRecDepth 100000
set_option maxHeartbeats 2000000
set_option autoImplicit false
set_option exponentiation.threshold 2000
namespace L2.MK.W_k07
local macro_rules
  | `(tactic| decreasing_trivial) => `(tactic| try simp only [w_bind, w_pure, w_pure', w_opt, w_var, w_C, w_bin, w_un, w_call, w_fun, w_nil, w_cons, w_tup, w_lst, w_lstM, w_dctM, w_isBl, w_bTru, w_bOf, w_and, w_or, w_not, wb_and, wb_or, wb_not, wb_yes, w_if, w_chain, w_cut, w_cutM, w_sNo, w_isI, w_sAt, w_meth, w_setd,
  ws_skip, ws_seq, ws_exp, ws_ret, ws_retN, ws_if, ws_asg, ws_gN, ws_gNils, ws_gConss, ws_gTup, ws_gSub, ws_raise, ws_try, ws_noRet, sm_some,
  startD, List.map_cons, List.map_nil, List.length_cons, List.length_nil, List.replicate, List.cons_append, List.nil_append, List.getElem?_cons_zero, List.getElem?_cons_succ, List.set_cons_zero, List.set_cons_succ, Option.join_some, Option.join_none, Nat.reduceAdd, Nat.reduceSub, Nat.add_zero, Nat.zero_add,
  sqD_lst, sqD_tup, sqD_rol, gLen_lst, gLen_tup, gInt_int, gInt_bl, gAbs_int, oAdd_int, oSub_int, oLt_int, oLe_int, oGt_int, oGe_int, oIx_lst, oIx_tup, oEq_int, oNe_int, true_and, and_true, true_implies, seqF_lst, seqF_tup, seqF_str, sqF_lst, sqF_tup, truD_bl, isStr, isTupB, isLst, ↓reduceIte, Bool.false_eq_true, Bool.not_true, Bool.not_false, setPt_nm, setPt_tp, setPts_nil, setPts_cons, wipeD_nil, wipeD_cons])
open PySem PySem.Spec PyProof.Rows PySem.W He
section
variable {K : Frag} {M : Sto} {Q : D → Sto → Prop} {X : XP}
def tblS : D → Str
  | .tup (.str t :: _) => t
  | _ => ""
def nmsD : D → List D
  | .tup [_, .tup ns] => ns
  | _ => []
def nmsS (d : D) : List Str := (nmsD d).map strOf
def badP (xs : List D) (k : Nat) : Bool := (xs.take k).any fun y => decide (tblS y = tblS (atD xs k)) && !decide ((nmsD y).length = (nmsD (atD xs k)).length)
def vars (xs : List D) : List Str := sortU (xs.flatMap nmsS)
def tupL : D → List D
  | .tup xs => xs
  | _ => []
def qerr (first parts : D) : D :=
  if wordsB 0 3 first = true then
    match sqF parts with
    | some xs => if 1 ≤ xs.length ∧ xs.length ≤ 6 then
        match firstK (fun k => !atomB (atD xs k)) xs.length with
        | some k => .tup [.str "atom", .int (k : Nat)]
        | none => match firstK (badP xs) xs.length with
          | some k => .tup [.str "places", .int (k : Nat)]
          | none => match firstK (fun k => !(vars xs).contains (strOf (atD (tupL first) k))) (tupL first).length with
            | some k => .tup [.str "variable", .int (k : Nat)]
            | none => if 5 < (vars xs).length then .tup [.str "variables"] else .non
      else .tup [.str "atoms"]
    | none => .tup [.str "atoms"]
  else .tup [.str "head"]
theorem qerr_ok (first parts : D) : dOk (qerr first parts) = true ∧ dDep (qerr first parts) ≤ 1 := by
  unfold qerr
  have h : ∀ (s : Str) (k : Nat), k ≤ 6 → (s.cps.toList.all fun c => decide (c < 16 ^ 8)) = true → dOk (.tup [.str s, .int (k : Nat)]) = true ∧ dDep (.tup [.str s, .int (k : Nat)]) ≤ 1 := fun s k hk hs => by
    refine ⟨?_, Nat.le_refl _⟩
    show (dOk (.str s) && (dOk (.int (k : Nat)) && true)) = true
    rw [Bool.and_true, Bool.and_eq_true]
    refine ⟨hs, ?_⟩
    show (decide ((-999999999999 : Int) ≤ (k : Nat)) && decide (((k : Nat) : Int) ≤ 999999999999)) = true
    rw [decide_eq_true (by omega), decide_eq_true (by omega)]; rfl
  have fk : ∀ {p : Nat → Bool} {n k : Nat}, firstK p n = some k → k < n := fun e => by
    unfold firstK at e
    rw [List.find?_range_eq_some] at e
    simpa using e.2.1
  split
  · split
    · split
      · rename_i hl
        split
        · rename_i k e; exact h _ k (by have := fk e; omega) (by decide)
        · split
          · rename_i k e; exact h _ k (by have := fk e; omega) (by decide)
          · split
            · rename_i k e
              have hw : wordsB 0 3 first = true := by assumption
              refine h _ k ?_ (by decide)
              have := fk e
              cases first with
              | tup ys =>
                unfold wordsB at hw
                simp only [Bool.and_eq_true, decide_eq_true_eq] at hw
                have : k < ys.length := this
                omega
              | _ => exact absurd this (by simp [tupL])
            · split <;> exact ⟨by decide, by decide⟩
      · exact ⟨by decide, by decide⟩
    · exact ⟨by decide, by decide⟩
  · exact ⟨by decide, by decide⟩
/-- what an atom is -/
theorem atom_shape {d : D} (h : atomB d = true) : ∃ (t : Str) (ns : List Str), d = .tup [.str t, .tup (ns.map .str)] ∧ 1 ≤ ns.length ∧ ns.length ≤ 3 := by
  unfold atomB at h
  split at h
  · rename_i t ns
    obtain ⟨h1, h2⟩ := Bool.and_eq_true_iff.mp h
    unfold wordB at h1
    split at h1
    · unfold wordsB at h2
      split at h2
      · rename_i xs
        simp only [Bool.and_eq_true, decide_eq_true_eq] at h2
        obtain ⟨a, b, c⟩ := h2
        have e : xs = (xs.map strOf).map .str := by
          rw [List.map_map]
          refine (List.map_id xs).symm.trans (List.map_congr_left fun x hx => ?_)
          have := List.all_eq_true.mp c x hx
          unfold wordB at this
          split at this
          · rfl
          · cases this
        exact ⟨_, xs.map strOf, by rw [← e], by simpa using a, by simpa using b⟩
      · cases h2
    · cases h1
  · cases h
theorem words_shape {a b : Nat} {d : D} (h : wordsB a b d = true) : ∃ ns : List Str, d = .tup (ns.map .str) ∧ ns.length ≤ b := by
  unfold wordsB at h
  split at h
  · rename_i xs
    simp only [Bool.and_eq_true, decide_eq_true_eq] at h
    obtain ⟨_, b, c⟩ := h
    have e : xs = (xs.map strOf).map .str := by
      rw [List.map_map]
      refine (List.map_id xs).symm.trans (List.map_congr_left fun x hx => ?_)
      have := List.all_eq_true.mp c x hx
      unfold wordB at this
      split at this
      · rfl
      · cases this
    exact ⟨xs.map strOf, by rw [← e], by simpa using b⟩
  · cases h
theorem nmsS_atom (t : Str) (ns : List Str) : nmsS (.tup [.str t, .tup (ns.map .str)]) = ns := by
  show (ns.map D.str).map strOf = ns
  rw [List.map_map]
  exact List.map_id ns
theorem w_names_in {v : D} {xs : List D} (hM : Ok M) (hv : Sq v xs) (hl : xs.length ≤ 6) (ha : ∀ x ∈ xs, atomB x = true) (q : Q (.lst ((vars xs).map .str)) M) : Wp (callT (g_names_in K) [v] M) Q X := by
  refine call_pure hM ?_
  unfold g_names_in
  rw [w_body]
  unfold fb_names_in
  decreasing_trivial
  have hc : (xs.flatMap nmsS).length ≤ xs.length * 3 := by
    clear q hv hl
    induction xs with
    | nil => simp
    | cons x r ih =>
      obtain ⟨t, ns, rfl, _, h3⟩ := atom_shape (ha x (List.mem_cons_self ..))
      have := ih fun y hy => ha y (List.mem_cons_of_mem _ hy)
      rw [List.flatMap_cons, List.length_append, nmsS_atom, List.length_cons]
      omega
  refine w_sortSc xs nmsS hM (by omega) ?_ (fun x hx M2 => ?_) ⟨[], by simp, ?_, q⟩
  · refine wi_seq ?_
    decreasing_trivial
    rw [hv.seq]
    decreasing_trivial
    (all_goals first | done | trivial | rfl | exact ⟨rfl, rfl⟩ | exact ⟨trivial, trivial⟩ | exact ⟨rfl, [], by simp⟩ | exact ⟨[], by simp⟩)
  · obtain ⟨t, ns, rfl, _, _⟩ := atom_shape (ha x hx)
    rw [nmsS_atom]
    decreasing_trivial
    refine ⟨?_, fun s hs => ?_⟩
    · refine wi_seq ?_
      decreasing_trivial
      (all_goals first | done | trivial | rfl | exact ⟨rfl, rfl⟩ | exact ⟨trivial, trivial⟩ | exact ⟨rfl, [], by simp⟩ | exact ⟨[], by simp⟩)
    · decreasing_trivial
      (all_goals first | done | trivial | rfl | exact ⟨rfl, rfl⟩ | exact ⟨trivial, trivial⟩ | exact ⟨rfl, [], by simp⟩ | exact ⟨[], by simp⟩)
  · exact cls_mem.mpr fun d hd => by
      obtain ⟨s, _, rfl⟩ := List.mem_map.mp hd; rfl
end
end L2.MK.W_k07

end

section
set_option Elab.async false
set_option linter.all false
set_option maxRecDepth 100000
set_option maxHeartbeats 2000000
set_option autoImplicit false
set_option exponentiation.threshold 2000
namespace L2.MK.W_k07
local macro_rules
  | `(tactic| decreasing_trivial) => `(tactic| try simp only [w_bind, w_pure, w_pure', w_opt, w_var, w_C, w_bin, w_un, w_call, w_fun, w_nil, w_cons, w_tup, w_lst, w_lstM, w_dctM, w_isBl, w_bTru, w_bOf, w_and, w_or, w_not, wb_and, wb_or, wb_not, wb_yes, w_if, w_chain, w_cut, w_cutM, w_sNo, w_isI, w_sAt, w_meth, w_setd,
  ws_skip, ws_seq, ws_exp, ws_ret, ws_retN, ws_if, ws_asg, ws_gN, ws_gNils, ws_gConss, ws_gTup, ws_gSub, ws_raise, ws_try, ws_noRet, sm_some,
  startD, List.map_cons, List.map_nil, List.length_cons, List.length_nil, List.replicate, List.cons_append, List.nil_append, List.getElem?_cons_zero, List.getElem?_cons_succ, List.set_cons_zero, List.set_cons_succ, Option.join_some, Option.join_none, Nat.reduceAdd, Nat.reduceSub, Nat.add_zero, Nat.zero_add,
  sqD_lst, sqD_tup, sqD_rol, gLen_lst, gLen_tup, gInt_int, gInt_bl, gAbs_int, oAdd_int, oSub_int, oLt_int, oLe_int, oGt_int, oGe_int, oIx_lst, oIx_tup, oEq_int, oNe_int, true_and, and_true, true_implies, seqF_lst, seqF_tup, seqF_str, sqF_lst, sqF_tup, truD_bl, isStr, isTupB, isLst, ↓reduceIte, Bool.false_eq_true, Bool.not_true, Bool.not_false, setPt_nm, setPt_tp, setPts_nil, setPts_cons, wipeD_nil, wipeD_cons])
open PySem PySem.Spec PyProof.Rows PySem.W He
section
variable {K : Frag} {M : Sto} {Q : D → Sto → Prop} {X : XP}
theorem valG_put_same {κ α : Type} [DecidableEq κ] {k : κ} {v : α} : ∀ {kvs : List (κ × α)}, valG kvs k = none → valG (putG kvs k v) k = some v
  | [], _ => by simp [putG, valG]
  | p :: r, h => by
    have hp : ¬ p.1 = k := fun e => by rw [valG_pos e] at h; cases h
    rw [valG_neg hp] at h
    have : (((p :: r).any fun kv => decide (kv.1 = k)) = true) = False := by
      simp only [eq_iff_iff, iff_false, Bool.not_eq_true]
      rw [List.any_eq_false]
      intro y hy e
      have e := of_decide_eq_true e
      rcases List.mem_cons.mp hy with z | z
      · subst z; exact hp e
      · have : valG r k ≠ none := by
          unfold valG
          rw [Ne, Option.map_eq_none_iff, List.find?_eq_none]
          exact fun q => q y z (decide_eq_true e)
        exact this h
    unfold putG
    rw [if_neg (by rw [this]; exact id)]
    have : ∀ l : List (κ × α), valG l k = none → valG (l ++ [(k, v)]) k = some v := fun l => by
      induction l with
      | nil => intro _; simp [valG]
      | cons a l ih =>
        intro h
        by_cases e : a.1 = k
        · rw [valG_pos e] at h; cases h
        · rw [valG_neg e] at h
          rw [List.cons_append, valG_neg e]
          exact ih h
    exact this (p :: r) (by rw [valG_neg hp]; exact h)
theorem putG_new {κ α : Type} [DecidableEq κ] {k : κ} {v : α} {kvs : List (κ × α)} (h : valG kvs k = none) : putG kvs k v = kvs ++ [(k, v)] := by
  unfold putG
  rw [if_neg]
  intro z
  obtain ⟨y, hy, e⟩ := List.any_eq_true.mp z
  unfold valG at h
  rw [Option.map_eq_none_iff, List.find?_eq_none] at h
  exact h y hy e
theorem valG_app_ne {κ α : Type} [DecidableEq κ] {k k' : κ} {v : α} (h : ¬ k' = k) : ∀ {kvs : List (κ × α)}, valG (kvs ++ [(k', v)]) k = valG kvs k
  | [] => by simp [valG, h]
  | p :: r => by
    by_cases e : p.1 = k
    · rw [List.cons_append, valG_pos e, valG_pos e]
    · rw [List.cons_append, valG_neg e, valG_neg e]
      exact valG_app_ne h
/-- the dict of the widths of the first i tables -/
structure Wd (xs : List D) (i : Nat) (kvs : List (Key × D)) : Prop where
  at_ : ∀ j y, j < i → xs[j]? = some y → valG kvs (.inr (tblS y)) = some (.int ((nmsD y).length : Nat))
  out : ∀ t, (∀ j y, j < i → xs[j]? = some y → tblS y ≠ t) → valG kvs (.inr t) = none
  len : kvs.length ≤ i
  vals : cls 0 (kvs.map (·.2)) = true
theorem vars_ok {xs : List D} (hx : dOks xs = true) (hA : ∀ x ∈ xs, atomB x = true) : dOks ((vars xs).map D.str) = true := dOks_mem.mpr fun d hd => by
  obtain ⟨s, hs, rfl⟩ := List.mem_map.mp hd
  obtain ⟨x, hxm, hs⟩ := List.mem_flatMap.mp (mem_sortU.mp hs)
  obtain ⟨t, ns, rfl, _, _⟩ := atom_shape (hA x hxm)
  rw [nmsS_atom] at hs
  have h1 : (dOk (.str t) && (dOk (.tup (ns.map .str)) && true)) = true := dOks_mem.mp hx _ hxm
  simp only [Bool.and_eq_true, Bool.and_true] at h1
  exact dOks_mem.mp (show dOks (ns.map D.str) = true from h1.2) _ (List.mem_map_of_mem hs)
theorem w_query_error {first parts : D} (hM : Ok M) (hf : dOk first = true) (hp : dOk parts = true) (bf : dBk first ≤ 2 ^ 20) (bp : dBk parts ≤ 2 ^ 20) (q : Q (qerr first parts) M) : Wp (callT (g_query_error K) [first, parts] M) Q X := by
  refine call_is (r := qerr first parts) hM (cl_dOk (qerr_ok first parts).1) ?_ q
  unfold g_query_error
  rw [w_body]
  unfold fb_query_error
  decreasing_trivial
  refine w_are_names (a := 0) (b := 3) hM hf bf ?_
  decreasing_trivial
  by_cases h0 : wordsB 0 3 first = true
  rotate_left
  · rw [if_pos (by simpa using h0)]
    refine ⟨by rw [sz]; decide, ?_, [], by simp⟩
    unfold qerr; rw [if_neg h0]
  rw [if_neg (by simpa using h0)]
  refine ⟨by rw [sz]; decide, ?_⟩
  rw [gIsi_lt hp]
  by_cases h1 : (isLst parts || isTupB parts) = true
  rotate_left
  · rw [Bool.eq_false_iff.mpr h1]
    decreasing_trivial
    refine ⟨by rw [sz]; decide, ?_, [], by simp⟩
    unfold qerr; rw [if_pos h0]
    cases parts with
    | lst _ => exact absurd rfl h1
    | tup _ => exact absurd rfl h1
    | rol _ => unfold dOk at hp; cases hp
    | _ => rfl
  rw [h1]
  decreasing_trivial
  obtain ⟨xs, hs⟩ := sq_or h1
  have hx := hs.ok hp
  have hk : dBks xs ≤ 2 ^ 20 := by rw [← hs.bk]; exact bp
  rw [hs.len]
  decreasing_trivial
  by_cases h2 : 1 ≤ xs.length
  rotate_left
  · rw [if_neg (by simp; omega)]
    refine ⟨by rw [sz]; decide, ?_, [], by simp⟩
    unfold qerr; rw [if_pos h0, hs.f]; simp only; rw [if_neg (by omega)]
  rw [if_pos (by simp; omega)]
  by_cases h3 : xs.length ≤ 6
  rotate_left
  · rw [if_pos (by simp; omega)]
    refine ⟨by rw [sz]; decide, ?_, [], by simp⟩
    unfold qerr; rw [if_pos h0, hs.f]; simp only; rw [if_neg (by omega)]
  rw [if_neg (by simp; omega)]
  have e0 : qerr first parts = match firstK (fun k => !atomB (atD xs k)) xs.length with
        | some k => .tup [.str "atom", .int (k : Nat)]
        | none => match firstK (badP xs) xs.length with
          | some k => .tup [.str "places", .int (k : Nat)]
          | none => match firstK (fun k => !(vars xs).contains (strOf (atD (tupL first) k))) (tupL first).length with
            | some k => .tup [.str "variable", .int (k : Nat)]
            | none => if 5 < (vars xs).length then .tup [.str "variables"] else .non := by
    unfold qerr; rw [if_pos h0, hs.f]; simp only; rw [if_pos ⟨h2, h3⟩]; all_goals rfl
  refine ws_for (fun _ i δ M' => M = M' ∧ (∃ u2 u3, δ = [some first, some parts, u2, u3, none, none, none, none, none]) ∧ ∀ j, j < i → atomB (atD xs j) = true) ?_
  refine wi_enum ?_
  decreasing_trivial
  refine ⟨parts, rfl, ?_⟩
  rw [hs.f]
  decreasing_trivial
  refine ⟨⟨⟨none, none, rfl⟩, fun j hj => by omega⟩, fun i x δ M' hxi ⟨eM, ⟨u2, u3, ed⟩, hj⟩ => ?_, fun δ M' ⟨eM, ⟨u2, u3, ed⟩, hj⟩ => ?_⟩
  · subst eM ed
    obtain ⟨y, ey, rfl, hi⟩ := enum_get hxi
    decreasing_trivial
    refine w_is_atom hM (dOks_mem.mp hx y (List.mem_of_getElem? ey)) (bk_small (List.mem_of_getElem? ey) hk) ?_
    decreasing_trivial
    by_cases ha : atomB y = true
    · rw [if_neg (by simpa using ha)]
      refine ⟨⟨_, _, rfl⟩, fun j hji => ?_⟩
      rcases Nat.lt_or_eq_of_le (Nat.le_of_lt_succ hji) with z | z
      · exact hj j z
      · subst z; rw [atD_get ey]; exact ha
    · rw [if_pos (by simpa using ha)]
      refine ⟨by rw [sz]; decide, ?_, [], by simp⟩
      rw [e0, firstK_some hi (fun j h => by rw [hj j h]; rfl) (by rw [atD_get ey]; simpa using ha)]
  · subst eM ed
    rw [enumD_length] at hj
    have hA : ∀ x ∈ xs, atomB x = true := fun x hxm => by
      obtain ⟨j, hjl, e⟩ := List.getElem_of_mem hxm
      have := hj j hjl
      rw [atD_get (List.getElem?_eq_getElem hjl), e] at this
      exact this
    rw [firstK_none (fun j h => by rw [hj j h]; rfl)] at e0
    simp only at e0
    decreasing_trivial
    refine ws_for (fun _ i δ M' => (∃ u2 u3 u5 u6 kvs, δ = [some first, some parts, u2, u3, some (.ref M.length), u5, u6, none, none] ∧ M ++ [.dK kvs] = M' ∧ Wd xs i kvs) ∧ ∀ j, j < i → badP xs j = false) ?_
    refine wi_enum ?_
    decreasing_trivial
    refine ⟨parts, rfl, ?_⟩
    rw [hs.f]
    decreasing_trivial
    refine ⟨⟨⟨u2, u3, none, none, [], rfl, rfl, ⟨fun j y hj _ => by omega, fun t _ => rfl, Nat.le_refl _, rfl⟩⟩, fun j hj => by omega⟩, fun i x δ M' hxi ⟨⟨u2, u3, u5, u6, kvs, ed, eM, W⟩, hj⟩ => ?_, fun δ M' ⟨⟨u2, u3, u5, u6, kvs, ed, eM, W⟩, hj⟩ => ?_⟩
    · subst eM ed
      obtain ⟨y, ey, rfl, hi⟩ := enum_get hxi
      obtain ⟨t, ns, rfl, n1, n2⟩ := atom_shape (hA y (List.mem_of_getElem? ey))
      have at1 : (M ++ [MO.dK kvs])[M.length]? = some (.dK kvs) := by rw [List.getElem?_append_right (Nat.le_refl _)]; simp
      have eD : dctD (M ++ [MO.dK kvs]) (.ref M.length) = some kvs := by unfold dctD; simp only [at1]
      have hl := W.len
      have eS : ∀ w : D, evSetd (.ref M.length) (.str t) w (M ++ [MO.dK kvs]) = match valG kvs (.inr t) with
        | some v => .ok v (M ++ [MO.dK kvs])
        | none => .ok w (M ++ [MO.dK (kvs ++ [(.inr t, w)])]) := fun w => by
        unfold evSetd keyD
        simp only [at1]
        rw [if_pos (by rw [sz]; omega)]
        cases e : valG kvs (.inr t) with
        | some v => rfl
        | none =>
          simp only
          rw [putG_new e, List.set_append_right _ _ (Nat.le_refl _)]
          simp
      have eI : evIsD (.ref M.length) (M ++ [MO.dK kvs]) = .ok () (M ++ [MO.dK kvs]) := by unfold evIsD; rw [eD]
      have aty : atD xs i = .tup [.str t, .tup (ns.map .str)] := atD_get ey
      have nl : (nmsD (.tup [.str t, .tup (ns.map .str)])).length = (ns.map D.str).length := rfl
      decreasing_trivial
      rw [eI, wp_ok, eS]
      cases hv : valG kvs (.inr t) with
      | none =>
        simp only
        rw [wp_ok]
        decreasing_trivial
        rw [if_neg (by simp)]
        have no : ∀ j y, j < i → xs[j]? = some y → tblS y ≠ t := fun j y hji e z => by
          have := W.at_ j y hji e
          rw [z, hv] at this; cases this
        refine ⟨⟨_, _, _, _, _, rfl, rfl, ⟨fun j y hji e => ?_, fun t' hn => ?_, by rw [List.length_append]; simp; omega, by
          rw [List.map_append]
          exact cls_mem.mpr fun d hd => by
            rcases List.mem_append.mp hd with z | z
            · exact cls_mem.mp W.vals d z
            · simp only [List.map_cons, List.map_nil, List.mem_singleton] at z
              subst z; rfl⟩⟩, fun j hji => ?_⟩
        · rcases Nat.lt_or_eq_of_le (Nat.le_of_lt_succ hji) with z | z
          · rw [valG_app_ne (fun e2 => no j y z e (Sum.inr.inj e2).symm)]
            exact W.at_ j y z e
          · subst z
            rw [ey] at e; cases e
            rw [← putG_new hv]
            exact valG_put_same hv
        · have ne : ¬ t = t' := hn i _ (Nat.lt_succ_self _) ey
          rw [valG_app_ne (fun e2 => ne (Sum.inr.inj e2))]
          exact W.out t' fun j y hji e => hn j y (by omega) e
        · rcases Nat.lt_or_eq_of_le (Nat.le_of_lt_succ hji) with z | z
          · exact hj j z
          · subst z
            unfold badP
            rw [aty, List.any_eq_false]
            intro y hy
            obtain ⟨j2, hj2, e2⟩ := mem_take hy
            have := no j2 y hj2 e2
            show ¬ (decide (tblS y = t) && _) = true
            rw [decide_eq_false this]; simp
      | some v =>
        simp only
        rw [wp_ok]
        have ex : ∃ j y, j < i ∧ xs[j]? = some y ∧ tblS y = t := Classical.byContradiction fun z => by
          have := W.out t fun j y hji e e2 => z ⟨j, y, hji, e, e2⟩
          rw [hv] at this; cases this
        obtain ⟨j0, y0, hj0, e0', et⟩ := ex
        have v0 := W.at_ j0 y0 hj0 e0'
        rw [et, hv] at v0
        cases v0
        decreasing_trivial
        by_cases hw : (nmsD y0).length = (ns.map D.str).length
        · rw [if_neg (by simp; simpa using congrArg (Nat.cast (R := Int)) hw)]
          have same : ∀ j y, j < i → xs[j]? = some y → tblS y = t → (nmsD y).length = (ns.map D.str).length := fun j y hji e e2 => by
            have := W.at_ j y hji e
            rw [e2, hv] at this
            have := D.int.inj (Option.some.inj this)
            omega
          refine ⟨⟨_, _, _, _, _, rfl, rfl, ⟨fun j y hji e => ?_, fun t' hn => ?_, by omega, W.vals⟩⟩, fun j hji => ?_⟩
          · rcases Nat.lt_or_eq_of_le (Nat.le_of_lt_succ hji) with z | z
            · exact W.at_ j y z e
            · subst z
              rw [ey] at e; cases e
              show valG kvs (.inr t) = _
              rw [hv, hw]; rfl
          · exact W.out t' fun j y hji e => hn j y (by omega) e
          · rcases Nat.lt_or_eq_of_le (Nat.le_of_lt_succ hji) with z | z
            · exact hj j z
            · subst z
              unfold badP
              rw [aty, List.any_eq_false]
              intro y hy
              obtain ⟨j2, hj2, e2⟩ := mem_take hy
              by_cases e3 : tblS y = t
              · have := same j2 y hj2 e2 e3
                rw [nl, decide_eq_true this]; simp
              · show ¬ (decide (tblS y = t) && _) = true
                rw [decide_eq_false e3]; simp
        · rw [if_pos (by
            have : ¬ (((nmsD y0).length : Nat) : Int) = (((ns.map D.str).length : Nat) : Int) := fun z => hw (Int.ofNat.inj z)
            rw [decide_eq_false this]; rfl)]
          refine ⟨by rw [sz]; decide, ?_, ⟨[MO.dK kvs], rfl⟩⟩
          have hb : badP xs i = true := by
            unfold badP
            rw [aty, List.any_eq_true]
            refine ⟨y0, List.mem_take_iff_getElem.mpr ?_, ?_⟩
            · have hl0 : j0 < xs.length := by
                rcases Nat.lt_or_ge j0 xs.length with z | z
                · exact z
                · rw [List.getElem?_eq_none z] at e0'; cases e0'
              refine ⟨j0, by omega, ?_⟩
              rw [List.getElem?_eq_getElem hl0] at e0'
              exact Option.some.inj e0'
            · show (decide (tblS y0 = t) && !decide (_ = _)) = true
              rw [decide_eq_true et, nl, decide_eq_false hw]; rfl
          rw [e0, firstK_some hi hj hb]
    · subst eM ed
      rw [enumD_length] at hj W
      rw [firstK_none hj] at e0
      simp only at e0
      decreasing_trivial
      have okM : Ok (M ++ [MO.dK kvs]) := ok_snoc hM W.vals
      refine w_names_in okM hs h3 hA ?_
      obtain ⟨hn, rfl, hl⟩ := words_shape h0
      have tl : tupL (.tup (hn.map D.str)) = hn.map D.str := rfl
      rw [tl] at e0
      have hH : dOks (hn.map D.str) = true := hf
      have hV : dOks ((vars xs).map D.str) = true := vars_ok hx hA
      decreasing_trivial
      refine ws_for (fun _ i δ M' => (∃ u2 u3 u4 u5 u6 u8, δ = [some (.tup (hn.map D.str)), some parts, u2, u3, u4, u5, u6, some (.lst ((vars xs).map .str)), u8]) ∧ M ++ [.dK kvs] = M' ∧ ∀ j, j < i → (!(vars xs).contains (strOf (atD (hn.map D.str) j))) = false) ?_
      refine wi_enum ?_
      decreasing_trivial
      refine ⟨_, rfl, ?_⟩
      decreasing_trivial
      refine ⟨⟨⟨_, _, _, _, _, _, rfl⟩, fun j hj => by omega⟩, fun i x δ M' hxi ⟨⟨u2, u3, u4, u5, u6, u8, ed⟩, eM, hj⟩ => ?_, fun δ M' ⟨⟨u2, u3, u4, u5, u6, u8, ed⟩, eM, hj⟩ => ?_⟩
      · subst eM ed
        obtain ⟨y, ey, rfl, hi⟩ := enum_get hxi
        obtain ⟨a, ha, rfl⟩ := List.mem_map.mp (List.mem_of_getElem? ey)
        decreasing_trivial
        rw [oNotIn_strs (dOks_mem.mp hH _ (List.mem_of_getElem? ey)) hV]
        decreasing_trivial
        by_cases hc : (!(vars xs).contains a) = true
        · rw [if_pos hc]
          refine ⟨by rw [sz]; decide, ?_, ⟨[MO.dK kvs], rfl⟩⟩
          rw [e0, firstK_some hi hj (by rw [atD_get ey]; exact hc)]
        · rw [if_neg hc]
          refine ⟨⟨_, _, _, _, _, _, rfl⟩, fun j hji => ?_⟩
          rcases Nat.lt_or_eq_of_le (Nat.le_of_lt_succ hji) with z | z
          · exact hj j z
          · subst z; rw [atD_get ey]; exact Bool.eq_false_iff.mpr hc
      · subst eM ed
        rw [enumD_length] at hj
        rw [firstK_none hj] at e0
        simp only at e0
        decreasing_trivial
        rw [e0, List.length_map]
        by_cases h5 : 5 < (vars xs).length
        · rw [if_pos (by simp; omega), if_pos h5]
          exact ⟨by rw [sz]; decide, rfl, ⟨[MO.dK kvs], rfl⟩⟩
        · rw [if_neg (by simp; omega), if_neg h5]
          exact ⟨rfl, ⟨[MO.dK kvs], rfl⟩⟩
end
end L2.MK.W_k07

end

section
set_option Elab.async false
set_option linter.all false
set_option maxRecDepth 100000
set_option maxHeartbeats 2000000
set_option autoImplicit false
set_option exponentiation.threshold 2000
namespace L2.MK.W_k07
local macro_rules
  | `(tactic| decreasing_trivial) => `(tactic| try simp only [w_bind, w_pure, w_pure', w_opt, w_var, w_C, w_bin, w_un, w_call, w_fun, w_nil, w_cons, w_tup, w_lst, w_lstM, w_dctM, w_isBl, w_bTru, w_bOf, w_and, w_or, w_not, wb_and, wb_or, wb_not, wb_yes, w_if, w_chain, w_cut, w_cutM, w_sNo, w_isI, w_sAt, w_meth, w_setd,
  ws_skip, ws_seq, ws_exp, ws_ret, ws_retN, ws_if, ws_asg, ws_gN, ws_gNils, ws_gConss, ws_gTup, ws_gSub, ws_raise, ws_try, ws_noRet, sm_some,
  startD, List.map_cons, List.map_nil, List.length_cons, List.length_nil, List.replicate, List.cons_append, List.nil_append, List.getElem?_cons_zero, List.getElem?_cons_succ, List.set_cons_zero, List.set_cons_succ, Option.join_some, Option.join_none, Nat.reduceAdd, Nat.reduceSub, Nat.add_zero, Nat.zero_add,
  sqD_lst, sqD_tup, sqD_rol, gLen_lst, gLen_tup, gInt_int, gInt_bl, gAbs_int, oAdd_int, oSub_int, oLt_int, oLe_int, oGt_int, oGe_int, oIx_lst, oIx_tup, oEq_int, oNe_int, true_and, and_true, true_implies, seqF_lst, seqF_tup, seqF_str, sqF_lst, sqF_tup, truD_bl, isStr, isTupB, isLst, ↓reduceIte, Bool.false_eq_true, Bool.not_true, Bool.not_false, setPt_nm, setPt_tp, setPts_nil, setPts_cons, wipeD_nil, wipeD_cons])
open PySem PySem.Spec PyProof.Rows PySem.W He
section
variable {K : Frag} {M : Sto} {Q : D → Sto → Prop} {X : XP} {δ : Env} {N : Env → Sto → Prop} {R : D → Sto → Prop} {XX : XS}
theorem py_atom (t : Str) (ns : List Str) : D.py (.tup [.str t, .tup (ns.map .str)]) = some (.tuple [.str t, .tuple (ns.map .str)]) := by
  unfold D.py D.pys D.pys D.pys
  have : D.py (.tup (ns.map .str)) = some (.tuple (ns.map .str)) := by unfold D.py; rw [pys_strs]; rfl
  rw [this]; rfl
def isAt (p : PyData) : Prop := ∃ (t : Str) (ns : List Str), p = .tuple [.str t, .tuple (ns.map .str)]
theorem pys_atoms : ∀ {xs : List D}, (∀ x ∈ xs, atomB x = true) → ∃ ps, D.pys xs = some ps ∧ ∀ p ∈ ps, isAt p
  | [], _ => ⟨[], by unfold D.pys; rfl, fun p h => (nomatch h)⟩
  | x :: r, h => by
    obtain ⟨t, ns, rfl, _, _⟩ := atom_shape (h x (List.mem_cons_self ..))
    obtain ⟨ps, e, a⟩ := pys_atoms fun y hy => h y (List.mem_cons_of_mem _ hy)
    refine ⟨.tuple [.str t, .tuple (ns.map .str)] :: ps, by unfold D.pys; rw [py_atom, e], fun p hp => ?_⟩
    rcases List.mem_cons.mp hp with z | z
    · exact ⟨t, ns, z⟩
    · exact a p z
theorem sortOk_atoms {ps : List PyData} (h : ∀ p ∈ ps, isAt p) : sortOk ps = true := by
  unfold sortOk
  rw [Bool.and_eq_true, Bool.and_eq_true, Bool.or_eq_true]
  refine ⟨List.all_eq_true.mpr fun a ha => List.all_eq_true.mpr fun b hb => ?_, .inl (List.all_eq_true.mpr fun p hp => ?_), List.all_eq_true.mpr fun p hp => ?_⟩
  · obtain ⟨t, ns, rfl⟩ := h a ha
    obtain ⟨t2, ns2, rfl⟩ := h b hb
    simp only [alike, alikeAll, alike_strs, Bool.and_self]
  · obtain ⟨t, ns, rfl⟩ := h p hp
    rfl
  · obtain ⟨t, ns, rfl⟩ := h p hp
    refine decide_eq_true ?_
    simp only [PyData.depth, PyData.depthAll, depth_strs]
    omega
theorem gSort_atoms {v : D} {xs : List D} (hv : Sq v xs) (h : ∀ x ∈ xs, atomB x = true) : gSort [v] M = some (.lst (xs.mergeSort leD)) := by
  obtain ⟨ps, e, a⟩ := pys_atoms h
  have e1 : sqD M v = some xs := sqD_F hv.f
  show (sqD M v).bind (fun ys => (D.pys ys).bind fun ps => if sortOk ps = true then some (D.lst (ys.mergeSort leD)) else none) = _
  rw [e1, Option.bind_some, e, Option.bind_some, if_pos (sortOk_atoms a)]
/-- no reason: what is then so -/
theorem qerr_non {first parts : D} (h : qerr first parts = .non) : ∃ xs, sqF parts = some xs ∧ ∀ x ∈ xs, atomB x = true := by
  unfold qerr at h
  split at h
  · split at h
    · rename_i xs e
      refine ⟨xs, e, ?_⟩
      split at h
      · split at h
        · cases h
        · rename_i e2
          intro x hx
          obtain ⟨j, hj, ej⟩ := List.getElem_of_mem hx
          unfold firstK at e2
          rw [List.find?_eq_none] at e2
          have := e2 j (List.mem_range.mpr hj)
          rw [atD_get (List.getElem?_eq_getElem hj), ej] at this
          simpa using this
      · cases h
    · cases h
  · cases h
end
section
variable {K : Frag} {M : Sto} {Q : D → Sto → Prop} {X : XP}
def qI (first : D) (xs : List D) : D := .ins "Query" [("first", first), ("rest", .tup xs)]
/-- what Query(first, parts) does -/
theorem w_make {first parts : D} (hM : Ok M) (hf : dOk first = true) (hp : dOk parts = true) (bf : dBk first ≤ 2 ^ 20) (bp : dBk parts ≤ 2 ^ 20)
    (q : ∀ xs, Sq parts xs → qerr first parts = .non → Q (qI first (xs.mergeSort leD)) M) (qx : qerr first parts ≠ .non → X "InvalidQuery" [("reason", qerr first parts)] M) : Wp (makeT "Query" (g_Query__init K) [first, parts] M) Q X := by
  unfold makeT
  rw [w_trim, w_makeK]
  unfold g_Query__init
  rw [w_body]
  unfold fb_Query__init
  decreasing_trivial
  have ok1 : Ok (M ++ [MO.ins "Query" []]) := ok_snoc hM rfl
  refine w_query_error ok1 hf hp bf bp ?_
  have eN : oIsNot (qerr first parts) .non (M ++ [MO.ins "Query" []]) = some (.bl (!isNon (qerr first parts))) := rfl
  have hr := cl_dOk (n := M.length) (qerr_ok first parts).1
  decreasing_trivial
  rw [eN]
  decreasing_trivial
  by_cases h : qerr first parts = .non
  · rw [h]
    rw [if_neg (by simp [isNon])]
    obtain ⟨xs, ex, ha⟩ := qerr_non h
    have hs : Sq parts xs := by
      cases parts with
      | lst ys => cases ex; exact .inl rfl
      | tup ys => cases ex; exact .inr rfl
      | rol ys => unfold dOk at hp; cases hp
      | _ => cases ex
    have at1 : (M ++ [MO.ins "Query" []])[M.length]? = some (.ins "Query" []) := by rw [List.getElem?_append_right (Nat.le_refl _)]; simp
    have s1 : setF ["Query"] "first" (.ref M.length) first (M ++ [MO.ins "Query" []]) = some (M ++ [MO.ins "Query" [("first", first)]]) := by
      unfold setF
      simp only [at1]
      rw [if_pos ⟨by decide, by show 0 < 1000; decide⟩, List.set_append_right _ _ (Nat.le_refl _), Nat.sub_self]
      rfl
    have at2 : (M ++ [MO.ins "Query" [("first", first)]])[M.length]? = some (.ins "Query" [("first", first)]) := by rw [List.getElem?_append_right (Nat.le_refl _)]; simp
    have s2 : ∀ v, setF ["Query"] "rest" (.ref M.length) v (M ++ [MO.ins "Query" [("first", first)]]) = some (M ++ [MO.ins "Query" [(("first" : Str), first), (("rest" : Str), v)]]) := fun v => by
      unfold setF
      simp only [at2]
      rw [if_pos ⟨by decide, by show 1 < 1000; decide⟩, List.set_append_right _ _ (Nat.le_refl _), Nat.sub_self]
      have e : putD "rest" v [(("first" : Str), first)] = [(("first" : Str), first), (("rest" : Str), v)] := by
        unfold putD
        rw [if_neg (by decide)]
        rfl
      rw [e]
      rfl
    simp only [ws_fld]
    decreasing_trivial
    rw [s1]
    decreasing_trivial
    rw [gSort_atoms hs ha]
    decreasing_trivial
    have gt : ∀ ys (M : Sto), gTuple [.lst ys] M = some (.tup ys) := fun _ _ => rfl
    rw [gt]
    decreasing_trivial
    rw [s2, sm_some]
    refine trim_ins hM (fun p hp' => ?_) (q xs hs h)
    simp only [List.mem_cons, List.not_mem_nil, or_false] at hp'
    rcases hp' with rfl | rfl
    · exact cl_dOk hf
    · exact cls_mem.mpr fun d hd => cl_dOk (dOks_mem.mp (hs.ok hp) d ((List.mergeSort_perm _ _).mem_iff.mp hd))
  · have hn : isNon (qerr first parts) = false := by
      cases e : isNon (qerr first parts)
      · rfl
      · exact absurd (isNon_iff.mp e) h
    rw [hn]
    decreasing_trivial
    unfold mkX
    decreasing_trivial
    rw [w_one]
    have hf' : ∀ p ∈ ([(("reason" : Str), qerr first parts)] : List (Str × D)), cl M.length p.2 = true := fun p hp' => by
      rw [List.mem_singleton] at hp'; subst hp'; exact hr
    rw [thawf_cl hf', sm_some, List.take_left' rfl, thawSto_cl hM]
    exact qx h
end
end L2.MK.W_k07

end

section
set_option Elab.async false
set_option linter.all false
set_option maxRecDepth 100000
set_option maxHeartbeats 1000000
set_option autoImplicit false
set_option exponentiation.threshold 2000
namespace L2.MK.W_k07
local macro_rules
  | `(tactic| decreasing_trivial) => `(tactic| try simp only [w_bind, w_pure, w_pure', w_opt, w_var, w_C, w_bin, w_un, w_call, w_fun, w_nil, w_cons, w_tup, w_lst, w_lstM, w_dctM, w_isBl, w_bTru, w_bOf, w_and, w_or, w_not, wb_and, wb_or, wb_not, wb_yes, w_if, w_chain, w_cut, w_cutM, w_sNo, w_isI, w_sAt, w_meth, w_setd,
  ws_skip, ws_seq, ws_exp, ws_ret, ws_retN, ws_if, ws_asg, ws_gN, ws_gNils, ws_gConss, ws_gTup, ws_gSub, ws_raise, ws_try, ws_noRet, sm_some,
  startD, List.map_cons, List.map_nil, List.length_cons, List.length_nil, List.replicate, List.cons_append, List.nil_append, List.getElem?_cons_zero, List.getElem?_cons_succ, List.set_cons_zero, List.set_cons_succ, Option.join_some, Option.join_none, Nat.reduceAdd, Nat.reduceSub, Nat.add_zero, Nat.zero_add,
  sqD_lst, sqD_tup, sqD_rol, gLen_lst, gLen_tup, gInt_int, gInt_bl, gAbs_int, oAdd_int, oSub_int, oLt_int, oLe_int, oGt_int, oGe_int, oIx_lst, oIx_tup, oEq_int, oNe_int, true_and, and_true, true_implies, seqF_lst, seqF_tup, seqF_str, sqF_lst, sqF_tup, truD_bl, isStr, isTupB, isLst, ↓reduceIte, Bool.false_eq_true, Bool.not_true, Bool.not_false, setPt_nm, setPt_tp, setPts_nil, setPts_cons, wipeD_nil, wipeD_cons])
open PySem PySem.Spec PyProof.Rows PySem.W He
/-! queries -/
/-- no reason against it, whatever the order of the atoms -/
structure Qok (first : D) (xs : List D) : Prop where
  hd : wordsB 0 3 first = true
  l1 : 1 ≤ xs.length
  l6 : xs.length ≤ 6
  at_ : ∀ x ∈ xs, atomB x = true
  pl : ∀ x ∈ xs, ∀ y ∈ xs, tblS x = tblS y → (nmsD x).length = (nmsD y).length
  vr : ∀ d ∈ tupL first, strOf d ∈ vars xs
  v5 : (vars xs).length ≤ 5
theorem firstK_none_iff {p : Nat → Bool} {n : Nat} : firstK p n = none ↔ ∀ j, j < n → p j = false := by
  constructor
  · intro h j hj
    unfold firstK at h
    rw [List.find?_eq_none] at h
    simpa using h j (List.mem_range.mpr hj)
  · exact firstK_none
theorem all_at {xs : List D} {P : D → Prop} : (∀ j, j < xs.length → P (atD xs j)) ↔ ∀ x ∈ xs, P x := by
  constructor
  · intro h x hx
    obtain ⟨j, hj, e⟩ := List.getElem_of_mem hx
    have := h j hj
    rwa [atD_get (List.getElem?_eq_getElem hj), e] at this
  · intro h j hj
    rw [atD_get (List.getElem?_eq_getElem hj)]
    exact h _ (List.getElem_mem hj)
theorem badP_iff {xs : List D} : (∀ j, j < xs.length → badP xs j = false) ↔ ∀ x ∈ xs, ∀ y ∈ xs, tblS x = tblS y → (nmsD x).length = (nmsD y).length := by
  constructor
  · intro h x hx y hy e
    obtain ⟨i, hi, ei⟩ := List.getElem_of_mem hx
    obtain ⟨j, hj, ej⟩ := List.getElem_of_mem hy
    have key : ∀ i j (hi : i < xs.length) (hj : j < xs.length), i < j → tblS xs[i] = tblS xs[j] → (nmsD xs[i]).length = (nmsD xs[j]).length := fun i j hi hj hij e => by
      have := h j hj
      unfold badP at this
      rw [List.any_eq_false] at this
      have := this xs[i] (List.mem_take_iff_getElem.mpr ⟨i, by omega, rfl⟩)
      rw [atD_get (List.getElem?_eq_getElem hj), decide_eq_true e] at this
      simpa using this
    subst ei ej
    rcases Nat.lt_trichotomy i j with z | z | z
    · exact key i j hi hj z e
    · subst z; rfl
    · exact (key j i hj hi z e.symm).symm
  · intro h j hj
    unfold badP
    rw [List.any_eq_false]
    intro y hy
    have := h y (List.mem_of_mem_take hy) _ (List.getElem_mem hj)
    rw [atD_get (List.getElem?_eq_getElem hj)]
    by_cases e : tblS y = tblS xs[j]
    · rw [decide_eq_true e, decide_eq_true (this e)]; simp
    · rw [decide_eq_false e]; simp
theorem qerr_iff {first parts : D} {xs : List D} (hs : Sq parts xs) : qerr first parts = .non ↔ Qok first xs := by
  unfold qerr
  constructor
  · intro h
    split at h
    · rename_i h0
      rw [hs.f] at h
      simp only at h
      split at h
      · rename_i h1
        split at h
        · cases h
        · rename_i e1
          split at h
          · cases h
          · rename_i e2
            split at h
            · cases h
            · rename_i e3
              split at h
              · cases h
              · rename_i e4
                refine ⟨h0, h1.1, h1.2, ?_, badP_iff.mp (firstK_none_iff.mp e2), ?_, by omega⟩
                · exact all_at.mp fun j hj => by simpa using firstK_none_iff.mp e1 j hj
                · exact all_at.mp fun j hj => by simpa using firstK_none_iff.mp e3 j hj
      · cases h
    · cases h
  · intro h
    rw [if_pos h.hd, hs.f]
    simp only
    rw [if_pos ⟨h.l1, h.l6⟩, firstK_none (p := fun k => !atomB (atD xs k)) (fun j hj => by rw [all_at.mpr h.at_ j hj]; rfl)]
    simp only
    rw [firstK_none (badP_iff.mpr h.pl)]
    simp only
    rw [firstK_none (p := fun k => !(vars xs).contains (strOf (atD (tupL first) k))) (fun j hj => by
      have := all_at (P := fun d => strOf d ∈ vars xs) |>.mpr h.vr j hj
      simpa using this)]
    simp only
    rw [if_neg (by have := h.v5; omega)]
theorem Qok.perm {first : D} {xs ys : List D} (h : Qok first xs) (p : ys.Perm xs) : Qok first ys := by
  have ev : vars ys = vars xs := by
    unfold vars
    refine sortU_congr fun a => ?_
    rw [List.mem_flatMap, List.mem_flatMap]
    exact ⟨fun ⟨x, h1, h2⟩ => ⟨x, p.mem_iff.mp h1, h2⟩, fun ⟨x, h1, h2⟩ => ⟨x, p.mem_iff.mpr h1, h2⟩⟩
  exact ⟨h.hd, by rw [p.length_eq]; exact h.l1, by rw [p.length_eq]; exact h.l6, fun x hx => h.at_ x (p.mem_iff.mp hx), fun x hx y hy => h.pl x (p.mem_iff.mp hx) y (p.mem_iff.mp hy), fun d hd => by rw [ev]; exact h.vr d hd, by rw [ev]; exact h.v5⟩
/-- what a query is made of -/
structure Qv (f : D) (xs : List D) : Prop where
  hf : dOk f = true
  hp : dOks xs = true
  bf : dBk f ≤ 2 ^ 20
  bp : dBks xs ≤ 2 ^ 20
  ok : Qok f xs
theorem dBks_perm {xs ys : List D} (p : ys.Perm xs) : dBks ys = dBks xs := by
  induction p with
  | nil => rfl
  | cons a _ ih => unfold dBks; rw [ih]
  | swap a b l => unfold dBks; unfold dBks; omega
  | trans _ _ h1 h2 => exact h1.trans h2
theorem Qv.perm {f : D} {xs ys : List D} (h : Qv f xs) (p : ys.Perm xs) : Qv f ys :=
  ⟨h.hf, dOks_mem.mpr fun d hd => dOks_mem.mp h.hp d (p.mem_iff.mp hd), h.bf, by rw [dBks_perm p]; exact h.bp, h.ok.perm p⟩
theorem Qv.cl {f : D} {xs : List D} (h : Qv f xs) (n : Nat) : cl n (qI f xs) = true := by
  unfold qI
  show (MK.cl n f && (MK.cl n (.tup xs) && true)) = true
  rw [cl_dOk h.hf, Bool.and_true]
  exact cls_dOk h.hp
section
variable {K : Frag} {M : Sto} {Q : D → Sto → Prop} {X : XP}
theorem fld_first (f : D) (xs : List D) : oFld ["Query"] [] "first" (qI f xs) M = some f := by
  show (if ("Query" : Str) ∈ (["Query"] : List Str) then fldD M "first" (qI f xs) else none) = _
  rw [if_pos (by decide)]; rfl
theorem fld_rest (f : D) (xs : List D) : oFld ["Query"] [] "rest" (qI f xs) M = some (.tup xs) := by
  show (if ("Query" : Str) ∈ (["Query"] : List Str) then fldD M "rest" (qI f xs) else none) = _
  rw [if_pos (by decide)]; rfl
/-- Query(first, parts) where nothing is wrong -/
theorem w_queryV {f parts : D} {xs : List D} (hM : Ok M) (hs : Sq parts xs) (h : Qv f xs) (q : Q (qI f (xs.mergeSort leD)) M) : Wp (makeT "Query" (g_Query__init K) [f, parts] M) Q X := by
  have hp : dOk parts = true := by rcases hs with rfl | rfl <;> exact h.hp
  refine w_make hM h.hf hp h.bf (by rw [hs.bk]; exact h.bp) (fun ys hy _ => ?_) fun hn => (hn ((qerr_iff hs).mpr h.ok)).elim
  have : ys = xs := by
    have := hy.f
    rw [hs.f] at this
    exact (Option.some.inj this).symm
  rw [this]; exact q
theorem w_qhead {f : D} {xs : List D} (hM : Ok M) (hf : cl 0 f = true) (q : Q f M) : Wp (evPr [("Query", g_Query_head K)] (qI f xs) M) Q X := by
  refine ev_pr_ins (call_is (r := f) hM hf ?_ q)
  unfold g_Query_head
  rw [w_body]
  unfold fb_Query_head
  decreasing_trivial
  rw [show D.ins "Query" [(("first" : Str), f), (("rest" : Str), D.tup xs)] = qI f xs from rfl, fld_first]
  decreasing_trivial
  exact ⟨[], by simp⟩
theorem w_qatoms {f : D} {xs : List D} (hM : Ok M) (hx : cls 0 xs = true) (q : Q (.tup xs) M) : Wp (evPr [("Query", g_Query_atoms K)] (qI f xs) M) Q X := by
  refine ev_pr_ins (call_is (r := .tup xs) hM hx ?_ q)
  unfold g_Query_atoms
  rw [w_body]
  unfold fb_Query_atoms
  decreasing_trivial
  rw [show D.ins "Query" [(("first" : Str), f), (("rest" : Str), D.tup xs)] = qI f xs from rfl, fld_rest]
  decreasing_trivial
  exact ⟨[], by simp⟩
/-- the tables and their numbers of places -/
def plF (x : D) : Key × D := (.inr (tblS x), .int ((nmsD x).length : Nat))
def pls (xs : List D) : List (Key × D) := xs.foldl (fun acc x => putG acc (plF x).1 (plF x).2) []
theorem w_places {f : D} {xs : List D} (hA : ∀ x ∈ xs, atomB x = true) (hl : xs.length ≤ 6) (q : Q (.ref M.length) (M ++ [.dK (pls xs)])) : Wp (evPrK [("Query", g_Query_places K)] (qI f xs) M) Q X := by
  refine ev_prK_ins ?_
  unfold g_Query_places
  rw [w_body]
  unfold fb_Query_places
  decreasing_trivial
  refine w_dcM xs plF (by rw [sz]; omega) ?_ (fun x hx kvs => ?_) q
  · refine wi_seq ?_
    decreasing_trivial
    rw [show D.ins "Query" [(("first" : Str), f), (("rest" : Str), D.tup xs)] = qI f xs from rfl, fld_rest]
    decreasing_trivial
    (all_goals first | done | trivial | rfl | exact ⟨rfl, rfl⟩ | exact ⟨trivial, trivial⟩ | exact ⟨rfl, [], by simp⟩ | exact ⟨[], by simp⟩)
  · obtain ⟨t, ns, rfl, _, _⟩ := atom_shape (hA x hx)
    decreasing_trivial
    exact ⟨rfl, rfl⟩
theorem w_key {f : D} {xs : List D} (hM : Ok M) (hf : cl 0 f = true) (hx : cls 0 xs = true) (q : Q (.tup [f, .tup xs]) M) : Wp (callT (g_key K) [qI f xs] M) Q X := by
  refine call_is (r := .tup [f, .tup xs]) hM (by show (cl 0 f && (cls 0 xs && true)) = true; rw [hf, hx]; rfl) ?_ q
  unfold g_key
  rw [w_body]
  unfold fb_key
  decreasing_trivial
  simp only [w_unE]
  decreasing_trivial
  refine w_qhead hM hf ?_
  refine w_qatoms hM hx ?_
  decreasing_trivial
  exact ⟨by (first | omega | (rw [sz]; decide) | (rw [sz]; omega)), [], by simp⟩
end
end L2.MK.W_k07

end

section
set_option Elab.async false
set_option linter.all false
set_option maxRecDepth 100000
set_option maxHeartbeats 1000000
set_option autoImplicit false
set_option exponentiation.threshold 2000
namespace L2.MK.W_k07
local macro_rules
  | `(tactic| decreasing_trivial) => `(tactic| try simp only [w_bind, w_pure, w_pure', w_opt, w_var, w_C, w_bin, w_un, w_call, w_fun, w_nil, w_cons, w_tup, w_lst, w_lstM, w_dctM, w_isBl, w_bTru, w_bOf, w_and, w_or, w_not, wb_and, wb_or, wb_not, wb_yes, w_if, w_chain, w_cut, w_cutM, w_sNo, w_isI, w_sAt, w_meth, w_setd,
  ws_skip, ws_seq, ws_exp, ws_ret, ws_retN, ws_if, ws_asg, ws_gN, ws_gNils, ws_gConss, ws_gTup, ws_gSub, ws_raise, ws_try, ws_noRet, sm_some,
  startD, List.map_cons, List.map_nil, List.length_cons, List.length_nil, List.replicate, List.cons_append, List.nil_append, List.getElem?_cons_zero, List.getElem?_cons_succ, List.set_cons_zero, List.set_cons_succ, Option.join_some, Option.join_none, Nat.reduceAdd, Nat.reduceSub, Nat.add_zero, Nat.zero_add,
  sqD_lst, sqD_tup, sqD_rol, gLen_lst, gLen_tup, gInt_int, gInt_bl, gAbs_int, oAdd_int, oSub_int, oLt_int, oLe_int, oGt_int, oGe_int, oIx_lst, oIx_tup, oEq_int, oNe_int, true_and, and_true, true_implies, seqF_lst, seqF_tup, seqF_str, sqF_lst, sqF_tup, truD_bl, isStr, isTupB, isLst, ↓reduceIte, Bool.false_eq_true, Bool.not_true, Bool.not_false, setPt_nm, setPt_tp, setPts_nil, setPts_cons, wipeD_nil, wipeD_cons])
open PySem PySem.Spec PyProof.Rows PySem.W He
/-! dicts -/
section
variable {κ α : Type} [DecidableEq κ]
theorem valG_put {k k' : κ} {v : α} (kvs : List (κ × α)) : valG (putG kvs k v) k' = if k = k' then some v else valG kvs k' := by
  have hmap : ∀ kvs : List (κ × α), valG (kvs.map fun kv => if kv.1 = k then (kv.1, v) else kv) k' = if k = k' then (if (kvs.any fun kv => decide (kv.1 = k)) = true then some v else none) else valG kvs k' := by
    intro kvs
    induction kvs with
    | nil => by_cases e : k = k' <;> simp [valG, e]
    | cons p r ih =>
      rw [List.map_cons, List.any_cons]
      by_cases hp : p.1 = k
      · rw [if_pos hp]
        by_cases e : k = k'
        · rw [if_pos e, valG_pos (p := (p.1, v)) (hp.trans e)]; simp [hp]
        · rw [if_neg e, valG_neg (p := (p.1, v)) (fun z => e (hp.symm.trans z)), ih, if_neg e, valG_neg (p := p) (fun z => e (hp.symm.trans z))]
      · rw [if_neg hp, decide_eq_false hp, Bool.false_or]
        by_cases e : k = k'
        · rw [valG_neg (p := p) (fun z => hp (z.trans e.symm)), ih, if_pos e, if_pos e]
        · rw [if_neg e]
          by_cases e2 : p.1 = k'
          · rw [valG_pos (p := p) e2, valG_pos (p := p) e2]
          · rw [valG_neg (p := p) e2, valG_neg (p := p) e2, ih, if_neg e]
  unfold putG
  split
  · rename_i h
    rw [hmap, if_pos h]
  · rename_i h
    have hn : ∀ p ∈ kvs, p.1 ≠ k := fun p hp e => h (List.any_eq_true.mpr ⟨p, hp, decide_eq_true e⟩)
    induction kvs with
    | nil =>
      by_cases e : k = k'
      · rw [if_pos e, List.nil_append, valG_pos (p := (k, v)) e]
      · rw [if_neg e, List.nil_append, valG_neg (p := (k, v)) e]
    | cons p r ih =>
      have h' : ¬ (r.any fun kv => decide (kv.1 = k)) = true := fun z => h (by rw [List.any_cons, z, Bool.or_true])
      have ih := ih h' fun q hq => hn q (List.mem_cons_of_mem _ hq)
      have hp := hn p (List.mem_cons_self ..)
      rw [List.cons_append]
      by_cases e2 : p.1 = k'
      · rw [valG_pos (p := p) e2, if_neg (fun z => hp (e2.trans z.symm)), valG_pos (p := p) e2]
      · rw [valG_neg (p := p) e2, ih, valG_neg (p := p) e2]
theorem putG_mem {k : κ} {v : α} {p : κ × α} {kvs : List (κ × α)} (h : p ∈ putG kvs k v) : p = (k, v) ∨ p ∈ kvs := by
  unfold putG at h
  split at h
  · obtain ⟨q, hq, e⟩ := List.mem_map.mp h
    by_cases z : q.1 = k
    · rw [if_pos z] at e; subst z; exact .inl e.symm
    · rw [if_neg z] at e; subst e; exact .inr hq
  · rcases List.mem_append.mp h with z | z
    · exact .inr z
    · exact .inl (List.mem_singleton.mp z)
theorem putG_keys {k : κ} {v : α} {kvs : List (κ × α)} (h : (kvs.map (·.1)).Nodup) : ((putG kvs k v).map (·.1)).Nodup := by
  unfold putG
  split
  · have e : (kvs.map fun kv => if kv.1 = k then (kv.1, v) else kv).map (·.1) = kvs.map (·.1) := by
      rw [List.map_map]
      refine List.map_congr_left fun p _ => ?_
      show (if p.1 = k then (p.1, v) else p).1 = p.1
      split <;> rfl
    rw [e]; exact h
  · rename_i hn
    rw [List.map_append]
    refine List.nodup_append.mpr ⟨h, by simp, fun a ha b hb => ?_⟩
    simp only [List.map_cons, List.map_nil, List.mem_singleton] at hb
    subst hb
    obtain ⟨p, hp, rfl⟩ := List.mem_map.mp ha
    exact fun e => hn (List.any_eq_true.mpr ⟨p, hp, decide_eq_true e⟩)
theorem putG_len {k : κ} {v : α} (kvs : List (κ × α)) : (putG kvs k v).length ≤ kvs.length + 1 := by
  unfold putG
  split
  · rw [List.length_map]; omega
  · rw [List.length_append]; simp
theorem valG_none {k : κ} {kvs : List (κ × α)} (h : k ∉ kvs.map (·.1)) : valG kvs k = none := by
  induction kvs with
  | nil => rfl
  | cons p r ih =>
    rw [List.map_cons, List.mem_cons, not_or] at h
    rw [valG_neg (p := p) (fun z => h.1 z.symm), ih h.2]
theorem valG_mem {k : κ} {v : α} {kvs : List (κ × α)} (h : valG kvs k = some v) : (k, v) ∈ kvs := by
  induction kvs with
  | nil => cases h
  | cons p r ih =>
    by_cases e : p.1 = k
    · rw [valG_pos (p := p) e] at h
      cases h
      rw [← e]; exact List.mem_cons_self ..
    · rw [valG_neg (p := p) e] at h
      exact List.mem_cons_of_mem _ (ih h)
theorem mem_valG {k : κ} {v : α} {kvs : List (κ × α)} (hn : (kvs.map (·.1)).Nodup) (h : (k, v) ∈ kvs) : valG kvs k = some v := by
  induction kvs with
  | nil => cases h
  | cons p r ih =>
    rw [List.map_cons, List.nodup_cons] at hn
    rcases List.mem_cons.mp h with z | z
    · subst z; exact valG_pos (p := (k, v)) rfl
    · rw [valG_neg (p := p) (fun e => hn.1 (by rw [e]; exact List.mem_map.mpr ⟨_, z, rfl⟩)), ih hn.2 z]
end
theorem mergeG_cons (kvs : List (Key × D)) (p : Key × D) (r : List (Key × D)) : mergeG kvs (p :: r) = mergeG (putG kvs p.1 p.2) r := rfl
theorem valG_merge {k : Key} : ∀ {more kvs : List (Key × D)}, (more.map (·.1)).Nodup → valG (mergeG kvs more) k = (match valG more k with | some v => some v | none => valG kvs k)
  | [], kvs, _ => rfl
  | (j, d) :: r, kvs, h => by
    rw [List.map_cons, List.nodup_cons] at h
    rw [mergeG_cons, valG_merge h.2]
    by_cases e : j = k
    · subst e
      rw [valG_none h.1, valG_pos (p := (j, d)) rfl]
      show valG (putG kvs j d) j = some d
      rw [valG_put, if_pos rfl]
    · rw [valG_neg (p := (j, d)) e]
      show (match valG r k with | some v => some v | none => valG (putG kvs j d) k) = _
      rw [valG_put, if_neg e]
theorem mergeG_mem {p : Key × D} : ∀ {more kvs : List (Key × D)}, p ∈ mergeG kvs more → p ∈ kvs ∨ p ∈ more
  | [], kvs, h => .inl h
  | q :: r, kvs, h => by
    rw [mergeG_cons] at h
    rcases mergeG_mem h with z | z
    · rcases putG_mem z with y | y
      · exact .inr (by rw [y]; exact List.mem_cons_self ..)
      · exact .inl y
    · exact .inr (List.mem_cons_of_mem _ z)
theorem mergeG_len : ∀ (more kvs : List (Key × D)), (mergeG kvs more).length ≤ kvs.length + more.length
  | [], kvs => Nat.le_refl _
  | q :: r, kvs => by
    rw [mergeG_cons]
    have h1 := mergeG_len r (putG kvs q.1 q.2)
    have h2 := putG_len (k := q.1) (v := q.2) kvs
    rw [List.length_cons]; omega
/-- tables with numbers -/
def PlOk (kvs : List (Key × D)) : Prop := ∀ p ∈ kvs, ∃ (t : Str) (n : Nat), p = (.inr t, .int n)
theorem pls_inv (xs : List D) : PlOk (pls xs) ∧ ((pls xs).map (·.1)).Nodup ∧ (pls xs).length ≤ xs.length := by
  have key : ∀ (xs : List D) (acc : List (Key × D)), PlOk acc → (acc.map (·.1)).Nodup → PlOk (xs.foldl (fun acc x => putG acc (plF x).1 (plF x).2) acc) ∧ ((xs.foldl (fun acc x => putG acc (plF x).1 (plF x).2) acc).map (·.1)).Nodup ∧ (xs.foldl (fun acc x => putG acc (plF x).1 (plF x).2) acc).length ≤ acc.length + xs.length := by
    intro xs
    induction xs with
    | nil => intro acc h1 h2; exact ⟨h1, h2, Nat.le_refl _⟩
    | cons x r ih =>
      intro acc h1 h2
      rw [List.foldl_cons]
      obtain ⟨a, b, c⟩ := ih (putG acc (plF x).1 (plF x).2) (fun p hp => by
        rcases putG_mem hp with z | z
        · exact ⟨tblS x, (nmsD x).length, z⟩
        · exact h1 p z) (putG_keys h2)
      have := putG_len (k := (plF x).1) (v := (plF x).2) acc
      refine ⟨a, b, ?_⟩
      rw [List.length_cons]; omega
  have := key xs [] (fun p h => nomatch h) (by simp)
  rw [List.length_nil, Nat.zero_add] at this
  exact this
def intD : D → Int
  | .int i => i
  | _ => 0
/-- another number than is known -/
def difP (known : List (Key × D)) (p : Key × D) : Bool := !decide (intD ((valG known p.1).getD p.2) = intD p.2)
def conf (known q : List (Key × D)) : Bool := q.any (difP known)
def pairF (p : Key × D) : D := .tup [keyDD p.1, p.2]
def keyOf (d : D) : Key := (keyD d).getD (.inl 0)
def unpF : D → Key × D
  | .tup [k, v] => (keyOf k, v)
  | _ => (.inl 0, .non)
theorem keyD_keyDD (k : Key) : keyD (keyDD k) = some k := by cases k <;> rfl
theorem unp_pair (p : Key × D) : unpF (pairF p) = p := by
  show ((keyD (keyDD p.1)).getD (.inl 0), p.2) = p
  rw [keyD_keyDD]; rfl
section
variable {K : Frag} {M : Sto} {Q : D → Sto → Prop} {X : XP}
theorem getD_int {known : List (Key × D)} {p : Key × D} (h1 : PlOk known) (h2 : ∃ (t : Str) (n : Nat), p = (.inr t, .int n)) : ∃ n : Nat, (valG known p.1).getD p.2 = .int n := by
  cases e : valG known p.1 with
  | none => obtain ⟨t, n, rfl⟩ := h2; exact ⟨n, rfl⟩
  | some v =>
    obtain ⟨t, n, e2⟩ := h1 _ (valG_mem e)
    exact ⟨n, (Prod.mk.inj e2).2⟩
theorem difP_ok {known : List (Key × D)} {p : Key × D} (h1 : PlOk known) (h2 : ∃ (t : Str) (n : Nat), p = (.inr t, .int n)) : oNe ((valG known p.1).getD p.2) p.2 M = some (.bl (difP known p)) := by
  obtain ⟨n, e⟩ := getD_int h1 h2
  obtain ⟨t, m, rfl⟩ := h2
  unfold difP
  rw [e, oNe_int]; rfl
/-- other_places -/
theorem w_other_places {j : Nat} {known : List (Key × D)} {f : D} {xs : List D} (hM : Ok M) (hj : M[j]? = some (.dK known)) (hk : PlOk known) (hv : Qv f xs) (q : Q (.bl (conf known (pls xs))) M) : Wp (callT (g_other_places K) [.ref j, qI f xs] M) Q X := by
  refine call_is (r := .bl (conf known (pls xs))) hM rfl ?_ q
  unfold g_other_places
  rw [w_body]
  unfold fb_other_places
  decreasing_trivial
  obtain ⟨p1, p2, p3⟩ := pls_inv xs
  have hx6 := hv.ok.l6
  refine w_lcE ((pls xs).map pairF) (fun _ => true) (fun d => .bl (difP known (unpF d))) hM (by rw [List.length_map, sz]; omega) ?_ (fun x hx N oN => ?_) (fun x _ _ => rfl) ?_
  · refine wi_items hM ?_
    simp only [w_unE]
    decreasing_trivial
    refine w_places hv.ok.at_ hx6 ⟨pls xs, rfl, rfl, fun p hp => ?_, ?_⟩
    · obtain ⟨t, n, rfl⟩ := p1 p hp
      rfl
    · (all_goals first | done | trivial | rfl | exact ⟨rfl, rfl⟩ | exact ⟨trivial, trivial⟩ | exact ⟨rfl, [], by simp⟩ | exact ⟨[], by simp⟩)
  · obtain ⟨p, hp, rfl⟩ := List.mem_map.mp hx
    obtain ⟨t, n, ep⟩ := p1 p hp
    have hMj : ∀ N' : Sto, (M ++ N')[j]? = some (.dK known) := fun N' => by
      rw [List.getElem?_append_left (List.getElem?_eq_some_iff.mp hj).1]; exact hj
    have es : ∀ M' : Sto, sqD M' (pairF p) = some [keyDD p.1, p.2] := fun _ => rfl
    decreasing_trivial
    rw [es]
    decreasing_trivial
    refine ⟨⟨[], by simp, oN⟩, fun N' oN' => ?_⟩
    simp only [w_get2]
    decreasing_trivial
    rw [w_isD (hMj N')]
    rw [w_evGet2 (hMj N') (keyD_keyDD p.1)]
    rw [difP_ok hk ⟨t, n, ep⟩]
    decreasing_trivial
    rw [unp_pair]
    exact ⟨rfl, [], by simp, oN'⟩
  · rw [filter_yes, List.map_map]
    have e : (pls xs).map ((fun d => D.bl (difP known (unpF d))) ∘ pairF) = ((pls xs).map (difP known)).map .bl := by
      rw [List.map_map]
      refine List.map_congr_left fun p _ => ?_
      show D.bl (difP known (unpF (pairF p))) = _
      rw [unp_pair]; rfl
    rw [e, gAny_bls]
    decreasing_trivial
    refine ⟨?_, [], by simp⟩
    unfold conf
    rw [List.any_map]; rfl
end
end L2.MK.W_k07

end

section
set_option Elab.async false
set_option linter.all false
set_option maxRecDepth 100000
set_option maxHeartbeats 1000000
set_option autoImplicit false
set_option exponentiation.threshold 2000
namespace L2.MK.W_k07
local macro_rules
  | `(tactic| decreasing_trivial) => `(tactic| try simp only [w_bind, w_pure, w_pure', w_opt, w_var, w_C, w_bin, w_un, w_call, w_fun, w_nil, w_cons, w_tup, w_lst, w_lstM, w_dctM, w_isBl, w_bTru, w_bOf, w_and, w_or, w_not, wb_and, wb_or, wb_not, wb_yes, w_if, w_chain, w_cut, w_cutM, w_sNo, w_isI, w_sAt, w_meth, w_setd,
  ws_skip, ws_seq, ws_exp, ws_ret, ws_retN, ws_if, ws_asg, ws_gN, ws_gNils, ws_gConss, ws_gTup, ws_gSub, ws_raise, ws_try, ws_noRet, sm_some,
  startD, List.map_cons, List.map_nil, List.length_cons, List.length_nil, List.replicate, List.cons_append, List.nil_append, List.getElem?_cons_zero, List.getElem?_cons_succ, List.set_cons_zero, List.set_cons_succ, Option.join_some, Option.join_none, Nat.reduceAdd, Nat.reduceSub, Nat.add_zero, Nat.zero_add,
  sqD_lst, sqD_tup, sqD_rol, gLen_lst, gLen_tup, gInt_int, gInt_bl, gAbs_int, oAdd_int, oSub_int, oLt_int, oLe_int, oGt_int, oGe_int, oIx_lst, oIx_tup, oEq_int, oNe_int, true_and, and_true, true_implies, seqF_lst, seqF_tup, seqF_str, sqF_lst, sqF_tup, truD_bl, isStr, isTupB, isLst, ↓reduceIte, Bool.false_eq_true, Bool.not_true, Bool.not_false, setPt_nm, setPt_tp, setPts_nil, setPts_cons, wipeD_nil, wipeD_cons])
open PySem PySem.Spec PyProof.Rows PySem.W He
def vOk : D → Bool
  | .non => true
  | .bl _ => true
  | .int _ => true
  | .str _ => true
  | .tup _ => true
  | .lst _ => true
  | .ins C _ => decide (C = "Query") || decide (C = "Union")
  | _ => false
def isq : D → Bool
  | .ins C _ => decide (C = "Query")
  | _ => false
def hdD : D → List D
  | .ins _ ((_, .tup hs) :: _) => hs
  | _ => []
def atL : D → List D
  | .ins _ [_, (_, .tup xs)] => xs
  | _ => []
def plsD (d : D) : List (Key × D) := pls (atL d)
/-- a value that is asked for a union -/
structure Vv (d : D) : Prop where
  vok : vOk d = true
  clo : cl 0 d = true
  q : isq d = true → ∃ (hs : List D) (xs : List D), d = qI (.tup hs) xs ∧ Qv (.tup hs) xs
theorem qv_tup {f : D} {xs : List D} (h : Qv f xs) : ∃ hs : List D, f = .tup hs := by
  obtain ⟨ns, e, _⟩ := words_shape h.ok.hd
  exact ⟨_, e⟩
theorem vv_q {f : D} {xs : List D} (h : Qv f xs) : Vv (qI f xs) := by
  obtain ⟨hs, rfl⟩ := qv_tup h
  exact ⟨rfl, h.cl 0, fun _ => ⟨hs, xs, rfl, h⟩⟩
def badU (vs : List D) (k : Nat) : Bool := (plsD (atD vs k)).any fun p => (vs.take k).any fun y => difP (plsD y) p
def uerr (vs : List D) : D :=
  if 1 ≤ vs.length ∧ vs.length ≤ 3 then
    match firstK (fun k => !isq (atD vs k)) vs.length with
    | some k => .tup [.str "query", .int (k : Nat)]
    | none => match firstK (fun k => !decide ((hdD (atD vs k)).length = (hdD (atD vs 0)).length)) vs.length with
      | some k => .tup [.str "head", .int (k : Nat)]
      | none => match firstK (badU vs) vs.length with
        | some k => .tup [.str "places", .int (k : Nat)]
        | none => .non
  else .tup [.str "queries"]
theorem fk_lt {p : Nat → Bool} {n k : Nat} (e : firstK p n = some k) : k < n := by
  unfold firstK at e
  rw [List.find?_range_eq_some] at e
  simpa using e.2.1
theorem uerr_ok (vs : List D) : dOk (uerr vs) = true ∧ dDep (uerr vs) ≤ 1 := by
  unfold uerr
  have h : ∀ (s : Str) (k : Nat), k ≤ 6 → (s.cps.toList.all fun c => decide (c < 16 ^ 8)) = true → dOk (.tup [.str s, .int (k : Nat)]) = true ∧ dDep (.tup [.str s, .int (k : Nat)]) ≤ 1 := fun s k hk hs => by
    refine ⟨?_, Nat.le_refl _⟩
    show (dOk (.str s) && (dOk (.int (k : Nat)) && true)) = true
    rw [Bool.and_true, Bool.and_eq_true]
    refine ⟨hs, ?_⟩
    show (decide ((-999999999999 : Int) ≤ (k : Nat)) && decide (((k : Nat) : Int) ≤ 999999999999)) = true
    rw [decide_eq_true (by omega), decide_eq_true (by omega)]; rfl
  split
  · split
    · rename_i k e; exact h _ k (by have := fk_lt e; omega) (by decide)
    · split
      · rename_i k e; exact h _ k (by have := fk_lt e; omega) (by decide)
      · split
        · rename_i k e; exact h _ k (by have := fk_lt e; omega) (by decide)
        · exact ⟨by decide, by decide⟩
  · exact ⟨by decide, by decide⟩
/-- what is known ahead of turn i -/
structure Kn (vs : List D) (i : Nat) (known : List (Key × D)) : Prop where
  pl : PlOk known
  fr : ∀ k v, valG known k = some v → ∃ j, j < i ∧ valG (plsD (atD vs j)) k = some v
  to : ∀ j, j < i → ∀ k v, valG (plsD (atD vs j)) k = some v → valG known k = some v
  len : known.length ≤ 6 * i
theorem mem_takeD {vs : List D} {i : Nat} (hi : i ≤ vs.length) {y : D} : y ∈ vs.take i ↔ ∃ j, j < i ∧ atD vs j = y := by
  constructor
  · intro h
    obtain ⟨j, hj, e⟩ := mem_take h
    exact ⟨j, hj, atD_get e⟩
  · rintro ⟨j, hj, rfl⟩
    have hl : j < vs.length := by omega
    rw [atD_get (List.getElem?_eq_getElem hl)]
    exact List.mem_take_iff_getElem.mpr ⟨j, by omega, rfl⟩
theorem conf_bad {vs : List D} {i : Nat} {known : List (Key × D)} (hi : i < vs.length) (h : Kn vs i known) : conf known (plsD (atD vs i)) = badU vs i := by
  unfold conf badU
  rw [Bool.eq_iff_iff, List.any_eq_true, List.any_eq_true]
  have go : ∀ {a : List (Key × D)} {p : Key × D}, difP a p = true ↔ ∃ v, valG a p.1 = some v ∧ ¬ intD v = intD p.2 := fun {a p} => by
    unfold difP
    cases e : valG a p.1 with
    | none => simp
    | some v => simp
  constructor
  · rintro ⟨p, hp, hd⟩
    obtain ⟨v, e, hn⟩ := go.mp hd
    obtain ⟨j, hj, e2⟩ := h.fr _ _ e
    exact ⟨p, hp, List.any_eq_true.mpr ⟨atD vs j, (mem_takeD (Nat.le_of_lt hi)).mpr ⟨j, hj, rfl⟩, go.mpr ⟨v, e2, hn⟩⟩⟩
  · rintro ⟨p, hp, hd⟩
    obtain ⟨y, hy, hd⟩ := List.any_eq_true.mp hd
    obtain ⟨j, hj, rfl⟩ := (mem_takeD (Nat.le_of_lt hi)).mp hy
    obtain ⟨v, e, hn⟩ := go.mp hd
    exact ⟨p, hp, go.mpr ⟨v, h.to j hj _ _ e, hn⟩⟩
theorem Kn.next {vs : List D} {i : Nat} {known : List (Key × D)} (h : Kn vs i known) (hc : conf known (plsD (atD vs i)) = false) (h6 : (atL (atD vs i)).length ≤ 6) : Kn vs (i + 1) (mergeG known (plsD (atD vs i))) := by
  obtain ⟨p1, p2, p3⟩ := pls_inv (atL (atD vs i))
  have vm : ∀ k, valG (mergeG known (plsD (atD vs i))) k = (match valG (plsD (atD vs i)) k with | some v => some v | none => valG known k) := fun k => valG_merge p2
  refine ⟨fun p hp => ?_, fun k v e => ?_, fun j hj k v e => ?_, ?_⟩
  · rcases mergeG_mem hp with z | z
    · exact h.pl p z
    · exact p1 p z
  · rw [vm] at e
    cases e2 : valG (plsD (atD vs i)) k with
    | some w => rw [e2] at e; cases e; exact ⟨i, Nat.lt_succ_self _, e2⟩
    | none =>
      rw [e2] at e
      obtain ⟨j, hj, e3⟩ := h.fr k v e
      exact ⟨j, by omega, e3⟩
  · rw [vm]
    rcases Nat.lt_or_eq_of_le (Nat.le_of_lt_succ hj) with z | z
    · have ek := h.to j z k v e
      cases e2 : valG (plsD (atD vs i)) k with
      | none => exact ek
      | some w =>
        have hm := valG_mem e2
        unfold conf at hc
        rw [List.any_eq_false] at hc
        have hd := hc _ hm
        unfold difP at hd
        rw [ek] at hd
        have hd : intD v = intD w := by simpa using hd
        obtain ⟨t, n, e3⟩ := p1 _ hm
        obtain ⟨t2, n2, e4⟩ := h.pl _ (valG_mem ek)
        have ew : w = .int n := (Prod.mk.inj e3).2
        have ev : v = .int n2 := (Prod.mk.inj e4).2
        have hd2 : (n2 : Int) = n := by rw [ew, ev] at hd; exact hd
        show some w = some v
        rw [ew, ev, hd2]
    · subst z
      rw [e]
  · have := mergeG_len (plsD (atD vs i)) known
    have p3 : (plsD (atD vs i)).length ≤ _ := p3
    have := h.len
    omega
section
variable {K : Frag} {M : Sto} {Q : D → Sto → Prop} {X : XP}
theorem isi_query (G : Kf K) {d : D} (h : vOk d = true) : gIsi K ["Query", "Union"] ["InvalidQuery", "InvalidUnion", "MarkError"] [d, .cls "Query"] M = some (.bl (isq d)) := by
  cases d with
  | non => show (some (.ref (ga K "Query"))).bind (fun u => (kitOne K (.type "NoneType") u).map D.bl) = _; rw [Option.bind_some, G.q_NoneType_Query]; rfl
  | bl b => show (some (.ref (ga K "Query"))).bind (fun u => (kitOne K (.type "bool") u).map D.bl) = _; rw [Option.bind_some, G.q_bool_Query]; rfl
  | int i => show (some (.ref (ga K "Query"))).bind (fun u => (kitOne K (.type "int") u).map D.bl) = _; rw [Option.bind_some, G.q_int_Query]; rfl
  | str s => show (some (.ref (ga K "Query"))).bind (fun u => (kitOne K (.type "str") u).map D.bl) = _; rw [Option.bind_some, G.q_str_Query]; rfl
  | tup xs => show (some (.ref (ga K "Query"))).bind (fun u => (kitOne K (.type "tuple") u).map D.bl) = _; rw [Option.bind_some, G.q_tuple_Query]; rfl
  | lst xs => show (some (.ref (ga K "Query"))).bind (fun u => (kitOne K (.type "list") u).map D.bl) = _; rw [Option.bind_some, G.q_list_Query]; rfl
  | ins C fs =>
    have hc : C = "Query" ∨ C = "Union" := by simpa [vOk] using h
    rcases hc with rfl | rfl
    · show (some (.ref (ga K "Query"))).bind (fun u => ((if ("Query" : Str) ∈ (["Query", "Union"] : List Str) then kitOne K (.ref (ga K "Query")) u else none)).map D.bl) = _
      rw [Option.bind_some, if_pos (by decide), kitOne_self]; rfl
    · show (some (.ref (ga K "Query"))).bind (fun u => ((if ("Union" : Str) ∈ (["Query", "Union"] : List Str) then kitOne K (.ref (ga K "Union")) u else none)).map D.bl) = _
      rw [Option.bind_some, if_pos (by decide), G.q_Union_Query]; rfl
  | _ => cases h
/-- union_error -/
theorem w_union_error (G : Kf K) {vs : List D} (hM : Ok M) (hv : ∀ d ∈ vs, Vv d) (q : Q (uerr vs) M) : Wp (callT (g_union_error K) [.tup vs] M) Q X := by
  refine call_is (r := uerr vs) hM (cl_dOk (uerr_ok vs).1) ?_ q
  unfold g_union_error
  rw [w_body]
  unfold fb_union_error
  decreasing_trivial
  by_cases h1 : 1 ≤ vs.length
  rotate_left
  · rw [if_neg (by simp; omega)]
    refine ⟨by (first | omega | (rw [sz]; decide) | (rw [sz]; omega)), ?_, [], by simp⟩
    unfold uerr; rw [if_neg (by omega)]
  by_cases h3 : vs.length ≤ 3
  rotate_left
  · rw [if_pos (by simp; omega), if_pos (by simp; omega)]
    refine ⟨by (first | omega | (rw [sz]; decide) | (rw [sz]; omega)), ?_, [], by simp⟩
    unfold uerr; rw [if_neg (by omega)]
  rw [if_pos (by simp; omega), if_neg (by simp; omega)]
  have e0 : uerr vs = match firstK (fun k => !isq (atD vs k)) vs.length with
    | some k => .tup [.str "query", .int (k : Nat)]
    | none => match firstK (fun k => !decide ((hdD (atD vs k)).length = (hdD (atD vs 0)).length)) vs.length with
      | some k => .tup [.str "head", .int (k : Nat)]
      | none => match firstK (badU vs) vs.length with
        | some k => .tup [.str "places", .int (k : Nat)]
        | none => .non := by
    unfold uerr; rw [if_pos ⟨h1, h3⟩]; all_goals rfl
  refine ws_for (fun _ i δ M' => M = M' ∧ (∃ u1 u2, δ = [some (.tup vs), u1, u2, none]) ∧ ∀ j, j < i → isq (atD vs j) = true) ?_
  refine wi_enum ?_
  decreasing_trivial
  refine ⟨_, rfl, ?_⟩
  decreasing_trivial
  refine ⟨⟨⟨none, none, rfl⟩, fun j hj => by omega⟩, fun i x δ M' hxi ⟨eM, ⟨u1, u2, ed⟩, hj⟩ => ?_, fun δ M' ⟨eM, ⟨u1, u2, ed⟩, hj⟩ => ?_⟩
  · subst eM ed
    obtain ⟨y, ey, rfl, hi⟩ := enum_get hxi
    decreasing_trivial
    rw [isi_query G (hv y (List.mem_of_getElem? ey)).vok]
    decreasing_trivial
    by_cases ha : isq y = true
    · rw [if_neg (by simpa using ha)]
      refine ⟨⟨_, _, rfl⟩, fun j hji => ?_⟩
      rcases Nat.lt_or_eq_of_le (Nat.le_of_lt_succ hji) with z | z
      · exact hj j z
      · subst z; rw [atD_get ey]; exact ha
    · rw [if_pos (by simpa using ha)]
      refine ⟨by (first | omega | (rw [sz]; decide) | (rw [sz]; omega)), ?_, [], by simp⟩
      rw [e0, firstK_some hi (fun j h => by rw [hj j h]; rfl) (by rw [atD_get ey]; simpa using ha)]
  subst eM ed
  rw [enumD_length] at hj
  rw [firstK_none (fun j h => by rw [hj j h]; rfl)] at e0
  simp only at e0
  have qAt : ∀ (i : Nat) (y : D), vs[i]? = some y → ∃ hs xs, y = qI (.tup hs) xs ∧ Qv (.tup hs) xs := fun i y ey => by
    have hi := (List.getElem?_eq_some_iff.mp ey).1
    have := hj i hi
    rw [atD_get ey] at this
    exact (hv y (List.mem_of_getElem? ey)).q this
  obtain ⟨y0, ey0⟩ : ∃ y0, vs[0]? = some y0 := ⟨_, List.getElem?_eq_getElem (by omega)⟩
  obtain ⟨hs0, xs0, rfl, qv0⟩ := qAt 0 y0 ey0
  have at0 : atI vs (0 : Int) = some (qI (.tup hs0) xs0) := atI_nat (i := 0) ey0
  decreasing_trivial
  refine ws_for (fun _ i δ M' => M = M' ∧ (∃ u1 u2, δ = [some (.tup vs), u1, u2, none]) ∧ ∀ j, j < i → (hdD (atD vs j)).length = (hdD (atD vs 0)).length) ?_
  refine wi_enum ?_
  decreasing_trivial
  refine ⟨_, rfl, ?_⟩
  decreasing_trivial
  refine ⟨⟨⟨_, _, rfl⟩, fun j hj => by omega⟩, fun i x δ M' hxi ⟨eM, ⟨u1, u2, ed⟩, hj2⟩ => ?_, fun δ M' ⟨eM, ⟨u1, u2, ed⟩, hj2⟩ => ?_⟩
  · subst eM ed
    obtain ⟨y, ey, rfl, hi⟩ := enum_get hxi
    obtain ⟨hs, xs, rfl, qv⟩ := qAt i y ey
    decreasing_trivial
    simp only [w_unE]
    decreasing_trivial
    refine w_qhead hM (cl_dOk qv.hf) ?_
    decreasing_trivial
    rw [at0]
    decreasing_trivial
    refine w_qhead hM (cl_dOk qv0.hf) ?_
    decreasing_trivial
    have eh : hdD (atD vs i) = hs := by rw [atD_get ey]; rfl
    have eh0 : hdD (atD vs 0) = hs0 := by rw [atD_get ey0]; rfl
    by_cases ha : hs.length = hs0.length
    · rw [if_neg (by simp [ha])]
      refine ⟨⟨_, _, rfl⟩, fun j hji => ?_⟩
      rcases Nat.lt_or_eq_of_le (Nat.le_of_lt_succ hji) with z | z
      · exact hj2 j z
      · subst z; rw [eh, eh0]; exact ha
    · rw [if_pos (by
        have : ¬ ((hs.length : Nat) : Int) = ((hs0.length : Nat) : Int) := fun z => ha (Int.ofNat.inj z)
        rw [decide_eq_false this]; rfl)]
      refine ⟨by (first | omega | (rw [sz]; decide) | (rw [sz]; omega)), ?_, [], by simp⟩
      rw [e0, firstK_some hi (fun j h => by rw [decide_eq_true (hj2 j h)]; rfl) (by rw [eh, eh0, decide_eq_false ha]; rfl)]
  subst eM ed
  rw [enumD_length] at hj2
  rw [firstK_none (fun j h => by rw [decide_eq_true (hj2 j h)]; rfl)] at e0
  simp only at e0
  decreasing_trivial
  refine ws_for (fun _ i δ M' => (∃ u1 u2 known E, δ = [some (.tup vs), u1, u2, some (.ref M.length)] ∧ M ++ .dK known :: E = M' ∧ Ok M' ∧ Kn vs i known) ∧ ∀ j, j < i → badU vs j = false) ?_
  refine wi_enum ?_
  decreasing_trivial
  refine ⟨_, rfl, ?_⟩
  decreasing_trivial
  refine ⟨⟨⟨_, _, [], [], rfl, rfl, ok_snoc hM rfl, ⟨fun p h => (nomatch h), fun k v e => (by cases e), fun j hj => by omega, Nat.le_refl _⟩⟩, fun j hj => by omega⟩, fun i x δ M' hxi ⟨⟨u1, u2, known, E, ed, eM, oM, W⟩, hj3⟩ => ?_, fun δ M' ⟨⟨u1, u2, known, E, ed, eM, oM, W⟩, hj3⟩ => ?_⟩
  · subst eM ed
    obtain ⟨y, ey, rfl, hi⟩ := enum_get hxi
    obtain ⟨hs, xs, rfl, qv⟩ := qAt i y ey
    have eat : atD vs i = qI (.tup hs) xs := atD_get ey
    have epl : plsD (atD vs i) = pls xs := by rw [eat]; rfl
    have at1 : (M ++ MO.dK known :: E)[M.length]? = some (.dK known) := by rw [List.getElem?_append_right (Nat.le_refl _)]; simp
    decreasing_trivial
    refine w_other_places oM at1 W.pl qv ?_
    decreasing_trivial
    rw [← epl, conf_bad hi W]
    by_cases hb : badU vs i = true
    · rw [if_pos hb]
      refine ⟨by (first | omega | (rw [sz]; decide) | (rw [sz]; omega)), ?_, ⟨_, rfl⟩⟩
      rw [e0, firstK_some hi hj3 hb]
    rw [if_neg hb]
    decreasing_trivial
    simp only [w_upd]
    decreasing_trivial
    rw [w_isD at1]
    simp only [w_unE]
    decreasing_trivial
    refine w_places qv.ok.at_ qv.ok.l6 ?_
    have at1' : (M ++ MO.dK known :: E ++ [MO.dK (pls xs)])[M.length]? = some (.dK known) := by
      rw [List.getElem?_append_left (by simp)]; exact at1
    have at2 : (M ++ MO.dK known :: E ++ [MO.dK (pls xs)])[(M ++ MO.dK known :: E).length]? = some (.dK (pls xs)) := by rw [List.getElem?_append_right (Nat.le_refl _)]; simp
    obtain ⟨p1, p2, p3⟩ := pls_inv xs
    have hx6 := qv.ok.l6
    have hl := W.len
    rw [w_evUpd at1' at2 (by simp) (by rw [sz]; omega)]
    have eset : (M ++ MO.dK known :: E ++ [MO.dK (pls xs)]).set M.length (.dK (mergeG known (pls xs))) = M ++ MO.dK (mergeG known (pls xs)) :: (E ++ [MO.dK (pls xs)]) := by
      rw [List.append_assoc, List.set_append_right _ _ (Nat.le_refl _), Nat.sub_self]; rfl
    rw [eset]
    have hcf : conf known (plsD (atD vs i)) = false := by rw [conf_bad hi W]; exact Bool.eq_false_iff.mpr hb
    have W2 := W.next hcf (by rw [eat]; exact hx6)
    rw [epl] at W2
    have plc : ∀ (kvs : List (Key × D)) (n : Nat), PlOk kvs → cls n (kvs.map (·.2)) = true := fun kvs n h => cls_mem.mpr fun d hd => by
      obtain ⟨p, hp, rfl⟩ := List.mem_map.mp hd
      obtain ⟨t, m, rfl⟩ := h p hp
      rfl
    refine ⟨⟨_, _, mergeG known (pls xs), E ++ [MO.dK (pls xs)], rfl, rfl, fun m hm => ?_, W2⟩, fun j hji => ?_⟩
    · rcases List.mem_append.mp hm with z | z
      · exact clM_mono (by simp) (hM m z)
      · rcases List.mem_cons.mp z with z | z
        · subst z; exact plc _ _ W2.pl
        · rcases List.mem_append.mp z with z | z
          · exact clM_mono (by simp) (oM m (List.mem_append_right _ (List.mem_cons_of_mem _ z)))
          · rw [List.mem_singleton] at z; subst z; exact plc _ _ p1
    · rcases Nat.lt_or_eq_of_le (Nat.le_of_lt_succ hji) with z | z
      · exact hj3 j z
      · subst z; exact Bool.eq_false_iff.mpr hb
  · subst eM ed
    rw [enumD_length] at hj3
    rw [firstK_none hj3] at e0
    simp only at e0
    decreasing_trivial
    exact ⟨e0.symm, _, rfl⟩
end
end L2.MK.W_k07

end

section
set_option Elab.async false
set_option linter.all false
set_option maxRecDepth 100000
set_option maxHeartbeats 1000000
set_option autoImplicit false
set_option exponentiation.threshold 2000
namespace L2.MK.W_k07
local macro_rules
  | `(tactic| decreasing_trivial) => `(tactic| try simp only [w_bind, w_pure, w_pure', w_opt, w_var, w_C, w_bin, w_un, w_call, w_fun, w_nil, w_cons, w_tup, w_lst, w_lstM, w_dctM, w_isBl, w_bTru, w_bOf, w_and, w_or, w_not, wb_and, wb_or, wb_not, wb_yes, w_if, w_chain, w_cut, w_cutM, w_sNo, w_isI, w_sAt, w_meth, w_setd,
  ws_skip, ws_seq, ws_exp, ws_ret, ws_retN, ws_if, ws_asg, ws_gN, ws_gNils, ws_gConss, ws_gTup, ws_gSub, ws_raise, ws_try, ws_noRet, sm_some,
  startD, List.map_cons, List.map_nil, List.length_cons, List.length_nil, List.replicate, List.cons_append, List.nil_append, List.getElem?_cons_zero, List.getElem?_cons_succ, List.set_cons_zero, List.set_cons_succ, Option.join_some, Option.join_none, Nat.reduceAdd, Nat.reduceSub, Nat.add_zero, Nat.zero_add,
  sqD_lst, sqD_tup, sqD_rol, gLen_lst, gLen_tup, gInt_int, gInt_bl, gAbs_int, oAdd_int, oSub_int, oLt_int, oLe_int, oGt_int, oGe_int, oIx_lst, oIx_tup, oEq_int, oNe_int, true_and, and_true, true_implies, seqF_lst, seqF_tup, seqF_str, sqF_lst, sqF_tup, truD_bl, isStr, isTupB, isLst, ↓reduceIte, Bool.false_eq_true, Bool.not_true, Bool.not_false, setPt_nm, setPt_tp, setPts_nil, setPts_cons, wipeD_nil, wipeD_cons])
open PySem PySem.Spec PyProof.Rows PySem.W He
theorem cut_upto {xs : List D} {i : Nat} (h : i ≤ xs.length) : cutD xs none (some (i : Int)) = xs.take i := by
  unfold cutD
  have s0 : HT.sIx xs.length 0 none = 0 := rfl
  have s1 : HT.sIx xs.length xs.length (some (i : Int)) = i := by
    show (if (i : Int) < 0 then ((i : Int) + (xs.length : Int)).toNat else min (i : Int).toNat xs.length) = _
    rw [if_neg (by omega)]
    omega
  rw [s0, s1]
  simp
theorem isEmpty_any {α : Type} (p : α → Bool) : ∀ xs : List α, (!((xs.filter p).map id).isEmpty) = xs.any p
  | [] => rfl
  | x :: r => by
    rw [List.any_cons, List.filter_cons]
    cases h : p x with
    | true => rw [if_pos rfl]; rfl
    | false => rw [if_neg (by simp)]; rw [isEmpty_any p r]; rfl
section
variable {K : Frag} {M : Sto} {Q : D → Sto → Prop} {X : XP}
theorem oCut_lst' (xs : List D) (a b : Option Int) : oCut (.lst xs) a b M = some (.lst (cutD xs a b)) := rfl
/-- _law_expected -/
theorem w_law_expected (G : Kf K) {vs : List D} (hM : Ok M) (hv : ∀ d ∈ vs, Vv d) (q : Q (uerr vs) M) : Wp (callT (g_law_expected K) [.lst vs] M) Q X := by
  refine call_is (r := uerr vs) hM (cl_dOk (uerr_ok vs).1) ?_ q
  unfold g_law_expected
  rw [w_body]
  unfold fb_law_expected
  decreasing_trivial
  by_cases h1 : 1 ≤ vs.length
  rotate_left
  · rw [if_pos (by simp; omega)]
    refine ⟨by (first | omega | (rw [sz]; decide) | (rw [sz]; omega)), ?_, [], by simp⟩
    unfold uerr; rw [if_neg (by omega)]
  by_cases h3 : vs.length ≤ 3
  rotate_left
  · rw [if_neg (by simp; omega), if_pos (by simp; omega)]
    refine ⟨by (first | omega | (rw [sz]; decide) | (rw [sz]; omega)), ?_, [], by simp⟩
    unfold uerr; rw [if_neg (by omega)]
  rw [if_neg (by simp; omega), if_neg (by simp; omega)]
  have e0 : uerr vs = match firstK (fun k => !isq (atD vs k)) vs.length with
    | some k => .tup [.str "query", .int (k : Nat)]
    | none => match firstK (fun k => !decide ((hdD (atD vs k)).length = (hdD (atD vs 0)).length)) vs.length with
      | some k => .tup [.str "head", .int (k : Nat)]
      | none => match firstK (badU vs) vs.length with
        | some k => .tup [.str "places", .int (k : Nat)]
        | none => .non := by
    unfold uerr; rw [if_pos ⟨h1, h3⟩]; all_goals rfl
  refine ws_for (fun zs i δ M' => zs.length = vs.length ∧ M = M' ∧ (∃ u1, δ = [some (.lst vs), u1, none, none, none]) ∧ ∀ j, j < i → isq (atD vs j) = true) ?_
  refine wi_rng1 ?_
  decreasing_trivial
  refine ⟨_, rfl, by omega, by omega, ⟨by rw [rngD_length]; omega, ⟨_, rfl⟩, fun j hj => by omega⟩, fun i x δ M' hxi ⟨hl, eM, ⟨u1, ed⟩, hj⟩ => ?_, fun δ M' ⟨hl, eM, ⟨u1, ed⟩, hj⟩ => ?_⟩
  · subst eM ed
    obtain ⟨rfl, hi⟩ := rng_get hxi
    have hi : i < vs.length := by omega
    obtain ⟨y, ey⟩ : ∃ y, vs[i]? = some y := ⟨_, List.getElem?_eq_getElem hi⟩
    decreasing_trivial
    rw [atI_nat ey]
    decreasing_trivial
    rw [isi_query G (hv y (List.mem_of_getElem? ey)).vok]
    decreasing_trivial
    by_cases ha : isq y = true
    · rw [if_neg (by simpa using ha)]
      refine ⟨hl, ⟨_, rfl⟩, fun j hji => ?_⟩
      rcases Nat.lt_or_eq_of_le (Nat.le_of_lt_succ hji) with z | z
      · exact hj j z
      · subst z; rw [atD_get ey]; exact ha
    · rw [if_pos (by simpa using ha)]
      refine ⟨by (first | omega | (rw [sz]; decide) | (rw [sz]; omega)), ?_, [], by simp⟩
      rw [e0, firstK_some hi (fun j h => by rw [hj j h]; rfl) (by rw [atD_get ey]; simpa using ha)]
  subst eM ed
  rw [hl] at hj
  rw [firstK_none (fun j h => by rw [hj j h]; rfl)] at e0
  simp only at e0
  have qAt : ∀ (i : Nat) (y : D), vs[i]? = some y → ∃ hs xs, y = qI (.tup hs) xs ∧ Qv (.tup hs) xs := fun i y ey => by
    have hi := (List.getElem?_eq_some_iff.mp ey).1
    have := hj i hi
    rw [atD_get ey] at this
    exact (hv y (List.mem_of_getElem? ey)).q this
  obtain ⟨y0, ey0⟩ : ∃ y0, vs[0]? = some y0 := ⟨_, List.getElem?_eq_getElem (by omega)⟩
  obtain ⟨hs0, xs0, rfl, qv0⟩ := qAt 0 y0 ey0
  have at0 : atI vs (0 : Int) = some (qI (.tup hs0) xs0) := atI_nat (i := 0) ey0
  decreasing_trivial
  refine ws_for (fun zs i δ M' => zs.length = vs.length ∧ M = M' ∧ (∃ u1, δ = [some (.lst vs), u1, none, none, none]) ∧ ∀ j, j < i → (hdD (atD vs j)).length = (hdD (atD vs 0)).length) ?_
  refine wi_rng1 ?_
  decreasing_trivial
  refine ⟨_, rfl, by omega, by omega, ⟨by rw [rngD_length]; omega, ⟨_, rfl⟩, fun j hj => by omega⟩, fun i x δ M' hxi ⟨hl, eM, ⟨u1, ed⟩, hj2⟩ => ?_, fun δ M' ⟨hl, eM, ⟨u1, ed⟩, hj2⟩ => ?_⟩
  · subst eM ed
    obtain ⟨rfl, hi⟩ := rng_get hxi
    have hi : i < vs.length := by omega
    obtain ⟨y, ey⟩ : ∃ y, vs[i]? = some y := ⟨_, List.getElem?_eq_getElem hi⟩
    obtain ⟨hs, xs, rfl, qv⟩ := qAt i y ey
    decreasing_trivial
    simp only [w_unE]
    decreasing_trivial
    rw [atI_nat ey]
    decreasing_trivial
    refine w_qhead hM (cl_dOk qv.hf) ?_
    decreasing_trivial
    rw [at0]
    decreasing_trivial
    refine w_qhead hM (cl_dOk qv0.hf) ?_
    decreasing_trivial
    have eh : hdD (atD vs i) = hs := by rw [atD_get ey]; rfl
    have eh0 : hdD (atD vs 0) = hs0 := by rw [atD_get ey0]; rfl
    by_cases ha : hs.length = hs0.length
    · rw [if_neg (by simp [ha])]
      refine ⟨hl, ⟨_, rfl⟩, fun j hji => ?_⟩
      rcases Nat.lt_or_eq_of_le (Nat.le_of_lt_succ hji) with z | z
      · exact hj2 j z
      · subst z; rw [eh, eh0]; exact ha
    · rw [if_pos (by
        have : ¬ ((hs.length : Nat) : Int) = ((hs0.length : Nat) : Int) := fun z => ha (Int.ofNat.inj z)
        rw [decide_eq_false this]; rfl)]
      refine ⟨by (first | omega | (rw [sz]; decide) | (rw [sz]; omega)), ?_, [], by simp⟩
      rw [e0, firstK_some hi (fun j h => by rw [decide_eq_true (hj2 j h)]; rfl) (by rw [eh, eh0, decide_eq_false ha]; rfl)]
  subst eM ed
  rw [hl] at hj2
  rw [firstK_none (fun j h => by rw [decide_eq_true (hj2 j h)]; rfl)] at e0
  simp only at e0
  decreasing_trivial
  refine ws_for (fun zs i δ M' => zs.length = vs.length ∧ M = M' ∧ (∃ u1 u2 u3, δ = [some (.lst vs), u1, u2, u3, none]) ∧ ∀ j, j < i → badU vs j = false) ?_
  refine wi_rng1 ?_
  decreasing_trivial
  refine ⟨_, rfl, by omega, by omega, ⟨by rw [rngD_length]; omega, ⟨_, _, _, rfl⟩, fun j hj => by omega⟩, fun i x δ M' hxi ⟨hl, eM, ⟨u1, u2, u3, ed⟩, hj3⟩ => ?_, fun δ M' ⟨hl, eM, ⟨u1, u2, u3, ed⟩, hj3⟩ => ?_⟩
  · subst eM ed
    obtain ⟨rfl, hi⟩ := rng_get hxi
    have hi : i < vs.length := by omega
    obtain ⟨y, ey⟩ : ∃ y, vs[i]? = some y := ⟨_, List.getElem?_eq_getElem hi⟩
    obtain ⟨hs, xs, rfl, qv⟩ := qAt i y ey
    have eat : atD vs i = qI (.tup hs) xs := atD_get ey
    have epl : plsD (atD vs i) = pls xs := by rw [eat]; rfl
    obtain ⟨p1, p2, p3⟩ := pls_inv xs
    simp only [List.set_cons_zero, List.set_cons_succ]
    refine ws_for (fun zs m δ M' => zs = (pls xs).map pairF ∧ M = M' ∧ (∃ u2 u3, δ = [some (.lst vs), some (.int (i : Nat)), u2, u3, none]) ∧ ∀ j, j < m → ∀ p, (pls xs)[j]? = some p → ((vs.take i).any fun y => difP (plsD y) p) = false) ?_
    refine wi_items hM ?_
    simp only [w_unE]
    decreasing_trivial
    rw [atI_nat ey]
    decreasing_trivial
    refine w_places qv.ok.at_ qv.ok.l6 ⟨pls xs, rfl, rfl, fun p hp => ?_, ⟨rfl, ⟨_, _, rfl⟩, fun j hj => by omega⟩, fun m x δ M' hxm ⟨ez, eM, ⟨u2, u3, ed⟩, hj4⟩ => ?_, fun δ M' ⟨ez, eM, ⟨u2, u3, ed⟩, hj4⟩ => ?_⟩
    · obtain ⟨t, n, rfl⟩ := p1 p hp
      rfl
    · subst eM ed
      have hxm : ((pls xs).map pairF)[m]? = some x := hxm
      rw [List.getElem?_map] at hxm
      obtain ⟨p, ep, rfl⟩ := Option.map_eq_some_iff.mp hxm
      have hpm : p ∈ pls xs := List.mem_of_getElem? ep
      obtain ⟨t, n, etn⟩ := p1 p hpm
      have es : ∀ M' : Sto, sqD M' (pairF p) = some [keyDD p.1, p.2] := fun _ => rfl
      rw [es, sm_some]
      refine ⟨rfl, ?_⟩
      rw [ws_gConss, ws_gN, ws_gConss, ws_gN, ws_gNils]
      simp only [List.set_cons_zero, List.set_cons_succ]
      refine w_lcE (vs.take i) (fun y => difP (plsD y) p) id hM (by rw [List.length_take, sz]; omega) ?_ (fun y hy N oN => ?_) (fun y hy _ => ?_) ?_
      · refine wi_seq ?_
        decreasing_trivial
        rw [oCut_lst', cut_upto (Nat.le_of_lt hi)]
        decreasing_trivial
        (all_goals first | done | trivial | rfl | exact ⟨rfl, rfl⟩ | exact ⟨trivial, trivial⟩ | exact ⟨rfl, [], by simp⟩ | exact ⟨[], by simp⟩)
      · obtain ⟨j, hj', ej⟩ := mem_take hy
        obtain ⟨hs', xs', rfl, qv'⟩ := qAt j y ej
        obtain ⟨r1, r2, r3⟩ := pls_inv xs'
        have hx6 := qv'.ok.l6
        decreasing_trivial
        have okE : ∀ N' : Sto, Ok (M ++ N') → Ok (M ++ N' ++ [MO.dK (pls xs')]) := fun N' oN' => ok_snoc oN' (cls_mem.mpr fun d hd => by
          obtain ⟨p', hp', rfl⟩ := List.mem_map.mp hd
          obtain ⟨t', m', rfl⟩ := r1 p' hp'
          rfl)
        refine ⟨?_, fun N' oN' _ => ?_⟩
        · simp only [w_get2, w_unE]
          decreasing_trivial
          refine w_places qv'.ok.at_ qv'.ok.l6 ?_
          have at2 : (M ++ N ++ [MO.dK (pls xs')])[(M ++ N).length]? = some (.dK (pls xs')) := by rw [List.getElem?_append_right (Nat.le_refl _)]; simp
          rw [w_isD at2, w_evGet2 at2 (keyD_keyDD p.1), difP_ok r1 ⟨t, n, etn⟩]
          decreasing_trivial
          exact ⟨rfl, _, rfl, okE N oN⟩
        · exact ⟨rfl, [], by simp, oN'⟩
      · obtain ⟨j, hj', ej⟩ := mem_take hy
        obtain ⟨hs', xs', rfl, qv'⟩ := qAt j y ej
        exact qv'.cl _
      · refine ⟨Nat.zero_le _, ?_⟩
        rw [oNeN_lst, isEmpty_any]
        decreasing_trivial
        by_cases hb : ((vs.take i).any fun y => difP (plsD y) p) = true
        · rw [if_pos hb]
          refine ⟨by (first | omega | (rw [sz]; decide) | (rw [sz]; omega)), ?_, [], by simp⟩
          have hbad : badU vs i = true := by
            unfold badU
            rw [epl]
            exact List.any_eq_true.mpr ⟨p, hpm, hb⟩
          rw [e0, firstK_some hi hj3 hbad]
        · rw [if_neg hb]
          refine ⟨rfl, ⟨_, _, rfl⟩, fun j hjm p' ep' => ?_⟩
          rcases Nat.lt_or_eq_of_le (Nat.le_of_lt_succ hjm) with z | z
          · exact hj4 j z p' ep'
          · subst z
            rw [ep] at ep'; cases ep'
            exact Bool.eq_false_iff.mpr hb
    · subst eM ed
      refine ⟨hl, rfl, ⟨_, _, _, rfl⟩, fun j hji => ?_⟩
      rcases Nat.lt_or_eq_of_le (Nat.le_of_lt_succ hji) with z | z
      · exact hj3 j z
      · subst z
        unfold badU
        rw [epl, List.any_eq_false]
        intro p hp
        obtain ⟨m, hm, em⟩ := List.getElem_of_mem hp
        have := hj4 m (by rw [List.length_map]; exact hm) p (by rw [List.getElem?_eq_getElem hm, em])
        rw [this]; simp
  · subst eM ed
    rw [hl] at hj3
    rw [firstK_none hj3] at e0
    simp only at e0
    decreasing_trivial
    exact ⟨e0.symm, [], by simp⟩
end
end L2.MK.W_k07

end

section
set_option Elab.async false
set_option linter.all false
set_option maxRecDepth 100000
set_option maxHeartbeats 1000000
set_option autoImplicit false
set_option exponentiation.threshold 2000
namespace L2.MK.W_k07
local macro_rules
  | `(tactic| decreasing_trivial) => `(tactic| try simp only [w_bind, w_pure, w_pure', w_opt, w_var, w_C, w_bin, w_un, w_call, w_fun, w_nil, w_cons, w_tup, w_lst, w_lstM, w_dctM, w_isBl, w_bTru, w_bOf, w_and, w_or, w_not, wb_and, wb_or, wb_not, wb_yes, w_if, w_chain, w_cut, w_cutM, w_sNo, w_isI, w_sAt, w_meth, w_setd,
  ws_skip, ws_seq, ws_exp, ws_ret, ws_retN, ws_if, ws_asg, ws_gN, ws_gNils, ws_gConss, ws_gTup, ws_gSub, ws_raise, ws_try, ws_noRet, sm_some,
  startD, List.map_cons, List.map_nil, List.length_cons, List.length_nil, List.replicate, List.cons_append, List.nil_append, List.getElem?_cons_zero, List.getElem?_cons_succ, List.set_cons_zero, List.set_cons_succ, Option.join_some, Option.join_none, Nat.reduceAdd, Nat.reduceSub, Nat.add_zero, Nat.zero_add,
  sqD_lst, sqD_tup, sqD_rol, gLen_lst, gLen_tup, gInt_int, gInt_bl, gAbs_int, oAdd_int, oSub_int, oLt_int, oLe_int, oGt_int, oGe_int, oIx_lst, oIx_tup, oEq_int, oNe_int, true_and, and_true, true_implies, seqF_lst, seqF_tup, seqF_str, sqF_lst, sqF_tup, truD_bl, isStr, isTupB, isLst, ↓reduceIte, Bool.false_eq_true, Bool.not_true, Bool.not_false, setPt_nm, setPt_tp, setPts_nil, setPts_cons, wipeD_nil, wipeD_cons])
open PySem PySem.Spec PyProof.Rows PySem.W He
def uI (ms : List D) : D := .ins "Union" [("members", .tup ms)]
/-- queries -/
def Qs (ms : List D) : Prop := ∀ d ∈ ms, ∃ hs xs, d = qI (.tup hs) xs ∧ Qv (.tup hs) xs
theorem Qs.vv {ms : List D} (h : Qs ms) : ∀ d ∈ ms, Vv d := fun d hd => by
  obtain ⟨hs, xs, rfl, q⟩ := h d hd
  exact vv_q q
theorem Qs.cl {ms : List D} (h : Qs ms) (n : Nat) : cls n ms = true := cls_mem.mpr fun d hd => by
  obtain ⟨hs, xs, rfl, q⟩ := h d hd
  exact q.cl n
theorem uI_cl {ms : List D} (h : Qs ms) (n : Nat) : cl n (uI ms) = true := by
  unfold uI
  show (cls n ms && true) = true
  rw [h.cl n]; rfl
theorem uerr_non {vs : List D} (h : uerr vs = .non) : 1 ≤ vs.length ∧ vs.length ≤ 3 ∧ ∀ d ∈ vs, isq d = true := by
  unfold uerr at h
  split at h
  · rename_i h1
    refine ⟨h1.1, h1.2, ?_⟩
    split at h
    · cases h
    · rename_i e
      exact all_at.mp fun j hj => by simpa using firstK_none_iff.mp e j hj
  · cases h
/-! keys -/
theorem alike_ats : ∀ {a b : List PyData}, (∀ p ∈ a, isAt p) → (∀ p ∈ b, isAt p) → alikeAll a b = true
  | [], _, _, _ => by simp [alikeAll]
  | _ :: _, [], _, _ => by simp [alikeAll]
  | x :: r, y :: s, h1, h2 => by
    obtain ⟨t, ns, rfl⟩ := h1 x (List.mem_cons_self ..)
    obtain ⟨t2, ns2, rfl⟩ := h2 y (List.mem_cons_self ..)
    have := alike_ats (a := r) (b := s) (fun p hp => h1 p (List.mem_cons_of_mem _ hp)) fun p hp => h2 p (List.mem_cons_of_mem _ hp)
    simp only [alikeAll, alike, alike_strs, this, Bool.and_self]
theorem depth_ats : ∀ {a : List PyData}, (∀ p ∈ a, isAt p) → PyData.depthAll a ≤ 3
  | [], _ => by simp [PyData.depthAll]
  | x :: r, h => by
    obtain ⟨t, ns, rfl⟩ := h x (List.mem_cons_self ..)
    have := depth_ats (a := r) fun p hp => h p (List.mem_cons_of_mem _ hp)
    simp only [PyData.depth, PyData.depthAll, depth_strs]
    omega
def isKey (p : PyData) : Prop := ∃ (ns : List Str) (ps : List PyData), p = .tuple [.tuple (ns.map .str), .tuple ps] ∧ ∀ a ∈ ps, isAt a
theorem sortOk_keys {ps : List PyData} (h : ∀ p ∈ ps, isKey p) : sortOk ps = true := by
  unfold sortOk
  rw [Bool.and_eq_true, Bool.and_eq_true, Bool.or_eq_true]
  refine ⟨List.all_eq_true.mpr fun a ha => List.all_eq_true.mpr fun b hb => ?_, .inl (List.all_eq_true.mpr fun p hp => ?_), List.all_eq_true.mpr fun p hp => ?_⟩
  · obtain ⟨ns, as, rfl, h1⟩ := h a ha
    obtain ⟨ns2, bs, rfl, h2⟩ := h b hb
    simp only [alike, alikeAll, alike_strs, alike_ats h1 h2, Bool.and_self]
  · obtain ⟨ns, as, rfl, h1⟩ := h p hp
    rfl
  · obtain ⟨ns, as, rfl, h1⟩ := h p hp
    refine decide_eq_true ?_
    have := depth_ats h1
    simp only [PyData.depth, PyData.depthAll, depth_strs]
    omega
def kF : D → D
  | .ins _ [(_, f), (_, x)] => .tup [f, x]
  | _ => .non
def mkq : D → D
  | .tup [f, .tup xs] => qI f (xs.mergeSort leD)
  | _ => .non
theorem py_key {hs xs : List D} (h : Qv (.tup hs) xs) : ∃ p, D.py (.tup [.tup hs, .tup xs]) = some p ∧ isKey p := by
  obtain ⟨ns, e, _⟩ := words_shape h.ok.hd
  cases e
  obtain ⟨ps, e2, a⟩ := pys_atoms h.ok.at_
  refine ⟨.tuple [.tuple (ns.map .str), .tuple ps], ?_, ns, ps, rfl, a⟩
  have e3 : D.py (.tup (ns.map D.str)) = some (.tuple (ns.map .str)) := by unfold D.py; rw [pys_strs]; rfl
  have e4 : D.py (.tup xs) = some (.tuple ps) := by unfold D.py; rw [e2]; rfl
  unfold D.py D.pys D.pys D.pys
  rw [e3, e4]; rfl
theorem pys_keys : ∀ {vs : List D}, Qs vs → ∃ ps, D.pys (vs.map kF) = some ps ∧ ∀ p ∈ ps, isKey p
  | [], _ => ⟨[], by rw [List.map_nil]; unfold D.pys; rfl, fun p h => nomatch h⟩
  | d :: r, h => by
    obtain ⟨hs, xs, rfl, q⟩ := h d (List.mem_cons_self ..)
    obtain ⟨ps, e, a⟩ := pys_keys (vs := r) fun y hy => h y (List.mem_cons_of_mem _ hy)
    obtain ⟨p, e2, k⟩ := py_key q
    refine ⟨p :: ps, ?_, fun p' hp => ?_⟩
    · rw [List.map_cons]
      unfold D.pys
      rw [show kF (qI (.tup hs) xs) = .tup [.tup hs, .tup xs] from rfl, e2, e]
    · rcases List.mem_cons.mp hp with z | z
      · rw [z]; exact k
      · exact a p' z
section
variable {K : Frag} {M : Sto} {Q : D → Sto → Prop} {X : XP}
theorem gSort_keys {vs : List D} (h : Qs vs) : gSort [.lst (vs.map kF)] M = some (.lst ((vs.map kF).mergeSort leD)) := by
  obtain ⟨ps, e, a⟩ := pys_keys h
  show (some (vs.map kF)).bind (fun ys => (D.pys ys).bind fun ps => if sortOk ps = true then some (D.lst (ys.mergeSort leD)) else none) = _
  rw [Option.bind_some, e, Option.bind_some, if_pos (sortOk_keys a)]
/-- Union(..) -/
theorem w_union (G : Kf K) {vs : List D} (hM : Ok M) (hv : ∀ d ∈ vs, Vv d) (hz : vs.length ≤ 1000)
    (q : ∀ ms, ms.length = vs.length → Qs ms → uerr vs = .non → Q (uI ms) M) (qx : uerr vs ≠ .non → X "InvalidUnion" [("reason", uerr vs)] M) : Wp (makeT "Union" (g_Union__init K) vs M) Q X := by
  unfold makeT
  rw [w_trim, w_makeK]
  unfold g_Union__init starV
  rw [if_pos ⟨by rw [List.length_cons]; omega, by rw [List.length_cons, sz]; omega⟩]
  rw [show ((D.ref M.length :: vs).take 1 ++ [D.tup ((D.ref M.length :: vs).drop 1)]) = [D.ref M.length, .tup vs] from rfl]
  rw [w_body]
  unfold fb_Union__init
  decreasing_trivial
  have ok1 : Ok (M ++ [MO.ins "Union" []]) := ok_snoc hM rfl
  refine w_union_error G ok1 hv ?_
  have eN : oIsNot (uerr vs) .non (M ++ [MO.ins "Union" []]) = some (.bl (!isNon (uerr vs))) := rfl
  have hr := cl_dOk (n := M.length) (uerr_ok vs).1
  decreasing_trivial
  rw [eN]
  decreasing_trivial
  by_cases h : uerr vs = .non
  · rw [h]
    rw [if_neg (by simp [isNon])]
    obtain ⟨l1, l3, hq⟩ := uerr_non h
    have hQs : Qs vs := fun d hd => (hv d hd).q (hq d hd)
    have at1 : (M ++ [MO.ins "Union" []])[M.length]? = some (.ins "Union" []) := by rw [List.getElem?_append_right (Nat.le_refl _)]; simp
    have s1 : ∀ v, setF ["Union"] "members" (.ref M.length) v (M ++ [MO.ins "Union" []]) = some (M ++ [MO.ins "Union" [(("members" : Str), v)]]) := fun v => by
      unfold setF
      simp only [at1]
      rw [if_pos ⟨by decide, by show 0 < 1000; decide⟩, List.set_append_right _ _ (Nat.le_refl _), Nat.sub_self]
      rfl
    simp only [ws_fld]
    decreasing_trivial
    refine w_lcP ((vs.map kF).mergeSort leD) (fun _ => true) mkq ok1 (by rw [List.length_mergeSort, List.length_map, sz]; omega) ?_ (fun x hx M2 o2 => ?_) (fun x hx _ => ?_) ?_
    · refine wi_seq ?_
      decreasing_trivial
      refine w_lcP vs (fun _ => true) kF ok1 (by rw [sz]; omega) ?_ (fun x hx M2 o2 => ?_) (fun x hx _ => ?_) ?_
      · refine wi_seq ?_
        decreasing_trivial
        (all_goals first | done | trivial | rfl | exact ⟨rfl, rfl⟩ | exact ⟨trivial, trivial⟩ | exact ⟨rfl, [], by simp⟩ | exact ⟨[], by simp⟩)
      · obtain ⟨hs, xs, rfl, qv⟩ := hQs x hx
        decreasing_trivial
        refine w_key o2 (cl_dOk qv.hf) (cls_dOk qv.hp) ?_
        exact ⟨rfl, rfl⟩
      · obtain ⟨hs, xs, rfl, qv⟩ := hQs x hx
        show (cl _ (.tup hs) && (cls _ xs && true)) = true
        rw [cl_dOk qv.hf, cls_dOk qv.hp]; rfl
      · rw [filter_yes, gSort_keys hQs]
        decreasing_trivial
        (all_goals first | done | trivial | rfl | exact ⟨rfl, rfl⟩ | exact ⟨trivial, trivial⟩ | exact ⟨rfl, [], by simp⟩ | exact ⟨[], by simp⟩)
    · have hx := (List.mergeSort_perm _ _).mem_iff.mp hx
      obtain ⟨d, hd, rfl⟩ := List.mem_map.mp hx
      obtain ⟨hs, xs, rfl, qv⟩ := hQs d hd
      have ek : kF (qI (.tup hs) xs) = .tup [.tup hs, .tup xs] := rfl
      rw [ek]
      decreasing_trivial
      refine w_queryV o2 (.inr rfl) qv ?_
      exact ⟨rfl, rfl⟩
    · have hx := (List.mergeSort_perm _ _).mem_iff.mp hx
      obtain ⟨d, hd, rfl⟩ := List.mem_map.mp hx
      obtain ⟨hs, xs, rfl, qv⟩ := hQs d hd
      exact (qv.perm (List.mergeSort_perm _ _)).cl _
    · rw [filter_yes]
      have hms : Qs (((vs.map kF).mergeSort leD).map mkq) := fun y hy => by
        obtain ⟨x, hx, rfl⟩ := List.mem_map.mp hy
        have hx := (List.mergeSort_perm _ _).mem_iff.mp hx
        obtain ⟨d, hd, rfl⟩ := List.mem_map.mp hx
        obtain ⟨hs, xs, rfl, qv⟩ := hQs d hd
        exact ⟨hs, xs.mergeSort leD, rfl, qv.perm (List.mergeSort_perm _ _)⟩
      have gt : ∀ ys (M : Sto), gTuple [.lst ys] M = some (.tup ys) := fun _ _ => rfl
      rw [gt]
      decreasing_trivial
      rw [s1, sm_some]
      refine trim_ins hM (fun p hp' => ?_) (q _ ?_ hms h)
      · rw [List.mem_singleton] at hp'; subst hp'
        exact hms.cl _
      · rw [List.length_map, List.length_mergeSort, List.length_map]
  · have hn : isNon (uerr vs) = false := by
      cases e : isNon (uerr vs)
      · rfl
      · exact absurd (isNon_iff.mp e) h
    rw [hn]
    decreasing_trivial
    unfold mkX
    decreasing_trivial
    rw [w_one]
    have hf' : ∀ p ∈ ([(("reason" : Str), uerr vs)] : List (Str × D)), cl M.length p.2 = true := fun p hp' => by
      rw [List.mem_singleton] at hp'; subst hp'; exact hr
    rw [thawf_cl hf', sm_some, List.take_left' rfl, thawSto_cl hM]
    exact qx h
end
end L2.MK.W_k07

end

section
set_option Elab.async false
set_option linter.all false
set_option maxRecDepth 100000
set_option maxHeartbeats 1000000
set_option autoImplicit false
set_option exponentiation.threshold 2000
namespace L2.MK.W_k07
local macro_rules
  | `(tactic| decreasing_trivial) => `(tactic| try simp only [w_bind, w_pure, w_pure', w_opt, w_var, w_C, w_bin, w_un, w_call, w_fun, w_nil, w_cons, w_tup, w_lst, w_lstM, w_dctM, w_isBl, w_bTru, w_bOf, w_and, w_or, w_not, wb_and, wb_or, wb_not, wb_yes, w_if, w_chain, w_cut, w_cutM, w_sNo, w_isI, w_sAt, w_meth, w_setd,
  ws_skip, ws_seq, ws_exp, ws_ret, ws_retN, ws_if, ws_asg, ws_gN, ws_gNils, ws_gConss, ws_gTup, ws_gSub, ws_raise, ws_try, ws_noRet, sm_some,
  startD, List.map_cons, List.map_nil, List.length_cons, List.length_nil, List.replicate, List.cons_append, List.nil_append, List.getElem?_cons_zero, List.getElem?_cons_succ, List.set_cons_zero, List.set_cons_succ, Option.join_some, Option.join_none, Nat.reduceAdd, Nat.reduceSub, Nat.add_zero, Nat.zero_add,
  sqD_lst, sqD_tup, sqD_rol, gLen_lst, gLen_tup, gInt_int, gInt_bl, gAbs_int, oAdd_int, oSub_int, oLt_int, oLe_int, oGt_int, oGe_int, oIx_lst, oIx_tup, oEq_int, oNe_int, true_and, and_true, true_implies, seqF_lst, seqF_tup, seqF_str, sqF_lst, sqF_tup, truD_bl, isStr, isTupB, isLst, ↓reduceIte, Bool.false_eq_true, Bool.not_true, Bool.not_false, setPt_nm, setPt_tp, setPts_nil, setPts_cons, wipeD_nil, wipeD_cons])
open PySem PySem.Spec PyProof.Rows PySem.W He
section
variable {K : Frag} {M : Sto} {Q : D → Sto → Prop} {X : XP}
/-- a call that may raise -/
theorem call_pureX {g : List D → Ev D} {ds : List D} (hM : Ok M) (h : Wp (g ds M) (fun d M' => ∃ L2, M' = M ++ L2 ∧ cl M.length d = true ∧ Q d M) (fun C fs M' => ∃ L2, M' = M ++ L2 ∧ clf M.length fs = true ∧ X C fs M)) : Wp (callT g ds M) Q X := by
  unfold callT
  rw [w_trim]
  refine h.monoX (fun d M' ⟨L2, e, c, q⟩ => ?_) fun C fs M' ⟨L2, e, c, q⟩ => ?_
  · subst e
    exact trim_same hM c q
  · subst e
    rw [thawf_clf c, sm_some, List.take_left' rfl, thawSto_cl hM]
    exact q
theorem uerr_clf (vs : List D) (n : Nat) : clf n [(("reason" : Str), uerr vs)] = true := by
  show (cl n (uerr vs) && true) = true
  rw [cl_dOk (uerr_ok vs).1]; rfl
/-- _law_make -/
theorem w_law_make (G : Kf K) {vs : List D} (hM : Ok M) (hv : ∀ d ∈ vs, Vv d) (hz : vs.length ≤ 4)
    (q : ∀ ms, ms.length = vs.length → Qs ms → uerr vs = .non → Q (uI ms) M) (qx : uerr vs ≠ .non → X "InvalidUnion" [("reason", uerr vs)] M) : Wp (callT (g_law_make K) [.lst vs] M) Q X := by
  refine call_pureX hM ?_
  have key : Wp (makeT "Union" (g_Union__init K) vs M) (fun d M' => ∃ L2, M' = M ++ L2 ∧ cl M.length d = true ∧ Q d M) (fun C fs M' => ∃ L2, M' = M ++ L2 ∧ clf M.length fs = true ∧ X C fs M) :=
    w_union G hM hv (by omega) (fun ms h1 h2 h3 => ⟨[], by simp, uI_cl h2 _, q ms h1 h2 h3⟩) fun h => ⟨[], by simp, uerr_clf vs _, qx h⟩
  unfold g_law_make
  rw [w_body]
  unfold fb_law_make
  decreasing_trivial
  match vs, hz, key with
  | [], _, key =>
    decreasing_trivial
    exact key
  | [a], _, key =>
    decreasing_trivial
    rw [if_neg (by simp), if_pos (by simp), show atI [a] 0 = some a from rfl]
    decreasing_trivial
    exact key
  | [a, b], _, key =>
    decreasing_trivial
    rw [if_neg (by simp), if_neg (by simp), if_pos (by simp), show atI [a, b] 0 = some a from rfl]
    decreasing_trivial
    rw [show atI [a, b] 1 = some b from rfl]
    decreasing_trivial
    exact key
  | [a, b, c], _, key =>
    decreasing_trivial
    rw [if_neg (by simp), if_neg (by simp), if_neg (by simp), if_pos (by simp), show atI [a, b, c] 0 = some a from rfl]
    decreasing_trivial
    rw [show atI [a, b, c] 1 = some b from rfl]
    decreasing_trivial
    rw [show atI [a, b, c] 2 = some c from rfl]
    decreasing_trivial
    exact key
  | [a, b, c, d], _, key =>
    decreasing_trivial
    rw [if_neg (by simp), if_neg (by simp), if_neg (by simp), if_neg (by simp), show atI [a, b, c, d] 0 = some a from rfl]
    decreasing_trivial
    rw [show atI [a, b, c, d] 1 = some b from rfl]
    decreasing_trivial
    rw [show atI [a, b, c, d] 2 = some c from rfl]
    decreasing_trivial
    rw [show atI [a, b, c, d] 3 = some d from rfl]
    decreasing_trivial
    exact key
  | a :: b :: c :: d :: e :: r, hz, _ => simp at hz
theorem fld_members (ms : List D) : oFld ["Union"] [] "members" (uI ms) M = some (.tup ms) := by
  show (if ("Union" : Str) ∈ (["Union"] : List Str) then fldD M "members" (uI ms) else none) = _
  rw [if_pos (by decide)]; rfl
/-- one | other -/
theorem w_or (G : Kf K) {as bs : List D} (hM : Ok M) (ha : Qs as) (hb : Qs bs) (la : as.length ≤ 100) (lb : bs.length ≤ 100)
    (q : ∀ ms, ms.length = as.length + bs.length → Qs ms → uerr (as ++ bs) = .non → Q (uI ms) M) (qx : uerr (as ++ bs) ≠ .non → X "InvalidUnion" [("reason", uerr (as ++ bs))] M) : Wp (evBinO [("Union", g_Union__or K)] (uI as) (uI bs) M) Q X := by
  refine ev_binO_ins (call_pureX hM ?_)
  unfold g_Union__or
  rw [w_body]
  unfold fb_Union__or
  decreasing_trivial
  have e : ∀ ms : List D, D.ins "Union" [(("members" : Str), D.tup ms)] = uI ms := fun _ => rfl
  rw [e, e, fld_members]
  decreasing_trivial
  rw [fld_members]
  decreasing_trivial
  rw [oAdd_tup (by rw [sz]; omega)]
  decreasing_trivial
  rw [w_aStar]
  decreasing_trivial
  have hv : ∀ d ∈ as ++ bs, Vv d := fun d hd => by
    rcases List.mem_append.mp hd with z | z
    · exact ha.vv d z
    · exact hb.vv d z
  exact w_union G hM hv (by rw [List.length_append]; omega) (fun ms h1 h2 h3 => ⟨[], by simp, uI_cl h2 _, q ms (by rw [h1, List.length_append]) h2 h3⟩) fun h => ⟨[], by simp, uerr_clf _ _, qx h⟩
theorem isi_lst {xs : List D} : gIsi K ["Query", "Union"] ["InvalidQuery", "InvalidUnion", "MarkError"] [.lst xs, .ty "list"] M = some (.bl true) := by
  show (some (.type "list")).bind (fun u => (kitOne K (.type "list") u).map D.bl) = _
  rw [Option.bind_some, kitOne_self]; rfl
theorem isi_uI (G : Kf K) {ms : List D} : gIsi K ["Query", "Union"] ["InvalidQuery", "InvalidUnion", "MarkError"] [uI ms, .ty "list"] M = some (.bl false) := by
  show (some (.type "list")).bind (fun u => ((if ("Union" : Str) ∈ (["Query", "Union"] : List Str) then kitOne K (.ref (ga K "Union")) u else none)).map D.bl) = _
  rw [Option.bind_some, if_pos (by decide), G.q_Union_list]; rfl
/-- the end of _law_raised -/
theorem isi_non (G : Kf K) : gIsi K ["Query", "Union"] ["InvalidQuery", "InvalidUnion", "MarkError"] [.non, .cls "InvalidUnion"] M = some (.bl false) := by
  show (some (.ref (ga K "InvalidUnion"))).bind (fun u => (kitOne K (.type "NoneType") u).map D.bl) = _
  rw [Option.bind_some, G.q_NoneType_InvalidUnion]; rfl
theorem isi_x1 (fs : List (Str × D)) : gIsi K ["Query", "Union"] ["InvalidQuery", "InvalidUnion", "MarkError"] [.exc "InvalidUnion" fs, .cls "InvalidUnion"] M = some (.bl true) := by
  show (if ("InvalidUnion" : Str) ∈ (["InvalidQuery", "InvalidUnion", "MarkError"] : List Str) then (some (.ref (ga K "InvalidUnion"))).bind (fun u => (kitOne K (.ref (ga K "InvalidUnion")) u).map D.bl) else none) = _
  rw [if_pos (by decide), Option.bind_some, kitOne_self]; rfl
theorem isi_x2 (G : Kf K) (fs : List (Str × D)) : gIsi K ["Query", "Union"] ["InvalidQuery", "InvalidUnion", "MarkError"] [.exc "InvalidUnion" fs, .ty "ValueError"] M = some (.bl true) := by
  show (if ("InvalidUnion" : Str) ∈ (["InvalidQuery", "InvalidUnion", "MarkError"] : List Str) then (some (.type "ValueError")).bind (fun u => (kitOne K (.ref (ga K "InvalidUnion")) u).map D.bl) else none) = _
  rw [if_pos (by decide), Option.bind_some, G.q_InvalidUnion_ValueError]; rfl
theorem fld_reason (r : D) : oFld [] ["InvalidQuery", "InvalidUnion"] "reason" (.exc "InvalidUnion" [(("reason" : Str), r)]) M = some r := by
  show (if ("InvalidUnion" : Str) ∈ (["InvalidQuery", "InvalidUnion"] : List Str) then fldD M "reason" (.exc "InvalidUnion" [(("reason" : Str), r)]) else none) = _
  rw [if_pos (by decide)]; rfl
/-- _law_raised of values -/
theorem w_raised_vs (G : Kf K) {vs : List D} {o : D} (hM : Ok M) (hv : ∀ d ∈ vs, Vv d) (hz : vs.length ≤ 4) (q : Q (uerr vs) M) : Wp (callT (g_law_raised K) [.lst vs, o] M) Q X := by
  refine call_is (r := uerr vs) hM (cl_dOk (uerr_ok vs).1) ?_ q
  unfold g_law_raised
  rw [w_body]
  unfold fb_law_raised
  decreasing_trivial
  rw [isi_lst]
  decreasing_trivial
  refine w_law_make G hM hv hz (fun ms h1 h2 h3 => ?_) fun h => ?_
  · decreasing_trivial
    rw [isi_non G]
    decreasing_trivial
    exact ⟨h3.symm, [], by simp⟩
  · simp only [G.e_InvalidUnion_MarkError, ws_unset]
    decreasing_trivial
    rw [isi_x1]
    decreasing_trivial
    rw [isi_x2 G]
    decreasing_trivial
    rw [fld_reason]
    decreasing_trivial
    exact ⟨[], by simp⟩
/-- .. of two unions -/
theorem w_raised_us (G : Kf K) {as bs : List D} (hM : Ok M) (ha : Qs as) (hb : Qs bs) (la : as.length ≤ 100) (lb : bs.length ≤ 100) (q : Q (uerr (as ++ bs)) M) : Wp (callT (g_law_raised K) [uI as, uI bs] M) Q X := by
  refine call_is (r := uerr (as ++ bs)) hM (cl_dOk (uerr_ok _).1) ?_ q
  unfold g_law_raised
  rw [w_body]
  unfold fb_law_raised
  decreasing_trivial
  rw [isi_uI G]
  decreasing_trivial
  simp only [w_binO]
  decreasing_trivial
  refine w_or G hM ha hb la lb (fun ms h1 h2 h3 => ?_) fun h => ?_
  · decreasing_trivial
    rw [isi_non G]
    decreasing_trivial
    exact ⟨h3.symm, [], by simp⟩
  · simp only [G.e_InvalidUnion_MarkError, ws_unset]
    decreasing_trivial
    rw [isi_x1]
    decreasing_trivial
    rw [isi_x2 G]
    decreasing_trivial
    rw [fld_reason]
    decreasing_trivial
    exact ⟨[], by simp⟩
/-- len(union), union.queries -/
theorem w_ulen {ms : List D} (hM : Ok M) (hl : ms.length ≤ 1000) (q : Q (.int ms.length) M) : Wp (gLenE [("Union", g_Union__len K)] [uI ms] M) Q X := by
  refine ev_len_ins ?_
  refine call_is (r := .int ms.length) hM rfl ?_ ⟨ms.length, rfl, by omega, by omega, q⟩
  unfold g_Union__len
  rw [w_body]
  unfold fb_Union__len
  decreasing_trivial
  have e : D.ins "Union" [(("members" : Str), D.tup ms)] = uI ms := rfl
  rw [e, fld_members]
  decreasing_trivial
  exact ⟨[], by simp⟩
theorem w_uqueries {ms : List D} (hM : Ok M) (h : Qs ms) (q : Q (.tup ms) M) : Wp (evPr [("Union", g_Union_queries K)] (uI ms) M) Q X := by
  refine ev_pr_ins (call_is (r := .tup ms) hM (h.cl 0) ?_ q)
  unfold g_Union_queries
  rw [w_body]
  unfold fb_Union_queries
  decreasing_trivial
  have e : D.ins "Union" [(("members" : Str), D.tup ms)] = uI ms := rfl
  rw [e, fld_members]
  decreasing_trivial
  exact ⟨[], by simp⟩
end
end L2.MK.W_k07

end

section
set_option Elab.async false
set_option linter.all false
set_option maxRecDepth 100000
set_option maxHeartbeats 1000000
set_option autoImplicit false
set_option exponentiation.threshold 2000
namespace L2.MK.W_k07
local macro_rules
  | `(tactic| decreasing_trivial) => `(tactic| try simp only [w_bind, w_pure, w_pure', w_opt, w_var, w_C, w_bin, w_un, w_call, w_fun, w_nil, w_cons, w_tup, w_lst, w_lstM, w_dctM, w_isBl, w_bTru, w_bOf, w_and, w_or, w_not, wb_and, wb_or, wb_not, wb_yes, w_if, w_chain, w_cut, w_cutM, w_sNo, w_isI, w_sAt, w_meth, w_setd,
  ws_skip, ws_seq, ws_exp, ws_ret, ws_retN, ws_if, ws_asg, ws_gN, ws_gNils, ws_gConss, ws_gTup, ws_gSub, ws_raise, ws_try, ws_noRet, sm_some,
  startD, List.map_cons, List.map_nil, List.length_cons, List.length_nil, List.replicate, List.cons_append, List.nil_append, List.getElem?_cons_zero, List.getElem?_cons_succ, List.set_cons_zero, List.set_cons_succ, Option.join_some, Option.join_none, Nat.reduceAdd, Nat.reduceSub, Nat.add_zero, Nat.zero_add,
  sqD_lst, sqD_tup, sqD_rol, gLen_lst, gLen_tup, gInt_int, gInt_bl, gAbs_int, oAdd_int, oSub_int, oLt_int, oLe_int, oGt_int, oGe_int, oIx_lst, oIx_tup, oEq_int, oNe_int, true_and, and_true, true_implies, seqF_lst, seqF_tup, seqF_str, sqF_lst, sqF_tup, truD_bl, isStr, isTupB, isLst, ↓reduceIte, Bool.false_eq_true, Bool.not_true, Bool.not_false, setPt_nm, setPt_tp, setPts_nil, setPts_cons, wipeD_nil, wipeD_cons])
open PySem PySem.Spec PyProof.Rows PySem.W He
/-! what is drawn -/
section
variable {K : Frag}
theorem eDraw : g_law_draw K = gDraw := rfl
theorem ePick : g_law_pick K = gPick := rfl
theorem eShuffle : g_law_shuffle K = gShuffle := rfl
theorem eWord : g_law_word K = gWord := rfl
theorem eSource : g_law_source K = gSource := rfl
end
theorem letter_abc {c : Nat} (h : isLetter c = true) : inAbc c = true := by
  have all : ((List.range 26).all fun i => inAbc (97 + i)) = true := by decide +kernel
  unfold isLetter at h
  simp only [Bool.and_eq_true, decide_eq_true_eq] at h
  have := List.all_eq_true.mp all (c - 97) (List.mem_range.mpr (by omega))
  rwa [show 97 + (c - 97) = c by omega] at this
/-- a name -/
def Wo (d : D) : Prop := ∃ x : Str, d = .str x ∧ wordB (.str x) = true ∧ dOk (.str x) = true
theorem wordB_iff {z : Str} : wordB (.str z) = true ↔ 1 ≤ z.cps.size ∧ z.cps.size ≤ 8 ∧ z.cps.toList.all inAbc = true := by
  rw [wordB_str]
  simp only [Bool.and_eq_true, decide_eq_true_eq]
theorem word_wo {n : Nat} {x : Str} (h : IsWord n x) (h1 : 1 ≤ n) (h8 : n ≤ 8) : Wo (.str x) :=
  ⟨x, rfl, wordB_iff.mpr ⟨by rw [h.1]; exact h1, by rw [h.1]; exact h8, List.all_eq_true.mpr fun c hc => letter_abc (h.2 c hc)⟩, word_ok h⟩
theorem Wo.txt {d : D} (h : Wo d) : Txt8 d := by
  obtain ⟨x, rfl, h1, h2⟩ := h
  have := (wordB_iff.mp h1).2.1
  exact ⟨x, rfl, h2, by omega⟩
theorem Wo.word {d : D} (h : Wo d) : wordB d = true := by obtain ⟨x, rfl, h1, _⟩ := h; exact h1
/-- how many places a table has -/
def siz (x : Str) : Nat := if x = "f" then 1 else if x = "g" then 3 else 2
theorem siz_le (x : Str) : 1 ≤ siz x ∧ siz x ≤ 3 := by
  unfold siz
  split
  · omega
  · split <;> omega
theorem siz_word {x : Str} (h : IsWord 4 x) : siz x = 2 := by
  unfold siz
  rw [if_neg (fun e => by have := h.1; rw [e] at this; cases this), if_neg (fun e => by have := h.1; rw [e] at this; cases this)]
def Sh (d : D) : Prop := ∃ x : Str, d = .tup [.str x, .int (siz x)] ∧ Wo (.str x)
theorem sh_cl {xs : List D} (h : ∀ x ∈ xs, Sh x) : cls 0 xs = true := cls_mem.mpr fun d hd => by
  obtain ⟨x, rfl, _⟩ := h d hd; rfl
theorem wo_cl {xs : List D} (h : ∀ x ∈ xs, Wo x) : cls 0 xs = true := txt_cl fun x hx => (h x hx).txt
theorem wo_con (x : Str) (h : (wordB (.str x) && dOk (.str x)) = true) : Wo (.str x) := by
  obtain ⟨a, b⟩ := Bool.and_eq_true_iff.mp h
  exact ⟨x, rfl, a, b⟩
theorem cut_lt (ys : List D) {j : Int} (h : 0 ≤ j) : ((cutD ys none (some j)).length : Int) ≤ j := by
  unfold cutD
  have s0 : HT.sIx ys.length 0 none = 0 := rfl
  have s1 : HT.sIx ys.length ys.length (some j) = min j.toNat ys.length := by
    show (if j < 0 then (j + (ys.length : Int)).toNat else min j.toNat ys.length) = _
    rw [if_neg (by omega)]
  rw [s0, s1, List.length_take]
  omega
section
variable {K : Frag} {M : Sto} {Q : D → Sto → Prop} {X : XP} {p T : Nat} {L : Sto}
theorem w_shapes (hM : At p T L M) (hL : Pl L) (hT : T + 20 < 1000000000) (q : ∀ ys M', ys ≠ [] → ys.length ≤ 6 → (∀ y ∈ ys, Sh y) → At p (T + 11) L M' → Q (.lst ys) M') : Wp (callT (g_law_shapes K) [.ref (p + 1)] M) Q X := by
  refine call_src hM hL ?_
  unfold g_law_shapes
  rw [w_body]
  unfold fb_law_shapes
  decreasing_trivial
  simp only [eWord, eShuffle, eDraw]
  refine ⟨by (first | omega | (rw [sz]; decide) | (rw [sz]; omega)), by (first | omega | (rw [sz]; decide) | (rw [sz]; omega)), by (first | omega | (rw [sz]; decide) | (rw [sz]; omega)), w_word (n := 4) hM hL (by omega) (by omega) fun x M1 hx a1 => ?_⟩
  decreasing_trivial
  have sh : ∀ y ∈ [D.tup [.str "e", .int 2], .tup [.str "f", .int 1], .tup [.str "g", .int 3], .tup [.str x, .int 2], .tup [.str "edgeofit", .int 2]], Sh y := by
    intro y hy
    simp only [List.mem_cons, List.not_mem_nil, or_false] at hy
    rcases hy with rfl | rfl | rfl | rfl | rfl
    · exact ⟨"e", rfl, wo_con _ (by decide +kernel)⟩
    · exact ⟨"f", rfl, wo_con _ (by decide +kernel)⟩
    · exact ⟨"g", rfl, wo_con _ (by decide +kernel)⟩
    · exact ⟨x, by rw [siz_word hx]; rfl, word_wo hx (by decide) (by decide)⟩
    · exact ⟨"edgeofit", rfl, wo_con _ (by decide +kernel)⟩
  refine ⟨by (first | omega | (rw [sz]; decide) | (rw [sz]; omega)), by (first | omega | (rw [sz]; decide) | (rw [sz]; omega)), by (first | omega | (rw [sz]; decide) | (rw [sz]; omega)), ?_⟩
  refine w_shuffle a1 hL ?_ rfl ?_ (sh_cl sh) fun ys M2 hp a2 => ?_
  · simp only [List.length_cons, List.length_nil]; omega
  · simp only [List.length_cons, List.length_nil]; omega
  decreasing_trivial
  refine w_draw a2 hL ?_ (by decide) (by decide) fun k M3 k0 k1 a3 => ?_
  · simp only [List.length_cons, List.length_nil]; omega
  decreasing_trivial
  rw [oCut_lst]
  decreasing_trivial
  have hl := hp.length_eq
  simp only [List.length_cons, List.length_nil] at hl
  have hy : ∀ y ∈ cutD ys none (some (1 + k)), Sh y := fun y h => sh y (hp.mem_iff.mp (cut_mem h))
  refine ⟨_, [], by rw [List.append_nil]; exact a3, sh_cl hy, fun M'' a => q _ M'' (cut_len (by omega) (fun e => by rw [e] at hl; cases hl)) (by have := cut_le ys none (some (1 + k)); omega) hy (a.mono ?_)⟩
  simp only [List.length_cons, List.length_nil]; omega
theorem w_variables (hM : At p T L M) (hL : Pl L) (hT : T + 40 < 1000000000) (q : ∀ ys M', ys ≠ [] → ys.length ≤ 5 → (∀ y ∈ ys, Wo y) → At p (T + 23) L M' → Q (.lst ys) M') : Wp (callT (g_law_variables K) [.ref (p + 1), .int 5] M) Q X := by
  refine call_src hM hL ?_
  unfold g_law_variables
  rw [w_body]
  unfold fb_law_variables
  decreasing_trivial
  simp only [eWord, eShuffle, eDraw]
  refine w_word (n := 5) hM hL (by omega) (by omega) fun x M1 hx a1 => ?_
  refine w_word (n := 7) a1 hL (by omega) (by omega) fun x2 M2 hx2 a2 => ?_
  decreasing_trivial
  have sh : ∀ y ∈ [D.str "x", .str "xy", .str "y", .str "z", .str "eightvar", .str "eightvas", .str "a", .str "b", .str x, .str x2], Wo y := by
    intro y hy
    simp only [List.mem_cons, List.not_mem_nil, or_false] at hy
    rcases hy with rfl | rfl | rfl | rfl | rfl | rfl | rfl | rfl | rfl | rfl
    · exact wo_con _ (by decide +kernel)
    · exact wo_con _ (by decide +kernel)
    · exact wo_con _ (by decide +kernel)
    · exact wo_con _ (by decide +kernel)
    · exact wo_con _ (by decide +kernel)
    · exact wo_con _ (by decide +kernel)
    · exact wo_con _ (by decide +kernel)
    · exact wo_con _ (by decide +kernel)
    · exact word_wo hx (by decide) (by decide)
    · exact word_wo hx2 (by decide) (by decide)
  refine ⟨by (first | omega | (rw [sz]; decide) | (rw [sz]; omega)), ?_⟩
  refine w_shuffle a2 hL ?_ rfl ?_ (wo_cl sh) fun ys M3 hp a3 => ?_
  · simp only [List.length_cons, List.length_nil]; omega
  · simp only [List.length_cons, List.length_nil]; omega
  decreasing_trivial
  refine w_draw a3 hL ?_ (by decide) (by decide) fun k M4 k0 k1 a4 => ?_
  · simp only [List.length_cons, List.length_nil]; omega
  decreasing_trivial
  rw [oCut_lst]
  decreasing_trivial
  have hl := hp.length_eq
  simp only [List.length_cons, List.length_nil] at hl
  have hy : ∀ y ∈ cutD ys none (some (1 + k)), Wo y := fun y h => sh y (hp.mem_iff.mp (cut_mem h))
  refine ⟨_, [], by rw [List.append_nil]; exact a4, wo_cl hy, fun M'' a => q _ M'' (cut_len (by omega) (fun e => by rw [e] at hl; cases hl)) (by have := cut_lt ys (j := 1 + k) (by omega); omega) hy (a.mono ?_)⟩
  simp only [List.length_cons, List.length_nil]; omega
end
end L2.MK.W_k07

end

section
set_option Elab.async false
set_option linter.all false
set_option maxRecDepth 100000
set_option maxHeartbeats 1000000
set_option autoImplicit false
set_option exponentiation.threshold 2000
namespace L2.MK.W_k07
local macro_rules
  | `(tactic| decreasing_trivial) => `(tactic| try simp only [w_bind, w_pure, w_pure', w_opt, w_var, w_C, w_bin, w_un, w_call, w_fun, w_nil, w_cons, w_tup, w_lst, w_lstM, w_dctM, w_isBl, w_bTru, w_bOf, w_and, w_or, w_not, wb_and, wb_or, wb_not, wb_yes, w_if, w_chain, w_cut, w_cutM, w_sNo, w_isI, w_sAt, w_meth, w_setd,
  ws_skip, ws_seq, ws_exp, ws_ret, ws_retN, ws_if, ws_asg, ws_gN, ws_gNils, ws_gConss, ws_gTup, ws_gSub, ws_raise, ws_try, ws_noRet, sm_some,
  startD, List.map_cons, List.map_nil, List.length_cons, List.length_nil, List.replicate, List.cons_append, List.nil_append, List.getElem?_cons_zero, List.getElem?_cons_succ, List.set_cons_zero, List.set_cons_succ, Option.join_some, Option.join_none, Nat.reduceAdd, Nat.reduceSub, Nat.add_zero, Nat.zero_add,
  sqD_lst, sqD_tup, sqD_rol, gLen_lst, gLen_tup, gInt_int, gInt_bl, gAbs_int, oAdd_int, oSub_int, oLt_int, oLe_int, oGt_int, oGe_int, oIx_lst, oIx_tup, oEq_int, oNe_int, true_and, and_true, true_implies, seqF_lst, seqF_tup, seqF_str, sqF_lst, sqF_tup, truD_bl, isStr, isTupB, isLst, ↓reduceIte, Bool.false_eq_true, Bool.not_true, Bool.not_false, setPt_nm, setPt_tp, setPts_nil, setPts_cons, wipeD_nil, wipeD_cons])
open PySem PySem.Spec PyProof.Rows PySem.W He
theorem gSetS_strs {M : Sto} {ys : List Str} (h : ys.length < 1000) : gSetS (.lst (ys.map .str)) M = some (.lst ((sortU ys).map .str)) := by
  show (if isTup (.lst (ys.map D.str)) = true then none else (strsD (ys.map .str)).bind fun ks => if ks.length < 1000 then some (D.lst ((sortU ks).map .str)) else none) = _
  rw [if_neg (by simp [isTup]), strsD_map]
  exact if_pos h
/-- an atom over the names vs -/
def AtmG (g : Str → Nat) (vs : List D) (d : D) : Prop := ∃ (t : Str) (ns : List Str), d = .tup [.str t, .tup (ns.map .str)] ∧ Wo (.str t) ∧ ns.length = g t ∧ ∀ s ∈ ns, Wo (.str s) ∧ D.str s ∈ vs
abbrev Atm (vs : List D) (d : D) : Prop := AtmG siz vs d
theorem atm_cl {vs xs : List D} (h : ∀ x ∈ xs, Atm vs x) : cls 0 xs = true := cls_mem.mpr fun d hd => by
  obtain ⟨t, ns, rfl, _⟩ := h d hd
  show (true && (cls 0 (ns.map D.str) && true)) = true
  rw [Bool.true_and, Bool.and_true]
  exact strs_cl ns 0
theorem wos_map {vs ys : List D} (h : ∀ y ∈ ys, Wo y ∧ y ∈ vs) : ∃ ns : List Str, ys = ns.map .str ∧ ∀ s ∈ ns, Wo (.str s) ∧ D.str s ∈ vs := by
  refine ⟨ys.map strOf, ?_, fun s hs => ?_⟩
  · rw [List.map_map]
    refine (List.map_id ys).symm.trans (List.map_congr_left fun x hx => ?_)
    obtain ⟨⟨z, rfl, _⟩, _⟩ := h x hx
    rfl
  · obtain ⟨x, hx, rfl⟩ := List.mem_map.mp hs
    have := h x hx
    obtain ⟨⟨z, rfl, _⟩, _⟩ := this
    exact h _ hx
section
variable {K : Frag} {M : Sto} {Q : D → Sto → Prop} {X : XP} {p T : Nat} {L : Sto}
theorem w_atoms {sh vs : List D} {most : Nat} (m1 : 1 ≤ most) (m6 : most ≤ 6) (hM : At p T L M) (hL : Pl L) (hT : T + 100 < 1000000000) (h1 : sh ≠ []) (h2 : sh.length ≤ 6) (h3 : ∀ y ∈ sh, Sh y) (h4 : vs ≠ []) (h5 : vs.length ≤ 10) (h6 : ∀ y ∈ vs, Wo y)
    (q : ∀ ys M', ys ≠ [] → ys.length ≤ most → (∀ y ∈ ys, Atm vs y) → At p (T + 27) L M' → Q (.lst ys) M') : Wp (callT (g_law_atoms K) [.ref (p + 1), .lst sh, .lst vs, .int (most : Nat)] M) Q X := by
  refine call_srcL hM hL ?_
  unfold g_law_atoms
  rw [w_body]
  unfold fb_law_atoms
  decreasing_trivial
  simp only [ePick, eDraw]
  refine ⟨by (first | omega | (rw [sz]; decide) | (rw [sz]; omega)), ?_⟩
  rw [hM.length]
  refine ws_for (fun zs i δ M' => zs.length ≤ most ∧ 1 ≤ zs.length ∧ ∃ (u5 u6 u7 u8 : Option D) (ys : List D), δ = [some (.ref (p + 1)), some (.lst sh), some (.lst vs), some (.int (most : Nat)), some (.ref (p + 2 + L.length)), u5, u6, u7, u8] ∧ ys.length = i ∧ (∀ y ∈ ys, Atm vs y) ∧ At p (T + 1 + 4 * i) (L ++ [.lst ys]) M') ?_
  refine wi_rng1 ?_
  decreasing_trivial
  refine w_draw (hM.push _) (hL.snoc rfl) (by omega) (by omega) (by omega) fun k M1 k0 k1 a1 => ?_
  decreasing_trivial
  refine ⟨_, rfl, by omega, by omega, ⟨by rw [rngD_length]; omega, by rw [rngD_length]; omega, none, none, none, none, [], rfl, rfl, fun y h => (nomatch h), a1⟩, fun i x δ M2 hx ⟨l1, l2, u5, u6, u7, u8, ys, ed, hl, hy, ha⟩ => ?_, fun δ M2 ⟨l1, l2, u5, u6, u7, u8, ys, ed, hl, hy, ha⟩ => ?_⟩
  · subst ed
    obtain ⟨rfl, hi⟩ := rng_get hx
    rw [rngD_length] at l1
    decreasing_trivial
    refine w_pick ha (hL.snoc (atm_cl hy)) (by omega) (.inl rfl) h1 (by omega) (sh_cl h3) fun s hs M3 a3 => ?_
    obtain ⟨t, rfl, o1⟩ := h3 s hs
    have hsz := siz_le t
    decreasing_trivial
    refine ⟨tyOk_ref (at_last a3), ?_⟩
    refine w_lcPick (v := .lst vs) (xs := vs) (n := siz t) a3 (hL.snoc (atm_cl hy)) (by omega) (by omega) (.inl h4) (by omega) (wo_cl h6) ?_ (fun _ => rfl) (fun _ => rfl) (.inl rfl) fun zs M4 zl zm a4 => ?_
    · decreasing_trivial
      (all_goals first | done | trivial | rfl | exact ⟨rfl, rfl⟩ | exact ⟨trivial, trivial⟩ | exact ⟨rfl, [], by simp⟩ | exact ⟨[], by simp⟩)
    have gt : ∀ (M : Sto), gTuple [.lst zs] M = some (.tup zs) := fun _ => rfl
    rw [gt]
    decreasing_trivial
    refine ⟨by (first | omega | (rw [sz]; decide) | (rw [sz]; omega)), ?_⟩
    rw [append_ref (at_last a4) (by rw [sz]; omega)]
    decreasing_trivial
    obtain ⟨ns, rfl, hns⟩ := wos_map (vs := vs) fun y h => ⟨h6 y (zm y h), zm y h⟩
    rw [List.length_map] at zl
    refine ⟨by omega, by rw [rngD_length]; omega, _, _, _, _, _, rfl, by simp [hl], fun y h => ?_, (set_last a4).mono (by omega)⟩
    rcases List.mem_append.mp h with z | z
    · exact hy y z
    · rw [List.mem_singleton] at z; subst z
      exact ⟨t, ns, rfl, o1, zl, hns⟩
  · subst ed
    rw [rngD_length] at l1 l2 hl ha
    decreasing_trivial
    refine w_draw ha (hL.snoc (atm_cl hy)) (by omega) (by decide) (by decide) fun k2 M3 k20 k21 a3 => ?_
    decreasing_trivial
    have yne : ys ≠ [] := fun e => by rw [e] at hl; simp at hl; omega
    have fin : ∀ (T' : Nat) (zs : List D) (M' : Sto), At p T' (L ++ [.lst zs]) M' → T' ≤ T + 27 → zs ≠ [] → zs.length ≤ most → (∀ y ∈ zs, Atm vs y) →
        ∃ (T' : Nat) (L2 : Sto) (j : Nat) (xs : List D), At p T' (L ++ L2) M' ∧ D.ref (p + 2 + L.length) = .ref (p + 2 + (L.length + j)) ∧ L2[j]? = some (.lst xs) ∧ cls 0 xs = true ∧ ∀ M'', At p T' L M'' → Q (.lst xs) M'' := fun T' zs M' a ht hz hzl hza =>
      ⟨T', [.lst zs], 0, zs, a, rfl, rfl, atm_cl hza, fun M'' a2 => q zs M'' hz hzl hza (a2.mono ht)⟩
    split
    · rw [gLen_ref (at_last a3)]
      decreasing_trivial
      split
      · rename_i hlt
        have hlt : ys.length < most := by
          have := of_decide_eq_true hlt
          omega
        refine ⟨tyOk_ref (at_last a3), ?_⟩
        refine w_pickR (i := L.length) (xs := ys) a3 (hL.snoc (atm_cl hy)) (by omega) (by rw [List.getElem?_append_right (Nat.le_refl _)]; simp) yne (by omega) fun y hym M4 a4 => ?_
        rw [append_ref (at_last a4) (by rw [sz]; omega)]
        decreasing_trivial
        refine fin _ (ys ++ [y]) _ (set_last a4) (by omega) (by simp) (by simp; omega) fun z hz => ?_
        rcases List.mem_append.mp hz with w | w
        · exact hy z w
        · rw [List.mem_singleton] at w; subst w; exact hy z hym
      · exact fin _ ys _ a3 (by omega) yne (by omega) hy
    · exact fin _ ys _ a3 (by omega) yne (by omega) hy
theorem nodup_len_le {α : Type} [DecidableEq α] : ∀ {l m : List α}, l.Nodup → (∀ a ∈ l, a ∈ m) → l.length ≤ m.length
  | [], m, _, _ => Nat.zero_le _
  | a :: r, m, hn, h => by
    rw [List.nodup_cons] at hn
    have ha := h a (List.mem_cons_self ..)
    have := nodup_len_le (l := r) (m := m.erase a) hn.2 fun b hb => (List.mem_erase_of_ne (fun e => hn.1 (by rw [← e]; exact hb))).mpr (h b (List.mem_cons_of_mem _ hb))
    rw [List.length_erase_of_mem ha] at this
    have : 0 < m.length := List.length_pos_of_mem ha
    rw [List.length_cons]; omega
/-- atoms and a head that make a query -/
theorem atoms_qvG {g : Str → Nat} (hg : ∀ t, 1 ≤ g t ∧ g t ≤ 3) {vs ys : List D} {hs : List Str} (h1 : ys ≠ []) (h6 : ys.length ≤ 6) (hy : ∀ y ∈ ys, AtmG g vs y) (hv : ∀ y ∈ vs, Wo y) (l5 : vs.length ≤ 5) (hh : hs.length ≤ 3) (hm : ∀ s ∈ hs, s ∈ ys.flatMap nmsS) : Qv (.tup (hs.map .str)) ys := by
  have nms : ∀ s, s ∈ ys.flatMap nmsS → Wo (.str s) ∧ D.str s ∈ vs := fun s h => by
    obtain ⟨y, hyy, hs⟩ := List.mem_flatMap.mp h
    obtain ⟨t, ns, rfl, o, l, n⟩ := hy y hyy
    rw [nmsS_atom] at hs
    exact n s hs
  have asm : ∀ y ∈ ys, Sm9 2 100 y := fun y hyy => by
    obtain ⟨t, ns, rfl, o, l, n⟩ := hy y hyy
    have s3 := hg t
    exact (pair_sm (k := 1) (n := 39) (((o.txt) |> txt_sm).mono (by omega) (by omega)) ((strs_sm (m := 3) (fun s hs => (n s hs).1.txt) (by omega)).mono (by omega) (by omega))).mono (by omega) (by omega)
  have hsm : Sm9 1 39 (.tup (hs.map .str)) := (strs_sm (m := 3) (fun s hs' => (nms s (hm s hs')).1.txt) hh).mono (by omega) (by omega)
  refine ⟨hsm.ok, sms_ok asm, by have := hsm.bk; omega, by have := sms_bk asm; omega, ?_⟩
  refine ⟨?_, List.length_pos_iff.mpr h1, h6, fun x hx => ?_, fun x hx y hyy e => ?_, fun d hd => ?_, ?_⟩
  · rw [wordsB_tup]
    simp only [Bool.and_eq_true, decide_eq_true_eq]
    refine ⟨Nat.zero_le _, by rw [List.length_map]; exact hh, List.all_eq_true.mpr fun d hd => ?_⟩
    obtain ⟨s, hs', rfl⟩ := List.mem_map.mp hd
    exact (nms s (hm s hs')).1.word
  · obtain ⟨t, ns, rfl, o, l, n⟩ := hy x hx
    have s3 := hg t
    show (wordB (.str t) && wordsB 1 3 (.tup (ns.map .str))) = true
    rw [o.word, wordsB_tup]
    simp only [Bool.and_eq_true, decide_eq_true_eq, true_and]
    refine ⟨by rw [List.length_map]; omega, by rw [List.length_map]; omega, List.all_eq_true.mpr fun d hd => ?_⟩
    obtain ⟨s, hs', rfl⟩ := List.mem_map.mp hd
    exact (n s hs').1.word
  · obtain ⟨t, ns, rfl, o, l, n⟩ := hy x hx
    obtain ⟨t2, ns2, rfl, o2, l2, n2⟩ := hy y hyy
    have e : t = t2 := e
    show (ns.map D.str).length = (ns2.map D.str).length
    rw [List.length_map, List.length_map, l, l2, e]
  · obtain ⟨s, hs', rfl⟩ := List.mem_map.mp (show d ∈ hs.map D.str from hd)
    exact mem_sortU.mpr (hm s hs')
  · have : (vars ys).length ≤ (vs.map strOf).length := nodup_len_le (nodup_sortU _) fun a ha => by
      have := (nms a (mem_sortU.mp ha)).2
      exact List.mem_map.mpr ⟨_, this, rfl⟩
    rw [List.length_map] at this
    omega
theorem atoms_qv {vs ys : List D} {hs : List Str} (h1 : ys ≠ []) (h6 : ys.length ≤ 6) (hy : ∀ y ∈ ys, Atm vs y) (hv : ∀ y ∈ vs, Wo y) (l5 : vs.length ≤ 5) (hh : hs.length ≤ 3) (hm : ∀ s ∈ hs, s ∈ ys.flatMap nmsS) : Qv (.tup (hs.map .str)) ys := atoms_qvG siz_le h1 h6 hy hv l5 hh hm
theorem w_parts {sh : List D} {w most : Nat} (hw : w ≤ 3) (m1 : 1 ≤ most) (m6 : most ≤ 6) (hM : At p T L M) (hL : Pl L) (hT : T + 200 < 1000000000) (h1 : sh ≠ []) (h2 : sh.length ≤ 6) (h3 : ∀ y ∈ sh, Sh y)
    (q : ∀ h ys M', Qv h ys → At p (T + 60) L M' → Q (.tup [h, .lst ys]) M') : Wp (callT (g_law_parts K) [.ref (p + 1), .lst sh, .int (most : Nat), .int (w : Nat)] M) Q X := by
  refine call_src hM hL ?_
  unfold g_law_parts
  rw [w_body]
  unfold fb_law_parts
  decreasing_trivial
  simp only [ePick]
  refine w_variables hM hL (by omega) fun vs M1 v1 v2 v3 a1 => ?_
  decreasing_trivial
  refine w_atoms m1 m6 a1 hL (by omega) h1 h2 h3 v1 (by omega) v3 fun ys M2 y1 y2 y3 a2 => ?_
  decreasing_trivial
  refine ⟨by (first | omega | (rw [sz]; decide) | (rw [sz]; omega)), ?_⟩
  refine ws_for (fun _ i δ M' => M2 = M' ∧ ∃ (u7 u8 u9 : Option D) (ss : List Str), δ = [some (.ref (p + 1)), some (.lst sh), some (.int (most : Nat)), some (.int (w : Nat)), some (.lst vs), some (.lst ys), some (.lst (ss.map .str)), u7, u8, u9] ∧ ss.length ≤ 3 * i ∧ (0 < i → ss ≠ []) ∧ ∀ s ∈ ss, s ∈ ys.flatMap nmsS) ?_
  refine wi_seq ?_
  decreasing_trivial
  refine ⟨⟨none, none, none, [], rfl, by simp, fun h => absurd h (by omega), fun s h => (nomatch h)⟩, fun i x δ M3 hx ⟨eM, u7, u8, u9, ss, ed, s1, s2, s3⟩ => ?_, fun δ M3 ⟨eM, u7, u8, u9, ss, ed, s1, s2, s3⟩ => ?_⟩
  · subst eM ed
    have hi : i < ys.length := (List.getElem?_eq_some_iff.mp hx).1
    have hxm := List.mem_of_getElem? hx
    obtain ⟨t, ns, rfl, o1, n1, n3⟩ := y3 x hxm
    have hsz := siz_le t
    decreasing_trivial
    rw [gList_tup]
    decreasing_trivial
    rw [oAdd_lst (by rw [List.length_map, List.length_map, sz]; omega), ← List.map_append]
    decreasing_trivial
    rw [gSetS_strs (by rw [List.length_append]; omega)]
    decreasing_trivial
    have sl := sortU_len (ss ++ ns)
    rw [List.length_append] at sl
    refine ⟨_, _, _, sortU (ss ++ ns), rfl, by omega, fun _ e => ?_, fun s hs => ?_⟩
    · cases ns with
      | nil => simp at n1; omega
      | cons a r =>
        have : a ∈ sortU (ss ++ a :: r) := mem_sortU.mpr (by simp)
        rw [e] at this; cases this
    · rcases List.mem_append.mp (mem_sortU.mp hs) with z | z
      · exact s3 s z
      · exact List.mem_flatMap.mpr ⟨_, hxm, by rw [nmsS_atom]; exact z⟩
  · subst eM ed
    decreasing_trivial
    have hne : ss ≠ [] := s2 (List.length_pos_iff.mpr y1)
    refine w_lcPick (v := .lst (ss.map .str)) (xs := ss.map .str) (n := w) a2 hL (by omega) (by omega) (.inl (fun e => hne (List.map_eq_nil_iff.mp e))) (by rw [List.length_map]; omega) (strs_cl ss 0) ?_ (fun _ => rfl) (fun _ => rfl) (.inl rfl) fun zs M4 zl zm a4 => ?_
    · decreasing_trivial
      (all_goals first | done | trivial | rfl | exact ⟨rfl, rfl⟩ | exact ⟨trivial, trivial⟩ | exact ⟨rfl, [], by simp⟩ | exact ⟨[], by simp⟩)
    have gt : ∀ (M : Sto), gTuple [.lst zs] M = some (.tup zs) := fun _ => rfl
    rw [gt]
    decreasing_trivial
    obtain ⟨hs, rfl, hhs⟩ : ∃ hs : List Str, zs = hs.map .str ∧ ∀ s ∈ hs, s ∈ ss := by
      refine ⟨zs.map strOf, ?_, fun s hs => ?_⟩
      · rw [List.map_map]
        refine (List.map_id zs).symm.trans (List.map_congr_left fun x hx => ?_)
        obtain ⟨s, hs, rfl⟩ := List.mem_map.mp (zm x hx)
        rfl
      · obtain ⟨x, hx, rfl⟩ := List.mem_map.mp hs
        obtain ⟨s', hs', rfl⟩ := List.mem_map.mp (zm x hx)
        exact hs'
    rw [List.length_map] at zl
    have qv := atoms_qv (hs := hs) y1 (by omega) y3 v3 v2 (by omega) fun s h => s3 s (hhs s h)
    refine ⟨by (first | omega | (rw [sz]; decide) | (rw [sz]; omega)), _, [], by rw [List.append_nil]; exact a4, ?_, fun M'' a => q _ ys M'' qv (a.mono (by omega))⟩
    show (cls 0 (hs.map D.str) && (cls 0 ys && true)) = true
    rw [strs_cl, atm_cl y3]; rfl
end
end L2.MK.W_k07

end

section
set_option Elab.async false
set_option linter.all false
set_option maxRecDepth 100000
set_option maxHeartbeats 1000000
set_option autoImplicit false
set_option exponentiation.threshold 2000
namespace L2.MK.W_k07
local macro_rules
  | `(tactic| decreasing_trivial) => `(tactic| try simp only [w_bind, w_pure, w_pure', w_opt, w_var, w_C, w_bin, w_un, w_call, w_fun, w_nil, w_cons, w_tup, w_lst, w_lstM, w_dctM, w_isBl, w_bTru, w_bOf, w_and, w_or, w_not, wb_and, wb_or, wb_not, wb_yes, w_if, w_chain, w_cut, w_cutM, w_sNo, w_isI, w_sAt, w_meth, w_setd,
  ws_skip, ws_seq, ws_exp, ws_ret, ws_retN, ws_if, ws_asg, ws_gN, ws_gNils, ws_gConss, ws_gTup, ws_gSub, ws_raise, ws_try, ws_noRet, sm_some,
  startD, List.map_cons, List.map_nil, List.length_cons, List.length_nil, List.replicate, List.cons_append, List.nil_append, List.getElem?_cons_zero, List.getElem?_cons_succ, List.set_cons_zero, List.set_cons_succ, Option.join_some, Option.join_none, Nat.reduceAdd, Nat.reduceSub, Nat.add_zero, Nat.zero_add,
  sqD_lst, sqD_tup, sqD_rol, gLen_lst, gLen_tup, gInt_int, gInt_bl, gAbs_int, oAdd_int, oSub_int, oLt_int, oLe_int, oGt_int, oGe_int, oIx_lst, oIx_tup, oEq_int, oNe_int, true_and, and_true, true_implies, seqF_lst, seqF_tup, seqF_str, sqF_lst, sqF_tup, truD_bl, isStr, isTupB, isLst, ↓reduceIte, Bool.false_eq_true, Bool.not_true, Bool.not_false, setPt_nm, setPt_tp, setPts_nil, setPts_cons, wipeD_nil, wipeD_cons])
open PySem PySem.Spec PyProof.Rows PySem.W He
theorem repL_one (k : Nat) (s : Str) : repL k [.str s] = (List.replicate k s).map D.str := by
  unfold repL
  induction k with
  | zero => rfl
  | succ k ih => rw [List.replicate_succ, List.flatten_cons, ih, List.replicate_succ]; rfl
theorem x_wo : Wo (.str "x") := wo_con _ (by decide +kernel)
/-- one atom of x alone -/
theorem one_qv {t : Str} {n m : Nat} (ht : Wo (.str t)) (n1 : 1 ≤ n) (n3 : n ≤ 3) (m3 : m ≤ 3) : Qv (.tup ((List.replicate m ("x" : Str)).map .str)) [.tup [.str t, .tup ((List.replicate n ("x" : Str)).map .str)]] := by
  refine atoms_qvG (g := fun _ => n) (fun _ => ⟨n1, n3⟩) (vs := [.str "x"]) (by simp) (by simp) (fun y hy => ?_) (fun y hy => ?_) (by simp) (by simp; omega) fun s hs => ?_
  · rw [List.mem_singleton] at hy; subst hy
    refine ⟨t, List.replicate n "x", rfl, ht, by simp, fun s hs => ?_⟩
    have := List.eq_of_mem_replicate hs
    subst this
    exact ⟨x_wo, by simp⟩
  · rw [List.mem_singleton] at hy; subst hy
    exact x_wo
  · have := List.eq_of_mem_replicate hs
    subst this
    rw [List.flatMap_cons, List.flatMap_nil, List.append_nil, nmsS_atom]
    exact List.mem_replicate.mpr ⟨by omega, rfl⟩
theorem uerr_one {f : D} {xs : List D} (h : Qv f xs) : uerr [qI f xs] = .non := by
  have e : atD [qI f xs] 0 = qI f xs := rfl
  unfold uerr
  rw [if_pos ⟨Nat.le_refl 1, (by decide : 1 ≤ 3)⟩]
  rw [firstK_none (p := fun k => !isq (atD [qI f xs] k)) (fun j hj => by
    have : j = 0 := by simpa using hj
    subst this; rw [e]; rfl)]
  simp only
  rw [firstK_none (p := fun k => !decide ((hdD (atD [qI f xs] k)).length = (hdD (atD [qI f xs] 0)).length)) (fun j hj => by
    have : j = 0 := by simpa using hj
    subst this; simp)]
  simp only
  rw [firstK_none (p := badU [qI f xs]) (fun j hj => by
    have : j = 0 := by simpa using hj
    subst this
    unfold badU
    rw [List.take_zero, List.any_eq_false]
    intro p _; simp)]
theorem vv_dat {d : D} (h : (vOk d && (cl 0 d && !isq d)) = true) : Vv d := by
  simp only [Bool.and_eq_true, Bool.not_eq_true'] at h
  exact ⟨h.1, h.2.1, fun e => by rw [h.2.2] at e; cases e⟩
theorem vv_cls {vs : List D} (h : ∀ d ∈ vs, Vv d) : cls 0 vs = true := cls_mem.mpr fun d hd => (h d hd).clo
theorem Qv.sorted {f : D} {xs : List D} (h : Qv f xs) : Qv f (xs.mergeSort leD) := h.perm (List.mergeSort_perm _ _)
theorem wi_mono {o : Out (Nat × ID)} {P P' : List D → Sto → Prop} {X : XP} (h : Wi o P X) (m : ∀ xs M, P xs M → P' xs M) : Wi o P' X := by
  unfold Wi at *
  exact h.mono fun p M ⟨xs, a, b, c⟩ => ⟨xs, a, b, m xs M c⟩
section
variable {K : Frag} {M : Sto} {Q : D → Sto → Prop} {X : XP} {p T : Nat} {L : Sto}
theorem w_values (G : Kf K) {sh : List D} {w : Nat} (hw : w ≤ 3) (hM : At p T L M) (hL : Pl L) (hT : T + 1000 < 1000000000) (h1 : sh ≠ []) (h2 : sh.length ≤ 6) (h3 : ∀ y ∈ sh, Sh y)
    (q : ∀ vs M', vs.length ≤ 4 → (∀ d ∈ vs, Vv d) → At p (T + 600) L M' → Q (.lst vs) M') : Wp (callT (g_law_values K) [.ref (p + 1), .lst sh, .int (w : Nat)] M) Q X := by
  refine call_srcL hM hL ?_
  unfold g_law_values
  rw [w_body]
  unfold fb_law_values
  simp only [ePick, eDraw]
  (try simp only [startD, List.map_cons, List.map_nil, List.length_cons, List.length_nil, List.replicate, List.cons_append, List.nil_append, Nat.reduceAdd, Nat.reduceSub])
  refine ws_cut (fun δ M' => δ = [some (.ref (p + 1)), some (.lst sh), some (.int (w : Nat)), some (.ref (p + 2 + L.length)), none, none, none, none, none, none, none] ∧ At p T (L ++ [.lst []]) M') ?_ ?_
  · decreasing_trivial
    refine ⟨by (first | omega | (rw [sz]; decide) | (rw [sz]; omega)), ?_, hM.push _⟩
    rw [hM.length]
  rintro δ1 M1 ⟨rfl, a1⟩
  refine ws_cut (fun δ M' => ∃ (u4 u5 u6 : Option D) (vs : List D), δ = [some (.ref (p + 1)), some (.lst sh), some (.int (w : Nat)), some (.ref (p + 2 + L.length)), u4, u5, u6, none, none, none, none] ∧ vs.length ≤ 4 ∧ (∀ d ∈ vs, Vv d) ∧ At p (T + 400) (L ++ [.lst vs]) M') ?_ ?_
  · refine ws_for (fun zs i δ M' => zs.length ≤ 4 ∧ ∃ (u4 u5 u6 : Option D) (vs : List D), δ = [some (.ref (p + 1)), some (.lst sh), some (.int (w : Nat)), some (.ref (p + 2 + L.length)), u4, u5, u6, none, none, none, none] ∧ vs.length = i ∧ (∀ d ∈ vs, Vv d) ∧ At p (T + 1 + 70 * i) (L ++ [.lst vs]) M') ?_
    refine wi_rng1 ?_
    decreasing_trivial
    refine w_draw a1 (hL.snoc rfl) (by omega) (by decide) (by decide) fun k M2 k0 k1 a2 => ?_
    decreasing_trivial
    refine ⟨_, rfl, by omega, by omega, ⟨by rw [rngD_length]; omega, none, none, none, [], rfl, rfl, fun d h => (nomatch h), a2⟩, fun i x δ M3 hx ⟨l1, u4, u5, u6, vs, ed, hl, hv, ha⟩ => ?_, fun δ M3 ⟨l1, u4, u5, u6, vs, ed, hl, hv, ha⟩ => ?_⟩
    · subst ed
      obtain ⟨rfl, hi⟩ := rng_get hx
      rw [rngD_length] at l1
      decreasing_trivial
      have key := w_parts (K := K) (w := w) (most := 4) (Q := fun d M' => ∃ h ys, d = .tup [h, .lst ys] ∧ Qv h ys ∧ At p (T + 1 + 70 * i + 60) (L ++ [.lst vs]) M') (X := X0) hw (by decide) (by decide) ha (hL.snoc (vv_cls hv)) (by omega) h1 h2 h3 fun h ys M' qv a => ⟨h, ys, rfl, qv, a⟩
      refine Wp.any key ?_
      rintro d M4 ⟨h, ys, rfl, qv, a4⟩
      decreasing_trivial
      refine ⟨tyOk_ref (at_last a4), ?_⟩
      refine w_queryV (a4.ok (hL.snoc (vv_cls hv))) (.inl rfl) qv ?_
      rw [append_ref (at_last a4) (by rw [sz]; omega)]
      decreasing_trivial
      refine ⟨by rw [rngD_length]; omega, _, _, _, vs ++ [qI h (ys.mergeSort leD)], rfl, by rw [List.length_append, hl]; rfl, fun d hd => ?_, (set_last a4).mono (by omega)⟩
      rcases List.mem_append.mp hd with z | z
      · exact hv d z
      · rw [List.mem_singleton] at z; subst z; exact vv_q qv.sorted
    · subst ed
      rw [rngD_length] at l1 hl ha
      exact ⟨_, _, _, vs, rfl, by omega, hv, ha.mono (by omega)⟩
  rintro δ2 M2 ⟨u4, u5, u6, vs, rfl, l4, hv, a2⟩
  refine ws_cut (fun δ M' => ∃ (u4 u5 u6 u7 u8 u9 u10 : Option D) (vs : List D), δ = [some (.ref (p + 1)), some (.lst sh), some (.int (w : Nat)), some (.ref (p + 2 + L.length)), u4, u5, u6, u7, u8, u9, u10] ∧ vs.length ≤ 4 ∧ (∀ d ∈ vs, Vv d) ∧ At p (T + 600) (L ++ [.lst vs]) M') ?_ ?_
  · refine ws_for (fun zs i δ M' => zs.length ≤ 2 ∧ ∃ (u4 u5 u6 u7 u8 u9 u10 : Option D) (vs : List D), δ = [some (.ref (p + 1)), some (.lst sh), some (.int (w : Nat)), some (.ref (p + 2 + L.length)), u4, u5, u6, u7, u8, u9, u10] ∧ vs.length ≤ 4 ∧ (∀ d ∈ vs, Vv d) ∧ At p (T + 401 + 70 * i) (L ++ [.lst vs]) M') ?_
    refine wi_mono (P := fun xs M1 => ∃ n : Nat, n ≤ 2 ∧ xs = rngD 0 n ∧ At p (T + 401) (L ++ [.lst vs]) M1) ?_ ?_
    · refine wi_rng1 ?_
      decreasing_trivial
      refine w_draw a2 (hL.snoc (vv_cls hv)) (by omega) (by decide) (by decide) fun k M3 k0 k1 a3 => ?_
      decreasing_trivial
      exact ⟨_, rfl, by omega, by omega, k.toNat, by omega, rfl, a3⟩
    rintro xs M1 ⟨n, hn, rfl, a3⟩
    refine ⟨⟨by rw [rngD_length]; omega, _, _, _, _, _, _, _, vs, rfl, l4, hv, a3⟩, fun i x δ M3 hx ⟨l1, u4, u5, u6, u7, u8, u9, u10, vs, ed, hl, hv, ha⟩ => ?_, fun δ M3 ⟨l1, u4, u5, u6, u7, u8, u9, u10, vs, ed, hl, hv, ha⟩ => ?_⟩
    · subst ed
      obtain ⟨rfl, hi⟩ := rng_get hx
      rw [rngD_length] at l1
      rw [ws_gN]
      simp only [List.set_cons_zero, List.set_cons_succ]
      have pl := hL.snoc (m := .lst vs) (vv_cls hv)
      refine ws_cut (fun δ M' => ∃ (h : D) (ys : List D), δ = [some (.ref (p + 1)), some (.lst sh), some (.int (w : Nat)), some (.ref (p + 2 + L.length)), some (.int (i : Nat)), some h, some (.lst ys), u7, u8, u9, u10] ∧ Qv h ys ∧ At p (T + 401 + 70 * i + 61) (L ++ [.lst vs]) M') ?_ ?_
      · decreasing_trivial
        refine w_draw ha pl (by omega) (by decide) (by decide) fun k M4 k0 k1 a4 => ?_
        obtain ⟨w2, rfl⟩ := Int.eq_ofNat_of_zero_le k0
        have key := w_parts (K := K) (w := w2) (most := 3) (Q := fun d M' => ∃ h ys, d = .tup [h, .lst ys] ∧ Qv h ys ∧ At p (T + 401 + 70 * i + 61) (L ++ [.lst vs]) M') (X := X0) (by omega) (by decide) (by decide) a4 pl (by omega) h1 h2 h3 fun h ys M' qv a => ⟨h, ys, rfl, qv, a.mono (by omega)⟩
        refine Wp.any key ?_
        rintro d M5 ⟨h, ys, rfl, qv, a5⟩
        decreasing_trivial
        exact ⟨h, ys, rfl, qv, a5⟩
      rintro δ4 M4 ⟨h, ys, rfl, qv, a4⟩
      refine ws_cut (fun δ M' => ∃ (t : Str), δ = [some (.ref (p + 1)), some (.lst sh), some (.int (w : Nat)), some (.ref (p + 2 + L.length)), some (.int (i : Nat)), some h, some (.lst ys), some (.str t), some (.int (siz t)), u9, u10] ∧ Wo (.str t) ∧ At p (T + 401 + 70 * i + 62) (L ++ [.lst vs]) M') ?_ ?_
      · decreasing_trivial
        refine w_pick a4 pl (by omega) (.inl rfl) h1 (by omega) (sh_cl h3) fun s hs M5 a5 => ?_
        obtain ⟨t, rfl, o1⟩ := h3 s hs
        decreasing_trivial
        exact ⟨t, rfl, o1, a5.mono (by omega)⟩
      rintro δ5 M5 ⟨t, rfl, ht, a5⟩
      refine ws_cut (fun δ M' => ∃ (o : D), δ = [some (.ref (p + 1)), some (.lst sh), some (.int (w : Nat)), some (.ref (p + 2 + L.length)), some (.int (i : Nat)), some h, some (.lst ys), some (.str t), some (.int (siz t)), some o, u10] ∧ Vv o ∧ At p (T + 401 + 70 * i + 63) (L ++ [.lst vs]) M') ?_ ?_
      · decreasing_trivial
        refine ⟨by (first | omega | (rw [sz]; decide) | (rw [sz]; omega)), ?_⟩
        refine ⟨by (first | omega | (rw [sz]; decide) | (rw [sz]; omega)), ?_⟩
        refine w_pick (xs := [.int 0, .int (w : Nat)]) a5 pl (by omega) (.inl rfl) (by simp) (by simp) rfl fun s hs M6 a6 => ?_
        obtain ⟨m, rfl, hm⟩ : ∃ m : Nat, s = .int (m : Nat) ∧ m ≤ 3 := by
          simp only [List.mem_cons, List.not_mem_nil, or_false] at hs
          rcases hs with rfl | rfl
          · exact ⟨0, rfl, by omega⟩
          · exact ⟨w, rfl, hw⟩
        rw [oMul_tup0 (by omega) (by omega) (by simp), sm_some]
        decreasing_trivial
        refine ⟨by (first | omega | (rw [sz]; decide) | (rw [sz]; omega)), ?_⟩
        rw [oMod_int (by decide)]
        decreasing_trivial
        have s3 := siz_le t
        have e1 : (1 : Int) + ((siz t : Nat) : Int) % 3 = ((1 + siz t % 3 : Nat) : Int) := by omega
        rw [e1, oMul_tup0 (by omega) (by omega) (by simp), sm_some]
        decreasing_trivial
        refine ⟨by (first | omega | (rw [sz]; decide) | (rw [sz]; omega)), by (first | omega | (rw [sz]; decide) | (rw [sz]; omega)), ?_⟩
        rw [Int.toNat_natCast, Int.toNat_natCast, repL_one, repL_one]
        have oq := one_qv (n := 1 + siz t % 3) (m := m) ht (by omega) (by omega) hm
        refine w_queryV (a6.ok pl) (.inl rfl) oq ?_
        exact ⟨_, rfl, vv_q oq.sorted, a6.mono (by omega)⟩
      rintro δ6 M6 ⟨o, rfl, ho, a6⟩
      have oM6 := a6.ok pl
      refine ws_cut (fun δ M' => ∃ (od : List D), δ = [some (.ref (p + 1)), some (.lst sh), some (.int (w : Nat)), some (.ref (p + 2 + L.length)), some (.int (i : Nat)), some h, some (.lst ys), some (.str t), some (.int (siz t)), some o, some (.lst od)] ∧ (∀ d ∈ od, Vv d) ∧ od.length = 7 ∧ At p (T + 401 + 70 * i + 63) (L ++ [.lst vs]) M') ?_ ?_
      · decreasing_trivial
        refine ⟨by (first | omega | (rw [sz]; decide) | (rw [sz]; omega)), ?_⟩
        refine w_queryV oM6 (.inl rfl) qv ?_
        refine w_queryV oM6 (.inl rfl) qv ?_
        refine ⟨by (first | omega | (rw [sz]; decide) | (rw [sz]; omega)), _, rfl, fun d hd => ?_, rfl, a6⟩
        simp only [List.mem_cons, List.not_mem_nil, or_false] at hd
        rcases hd with rfl | rfl | rfl | rfl | rfl | rfl | rfl
        · exact vv_dat rfl
        · exact vv_dat rfl
        · exact vv_dat rfl
        · refine ⟨rfl, ?_, fun e => by cases e⟩
          show (cl 0 h && (cls 0 ys && true)) = true
          rw [cl_dOk qv.hf, cls_dOk qv.hp]; rfl
        · exact ho
        · exact vv_q qv.sorted
        · exact vv_q qv.sorted
      rintro δ7 M7 ⟨od, rfl, hod, lod, a7⟩
      have oM7 := a7.ok pl
      refine ws_cut (fun δ M' => ∃ (od : List D), δ = [some (.ref (p + 1)), some (.lst sh), some (.int (w : Nat)), some (.ref (p + 2 + L.length)), some (.int (i : Nat)), some h, some (.lst ys), some (.str t), some (.int (siz t)), some o, some (.lst od)] ∧ (∀ d ∈ od, Vv d) ∧ od.length = 13 ∧ At p (T + 401 + 70 * i + 63) (L ++ [.lst vs]) M') ?_ ?_
      · decreasing_trivial
        have qq := vv_q qv.sorted
        refine w_queryV oM7 (.inl rfl) qv ?_
        refine w_union G oM7 (vs := [qI h (ys.mergeSort leD)]) (fun d hd => by rw [List.mem_singleton] at hd; subst hd; exact qq) (by simp) (fun ms m1 m2 _ => ?_) fun e => (e (uerr_one qv.sorted)).elim
        refine w_queryV oM7 (.inl rfl) qv ?_
        refine ⟨by (first | omega | (rw [sz]; decide) | (rw [sz]; omega)), ?_⟩
        refine w_queryV oM7 (.inl rfl) qv ?_
        refine ⟨by (first | omega | (rw [sz]; decide) | (rw [sz]; omega)), by (first | omega | (rw [sz]; decide) | (rw [sz]; omega)), by (first | omega | (rw [sz]; decide) | (rw [sz]; omega)), by (first | omega | (rw [sz]; decide) | (rw [sz]; omega)), by (first | omega | (rw [sz]; decide) | (rw [sz]; omega)), ?_⟩
        rw [oAdd_lst (by rw [lod, sz]; simp)]
        decreasing_trivial
        refine ⟨_, rfl, fun d hd => ?_, by rw [List.length_append, lod]; rfl, a7⟩
        rcases List.mem_append.mp hd with z | z
        · exact hod d z
        simp only [List.mem_cons, List.not_mem_nil, or_false] at z
        rcases z with rfl | rfl | rfl | rfl | rfl | rfl
        · exact ⟨rfl, uI_cl m2 0, fun e => by cases e⟩
        · exact ⟨rfl, by show (cl 0 _ && true) = true; rw [qq.clo]; rfl, fun e => by cases e⟩
        · exact ⟨rfl, by show (cl 0 _ && true) = true; rw [qq.clo]; rfl, fun e => by cases e⟩
        · exact vv_dat rfl
        · exact vv_dat rfl
        · exact vv_dat rfl
      rintro δ8 M8 ⟨od2, rfl, hod2, lod2, a8⟩
      rw [ws_if]
      decreasing_trivial
      refine ⟨by (first | omega | (rw [sz]; decide) | (rw [sz]; omega)), ?_⟩
      rw [oNeN_ref (at_last a8)]
      decreasing_trivial
      by_cases hne : vs = []
      · subst hne
        rw [if_neg (by simp)]
        exact ⟨by rw [rngD_length]; omega, _, _, _, _, _, _, _, [], rfl, by simp, fun d h => (nomatch h), a8.mono (by omega)⟩
      rw [if_pos (by cases vs with
        | nil => exact absurd rfl hne
        | cons a r => rfl)]
      refine w_pick a8 pl (by omega) (.inl rfl) (fun e => by rw [e] at lod2; cases lod2) (by omega) (vv_cls hod2) fun x hx M9 a9 => ?_
      decreasing_trivial
      rw [gLen_ref (at_last a9)]
      decreasing_trivial
      have lv : 0 < vs.length := List.length_pos_iff.mpr hne
      refine w_draw a9 pl (by omega) (by omega) (by omega) fun k2 M10 k20 k21 a10 => ?_
      rw [stI_ref (at_last a10) _ k20 k21]
      decreasing_trivial
      refine ⟨by rw [rngD_length]; omega, _, _, _, _, _, _, _, vs.set k2.toNat x, rfl, by rw [List.length_set]; omega, fun d hd => ?_, (set_last a10).mono (by omega)⟩
      rcases List.mem_or_eq_of_mem_set hd with z | z
      · exact hv d z
      · subst z; exact hod2 d hx
    · subst ed
      rw [rngD_length] at l1 ha
      exact ⟨_, _, _, _, _, _, _, vs, rfl, hl, hv, ha.mono (by omega)⟩
  rintro δ3 M3 ⟨v4, v5, v6, v7, v8, v9, v10, vs, rfl, l4, hv, a3⟩
  decreasing_trivial
  exact ⟨_, [.lst vs], 0, vs, a3, rfl, rfl, vv_cls hv, fun M'' a => q vs M'' l4 hv a⟩
end
end L2.MK.W_k07

end

section
set_option Elab.async false
set_option linter.all false
set_option maxRecDepth 100000
set_option maxHeartbeats 1000000
set_option autoImplicit false
set_option exponentiation.threshold 2000
namespace L2.MK.W_k07
local macro_rules
  | `(tactic| decreasing_trivial) => `(tactic| try simp only [w_bind, w_pure, w_pure', w_opt, w_var, w_C, w_bin, w_un, w_call, w_fun, w_nil, w_cons, w_tup, w_lst, w_lstM, w_dctM, w_isBl, w_bTru, w_bOf, w_and, w_or, w_not, wb_and, wb_or, wb_not, wb_yes, w_if, w_chain, w_cut, w_cutM, w_sNo, w_isI, w_sAt, w_meth, w_setd,
  ws_skip, ws_seq, ws_exp, ws_ret, ws_retN, ws_if, ws_asg, ws_gN, ws_gNils, ws_gConss, ws_gTup, ws_gSub, ws_raise, ws_try, ws_noRet, sm_some,
  startD, List.map_cons, List.map_nil, List.length_cons, List.length_nil, List.replicate, List.cons_append, List.nil_append, List.getElem?_cons_zero, List.getElem?_cons_succ, List.set_cons_zero, List.set_cons_succ, Option.join_some, Option.join_none, Nat.reduceAdd, Nat.reduceSub, Nat.add_zero, Nat.zero_add,
  sqD_lst, sqD_tup, sqD_rol, gLen_lst, gLen_tup, gInt_int, gInt_bl, gAbs_int, oAdd_int, oSub_int, oLt_int, oLe_int, oGt_int, oGe_int, oIx_lst, oIx_tup, oEq_int, oNe_int, true_and, and_true, true_implies, seqF_lst, seqF_tup, seqF_str, sqF_lst, sqF_tup, truD_bl, isStr, isTupB, isLst, ↓reduceIte, Bool.false_eq_true, Bool.not_true, Bool.not_false, setPt_nm, setPt_tp, setPts_nil, setPts_cons, wipeD_nil, wipeD_cons])
open PySem PySem.Spec PyProof.Rows PySem.W He
section
variable {K : Frag} {M : Sto} {Q : D → Sto → Prop} {X : XP} {p T : Nat} {L : Sto}
theorem oIs_non (d : D) : oIs d .non M = some (.bl (isNon d)) := rfl
theorem rep2 (ms : List D) : repL 2 ms = ms ++ ms := by
  unfold repL
  simp [List.replicate]
theorem uerr_same (vs : List D) : oNe (uerr vs) (uerr vs) M = some (.bl false) := oNe_same (uerr_ok vs).1 (by have := (uerr_ok vs).2; omega)
theorem law_ok (G : Kf K) (ns : List Int) : ∃ M, g_law K [.rol (ns.map .int)] [] = .ok (.bl true) M := by
  refine ws_end ?_
  unfold g_law
  rw [w_body]
  unfold fb_law
  simp only [eDraw, eSource, ePick]
  (try simp only [startD, List.map_cons, List.map_nil, List.length_cons, List.length_nil, List.replicate, List.cons_append, List.nil_append, Nat.reduceAdd, Nat.reduceSub])
  refine ws_cut (fun δ M' => ∃ p, δ = [some (.rol (ns.map .int)), some (.ref (p + 1)), none, none, none, none, none, none, none, none] ∧ At p 0 [] M') ?_ ?_
  · decreasing_trivial
    exact w_source fun p M' a => ⟨p, rfl, a⟩
  rintro δ1 M1 ⟨p, rfl, a1⟩
  refine ws_cut (fun _ _ => True) ?_ (fun δ2 M2 _ => by decreasing_trivial)
  refine ws_for (fun zs i δ M' => zs.length ≤ 20 ∧ ∃ (u2 u3 u4 u5 u6 u7 u8 u9 : Option D), δ = [some (.rol (ns.map .int)), some (.ref (p + 1)), u2, u3, u4, u5, u6, u7, u8, u9] ∧ At p (1300 * i) [] M') ?_
  refine wi_rng1 ?_
  rw [w_cons, w_C, w_nil]
  refine ⟨_, rfl, by decide, by decide, ⟨by rw [rngD_length]; decide, none, none, none, none, none, none, none, none, rfl, a1⟩, fun i x δ M2 hx ⟨l1, u2, u3, u4, u5, u6, u7, u8, u9, ed, ha⟩ => ?_, fun _ _ _ => trivial⟩
  subst ed
  obtain ⟨rfl, hi⟩ := rng_get hx
  have hi : i < 20 := hi
  rw [ws_gN]
  simp only [List.set_cons_zero, List.set_cons_succ]
  refine ws_cut (fun δ M' => ∃ sh : List D, δ = [some (.rol (ns.map .int)), some (.ref (p + 1)), some (.int (i : Nat)), some (.lst sh), u4, u5, u6, u7, u8, u9] ∧ sh ≠ [] ∧ sh.length ≤ 6 ∧ (∀ y ∈ sh, Sh y) ∧ At p (1300 * i + 11) [] M') ?_ ?_
  · decreasing_trivial
    exact w_shapes ha Pl.nil (by omega) fun sh M3 s1 s2 s3 a3 => ⟨sh, rfl, s1, s2, s3, a3⟩
  rintro δ3 M3 ⟨sh, rfl, s1, s2, s3, a3⟩
  refine ws_cut (fun δ M' => ∃ w : Nat, δ = [some (.rol (ns.map .int)), some (.ref (p + 1)), some (.int (i : Nat)), some (.lst sh), some (.int (w : Nat)), u5, u6, u7, u8, u9] ∧ w ≤ 3 ∧ At p (1300 * i + 12) [] M') ?_ ?_
  · decreasing_trivial
    refine w_draw a3 Pl.nil (by omega) (by decide) (by decide) fun k M4 k0 k1 a4 => ?_
    obtain ⟨w, rfl⟩ := Int.eq_ofNat_of_zero_le k0
    exact ⟨w, rfl, by omega, a4⟩
  rintro δ4 M4 ⟨w, rfl, hw, a4⟩
  refine ws_cut (fun δ M' => ∃ vs : List D, δ = [some (.rol (ns.map .int)), some (.ref (p + 1)), some (.int (i : Nat)), some (.lst sh), some (.int (w : Nat)), some (.lst vs), u6, u7, u8, u9] ∧ vs.length ≤ 4 ∧ (∀ d ∈ vs, Vv d) ∧ At p (1300 * i + 612) [] M') ?_ ?_
  · decreasing_trivial
    exact w_values G hw a4 Pl.nil (by omega) s1 s2 s3 fun vs M' l4 hv a => ⟨vs, rfl, l4, hv, a.mono (by omega)⟩
  rintro δ5 M5 ⟨vs, rfl, l4, hv, a5⟩
  have o5 := a5.ok Pl.nil
  refine ws_cut (fun δ M' => δ = [some (.rol (ns.map .int)), some (.ref (p + 1)), some (.int (i : Nat)), some (.lst sh), some (.int (w : Nat)), some (.lst vs), u6, u7, u8, u9] ∧ At p (1300 * i + 612) [] M') ?_ ?_
  · decreasing_trivial
    refine w_raised_vs G o5 hv l4 ?_
    refine w_law_expected G o5 hv ?_
    rw [uerr_same]
    decreasing_trivial
    exact a5
  rintro δ6 M6 ⟨rfl, a6⟩
  have o6 := a6.ok Pl.nil
  refine ws_cut (fun δ M' => ∃ (u7 u8 : Option D), δ = [some (.rol (ns.map .int)), some (.ref (p + 1)), some (.int (i : Nat)), some (.lst sh), some (.int (w : Nat)), some (.lst vs), u6, u7, u8, u9] ∧ At p (1300 * i + 612) [] M') ?_ ?_
  · rw [ws_if, w_bOf, w_bin, w_fun, w_cons, w_var]
    simp only [List.getElem?_cons_zero, List.getElem?_cons_succ, Option.join_some, sm_some]
    rw [w_nil]
    refine w_law_expected G o6 hv ?_
    rw [w_C, oIs_non, sm_some, w_isBl]
    by_cases he : uerr vs = .non
    rotate_left
    · rw [if_neg (fun e => he (isNon_iff.mp e)), ws_skip]
      exact ⟨_, _, rfl, a6⟩
    rw [if_pos (isNon_iff.mpr he)]
    refine ws_cut (fun δ M' => ∃ ms : List D, δ = [some (.rol (ns.map .int)), some (.ref (p + 1)), some (.int (i : Nat)), some (.lst sh), some (.int (w : Nat)), some (.lst vs), u6, some (uI ms), u8, u9] ∧ ms.length ≤ 4 ∧ Qs ms ∧ At p (1300 * i + 612) [] M') ?_ ?_
    · decreasing_trivial
      refine w_law_make G o6 hv l4 (fun ms h1 h2 _ => ⟨ms, rfl, by omega, h2, a6⟩) fun h => (h he).elim
    rintro δ7 M7 ⟨ms, rfl, lm, hq, a7⟩
    have o7 := a7.ok Pl.nil
    have hvv : ∀ d ∈ ms ++ ms, Vv d := fun d hd => by
      rcases List.mem_append.mp hd with z | z <;> exact hq.vv d z
    refine ws_cut (fun δ M' => δ = [some (.rol (ns.map .int)), some (.ref (p + 1)), some (.int (i : Nat)), some (.lst sh), some (.int (w : Nat)), some (.lst vs), u6, some (uI ms), some (uerr (ms ++ ms)), u9] ∧ At p (1300 * i + 612) [] M') ?_ ?_
    · decreasing_trivial
      simp only [w_unE]
      decreasing_trivial
      refine w_uqueries o7 hq ?_
      rw [gList_tup]
      decreasing_trivial
      rw [oMul_lst (by decide) (by decide) (by rw [sz]; show ms.length * 2 ≤ _; omega), sm_some]
      rw [show (2 : Int).toNat = 2 from rfl, rep2]
      refine w_law_expected G o7 hvv ?_
      exact ⟨rfl, a7⟩
    rintro δ8 M8 ⟨rfl, a8⟩
    have o8 := a8.ok Pl.nil
    rw [ws_if, wb_or, w_bOf, w_bin, w_fun]
    decreasing_trivial
    refine w_raised_us G o8 hq hq (by omega) (by omega) ?_
    rw [uerr_same]
    decreasing_trivial
    rw [oIs_non]
    decreasing_trivial
    by_cases he2 : uerr (ms ++ ms) = .non
    rotate_left
    · rw [if_neg (fun e => he2 (isNon_iff.mp e))]
      decreasing_trivial
      exact ⟨_, _, rfl, a8⟩
    rw [if_pos (isNon_iff.mpr he2)]
    simp only [w_callE, w_binO]
    decreasing_trivial
    simp only [w_binO]
    decreasing_trivial
    refine w_or G o8 hq hq (by omega) (by omega) (fun ms2 h1 h2 _ => ?_) fun h => (h he2).elim
    refine w_ulen o8 (by omega) ?_
    refine w_ulen o8 (by omega) ?_
    rw [oMul_int (mul_ok (by decide) (by have : ms.length < 2 ^ 400 := Nat.lt_of_le_of_lt lm (by decide); omega)), sm_some, oNe_int]
    decreasing_trivial
    rw [if_neg (by rw [h1]; simp; omega)]
    decreasing_trivial
    exact ⟨_, _, rfl, a8⟩
  rintro δ7 M7 ⟨v7, v8, rfl, a7⟩
  refine ws_cut (fun δ M' => ∃ os : List D, δ = [some (.rol (ns.map .int)), some (.ref (p + 1)), some (.int (i : Nat)), some (.lst sh), some (.int (w : Nat)), some (.lst vs), some (.lst os), v7, v8, u9] ∧ os.length ≤ 4 ∧ (∀ d ∈ os, Vv d) ∧ At p (1300 * i + 1220) [] M') ?_ ?_
  · decreasing_trivial
    refine w_draw a7 Pl.nil (by omega) (by decide) (by decide) fun k M8 k0 k1 a8 => ?_
    obtain ⟨k, rfl⟩ := Int.eq_ofNat_of_zero_le k0
    refine ⟨by (first | omega | (rw [sz]; decide) | (rw [sz]; omega)), ?_⟩
    refine w_pick (xs := [.int (w : Nat), .int (w : Nat), .int (k : Nat)]) a8 Pl.nil (by omega) (.inl rfl) (by simp) (by simp) rfl fun s hs M9 a9 => ?_
    obtain ⟨w2, rfl, hw2⟩ : ∃ m : Nat, s = .int (m : Nat) ∧ m ≤ 3 := by
      simp only [List.mem_cons, List.not_mem_nil, or_false] at hs
      rcases hs with rfl | rfl | rfl
      · exact ⟨w, rfl, hw⟩
      · exact ⟨w, rfl, hw⟩
      · exact ⟨k, rfl, by omega⟩
    exact w_values G hw2 a9 Pl.nil (by omega) s1 s2 s3 fun os M' l4 hv a => ⟨os, rfl, l4, hv, a.mono (by omega)⟩
  rintro δ8 M8 ⟨os, rfl, lo, hvo, a8⟩
  have o8 := a8.ok Pl.nil
  have fin : ∀ (u7 u9 : Option D) M', At p (1300 * i + 1220) [] M' → (rngD 0 ((20 : Int).toNat)).length ≤ 20 ∧ ∃ (v2 v3 v4 v5 v6 v7' v8' v9 : Option D), [some (.rol (ns.map .int)), some (D.ref (p + 1)), some (.int (i : Nat)), some (.lst sh), some (.int (w : Nat)), some (.lst vs), some (.lst os), u7, v8, u9] = [some (.rol (ns.map .int)), some (.ref (p + 1)), v2, v3, v4, v5, v6, v7', v8', v9] ∧ At p (1300 * (i + 1)) [] M' := fun u7 u9 M' a =>
    ⟨l1, _, _, _, _, _, _, _, _, rfl, a.mono (by omega)⟩
  rw [ws_if, wb_and, w_bOf, w_bin, w_fun, w_cons, w_var]
  simp only [List.getElem?_cons_zero, List.getElem?_cons_succ, Option.join_some, sm_some]
  rw [w_nil]
  refine w_law_expected G o8 hv ?_
  rw [w_C, oIs_non, sm_some, w_isBl]
  by_cases he : uerr vs = .non
  rotate_left
  · rw [if_neg (fun e => he (isNon_iff.mp e))]
    rw [if_neg (by simp), ws_skip]
    exact fin _ _ _ a8
  rw [if_pos (isNon_iff.mpr he)]
  rw [w_bOf, w_bin, w_fun, w_cons, w_var]
  simp only [List.getElem?_cons_zero, List.getElem?_cons_succ, Option.join_some, sm_some]
  rw [w_nil]
  refine w_law_expected G o8 hvo ?_
  rw [w_C, oIs_non, sm_some, w_isBl]
  by_cases he2 : uerr os = .non
  rotate_left
  · rw [if_neg (fun e => he2 (isNon_iff.mp e)), ws_skip]
    exact fin _ _ _ a8
  rw [if_pos (isNon_iff.mpr he2)]
  refine ws_cut (fun δ M' => ∃ ms ks : List D, δ = [some (.rol (ns.map .int)), some (.ref (p + 1)), some (.int (i : Nat)), some (.lst sh), some (.int (w : Nat)), some (.lst vs), some (.lst os), some (uI ms), v8, some (uI ks)] ∧ ms.length ≤ 4 ∧ ks.length ≤ 4 ∧ Qs ms ∧ Qs ks ∧ At p (1300 * i + 1220) [] M') ?_ ?_
  · rw [ws_par]
    decreasing_trivial
    refine w_law_make G o8 hv l4 (fun ms h1 h2 _ => ?_) fun h => (h he).elim
    refine w_law_make G o8 hvo lo (fun ks k1 k2 _ => ?_) fun h => (h he2).elim
    exact ⟨_, _, rfl, ms, ks, rfl, by omega, by omega, h2, k2, a8⟩
  rintro δ9 M9 ⟨ms, ks, rfl, lm, lk, hm, hk, a9⟩
  have o9 := a9.ok Pl.nil
  have hvv : ∀ d ∈ ms ++ ks, Vv d := fun d hd => by
    rcases List.mem_append.mp hd with z | z
    · exact hm.vv d z
    · exact hk.vv d z
  rw [ws_if, w_bOf, w_bin]
  decreasing_trivial
  refine w_raised_us G o9 hm hk (by omega) (by omega) ?_
  simp only [w_unE]
  decreasing_trivial
  refine w_uqueries o9 hm ?_
  rw [gList_tup]
  decreasing_trivial
  refine w_uqueries o9 hk ?_
  rw [gList_tup]
  decreasing_trivial
  rw [oAdd_lst (by rw [sz]; omega)]
  decreasing_trivial
  refine w_law_expected G o9 hvv ?_
  rw [uerr_same]
  decreasing_trivial
  exact fin _ _ _ a9
end
end L2.MK.W_k07

end

section
set_option Elab.async false
set_option linter.all false
set_option maxRecDepth 100000
set_option maxHeartbeats 4000000
set_option autoImplicit false
set_option exponentiation.threshold 2000
section
namespace L2.MK.W_k07
open PySem PySem.Spec PyProof.Rows PySem.W He
abbrev Pg : Program := PySem.Challenge.pw_marktables_k07_union_errors
def top (i : Nat) : Stmt := PySem.Challenge.pw_marktables_k07_union_errors.main.body.getD i (.Pass ⟨0, 0, 0, 0⟩)
def clsBody : Stmt → List Stmt
  | .ClassDef (body := b) .. => b
  | _ => []
abbrev s_Query_places : Stmt := (clsBody (top 20)).getD 4 (.Pass ⟨0, 0, 0, 0⟩)
theorem sc_Query_places : FnScope N_Query_places ["self"] (defScope s_Query_places) := ⟨rfl, rfl, rfl, by decide +kernel, rfl, by decide +kernel, by decide +kernel⟩
abbrev s_Query_head : Stmt := (clsBody (top 20)).getD 1 (.Pass ⟨0, 0, 0, 0⟩)
theorem sc_Query_head : FnScope N_Query_head ["self"] (defScope s_Query_head) := ⟨rfl, rfl, rfl, by decide +kernel, rfl, by decide +kernel, by decide +kernel⟩
abbrev s_law_expected : Stmt := top 37
theorem sc_law_expected : FnScope N_law_expected ["values"] (defScope s_law_expected) := ⟨rfl, rfl, rfl, by decide +kernel, rfl, by decide +kernel, by decide +kernel⟩
abbrev s_Query_atoms : Stmt := (clsBody (top 20)).getD 2 (.Pass ⟨0, 0, 0, 0⟩)
theorem sc_Query_atoms : FnScope N_Query_atoms ["self"] (defScope s_Query_atoms) := ⟨rfl, rfl, rfl, by decide +kernel, rfl, by decide +kernel, by decide +kernel⟩
abbrev s_key : Stmt := top 21
theorem sc_key : FnScope N_key ["query"] (defScope s_key) := ⟨rfl, rfl, rfl, by decide +kernel, rfl, by decide +kernel, by decide +kernel⟩
abbrev s_InvalidQuery__init : Stmt := (clsBody (top 3)).getD 0 (.Pass ⟨0, 0, 0, 0⟩)
theorem sc_InvalidQuery__init : FnScope N_InvalidQuery__init ["self", "reason"] (defScope s_InvalidQuery__init) := ⟨rfl, rfl, rfl, by decide +kernel, rfl, by decide +kernel, by decide +kernel⟩
abbrev s_names_in : Stmt := top 16
theorem sc_names_in : FnScope N_names_in ["atoms"] (defScope s_names_in) := ⟨rfl, rfl, rfl, by decide +kernel, rfl, by decide +kernel, by decide +kernel⟩
abbrev s_is_name : Stmt := top 13
theorem sc_is_name : FnScope N_is_name ["value"] (defScope s_is_name) := ⟨rfl, rfl, rfl, by decide +kernel, rfl, by decide +kernel, by decide +kernel⟩
abbrev s_are_names : Stmt := top 14
theorem sc_are_names : FnScope N_are_names ["value", "least", "most"] (defScope s_are_names) := ⟨rfl, rfl, rfl, by decide +kernel, rfl, by decide +kernel, by decide +kernel⟩
abbrev s_is_atom : Stmt := top 15
theorem sc_is_atom : FnScope N_is_atom ["value"] (defScope s_is_atom) := ⟨rfl, rfl, rfl, by decide +kernel, rfl, by decide +kernel, by decide +kernel⟩
abbrev s_query_error : Stmt := top 17
theorem sc_query_error : FnScope N_query_error ["head", "atoms"] (defScope s_query_error) := ⟨rfl, rfl, rfl, by decide +kernel, rfl, by decide +kernel, by decide +kernel⟩
abbrev s_Query__init : Stmt := (clsBody (top 20)).getD 0 (.Pass ⟨0, 0, 0, 0⟩)
theorem sc_Query__init : FnScope N_Query__init ["self", "head", "atoms"] (defScope s_Query__init) := ⟨rfl, rfl, rfl, by decide +kernel, rfl, by decide +kernel, by decide +kernel⟩
abbrev s_InvalidUnion__init : Stmt := (clsBody (top 5)).getD 0 (.Pass ⟨0, 0, 0, 0⟩)
theorem sc_InvalidUnion__init : FnScope N_InvalidUnion__init ["self", "reason"] (defScope s_InvalidUnion__init) := ⟨rfl, rfl, rfl, by decide +kernel, rfl, by decide +kernel, by decide +kernel⟩
abbrev s_other_places : Stmt := top 24
theorem sc_other_places : FnScope N_other_places ["known", "query"] (defScope s_other_places) := ⟨rfl, rfl, rfl, by decide +kernel, rfl, by decide +kernel, by decide +kernel⟩
abbrev s_union_error : Stmt := top 25
theorem sc_union_error : FnScope N_union_error ["queries"] (defScope s_union_error) := ⟨rfl, rfl, rfl, by decide +kernel, rfl, by decide +kernel, by decide +kernel⟩
abbrev s_Union__init : Stmt := (clsBody (top 26)).getD 0 (.Pass ⟨0, 0, 0, 0⟩)
theorem sc_Union__init : FnScope N_Union__init ["self", "queries"] (defScope s_Union__init) := ⟨rfl, rfl, rfl, by decide +kernel, rfl, by decide +kernel, by decide +kernel⟩
abbrev s_law_make : Stmt := top 38
theorem sc_law_make : FnScope N_law_make ["values"] (defScope s_law_make) := ⟨rfl, rfl, rfl, by decide +kernel, rfl, by decide +kernel, by decide +kernel⟩
abbrev s_Union__or : Stmt := (clsBody (top 26)).getD 4 (.Pass ⟨0, 0, 0, 0⟩)
theorem sc_Union__or : FnScope N_Union__or ["self", "other"] (defScope s_Union__or) := ⟨rfl, rfl, rfl, by decide +kernel, rfl, by decide +kernel, by decide +kernel⟩
abbrev s_law_raised : Stmt := top 39
theorem sc_law_raised : FnScope N_law_raised ["one", "other"] (defScope s_law_raised) := ⟨rfl, rfl, rfl, by decide +kernel, rfl, by decide +kernel, by decide +kernel⟩
abbrev s_Union_queries : Stmt := (clsBody (top 26)).getD 1 (.Pass ⟨0, 0, 0, 0⟩)
theorem sc_Union_queries : FnScope N_Union_queries ["self"] (defScope s_Union_queries) := ⟨rfl, rfl, rfl, by decide +kernel, rfl, by decide +kernel, by decide +kernel⟩
abbrev s_law_draw : Stmt := top 29
theorem sc_law_draw : FnScope N_law_draw ["source", "limit"] (defScope s_law_draw) := ⟨rfl, rfl, rfl, by decide +kernel, rfl, by decide +kernel, by decide +kernel⟩
abbrev s_law_pick : Stmt := top 30
theorem sc_law_pick : FnScope N_law_pick ["source", "values"] (defScope s_law_pick) := ⟨rfl, rfl, rfl, by decide +kernel, rfl, by decide +kernel, by decide +kernel⟩
abbrev s_law_atoms : Stmt := top 34
theorem sc_law_atoms : FnScope N_law_atoms ["source", "shapes", "variables", "most"] (defScope s_law_atoms) := ⟨rfl, rfl, rfl, by decide +kernel, rfl, by decide +kernel, by decide +kernel⟩
abbrev s_law_shuffle : Stmt := top 31
theorem sc_law_shuffle : FnScope N_law_shuffle ["source", "values"] (defScope s_law_shuffle) := ⟨rfl, rfl, rfl, by decide +kernel, rfl, by decide +kernel, by decide +kernel⟩
abbrev s_law_word : Stmt := top 32
theorem sc_law_word : FnScope N_law_word ["source", "size"] (defScope s_law_word) := ⟨rfl, rfl, rfl, by decide +kernel, rfl, by decide +kernel, by decide +kernel⟩
abbrev s_law_variables : Stmt := top 35
theorem sc_law_variables : FnScope N_law_variables ["source", "most"] (defScope s_law_variables) := ⟨rfl, rfl, rfl, by decide +kernel, rfl, by decide +kernel, by decide +kernel⟩
abbrev s_law_parts : Stmt := top 36
theorem sc_law_parts : FnScope N_law_parts ["source", "shapes", "most", "width"] (defScope s_law_parts) := ⟨rfl, rfl, rfl, by decide +kernel, rfl, by decide +kernel, by decide +kernel⟩
abbrev s_law_values : Stmt := top 40
theorem sc_law_values : FnScope N_law_values ["source", "shapes", "width"] (defScope s_law_values) := ⟨rfl, rfl, rfl, by decide +kernel, rfl, by decide +kernel, by decide +kernel⟩
abbrev s_Union__len : Stmt := (clsBody (top 26)).getD 2 (.Pass ⟨0, 0, 0, 0⟩)
theorem sc_Union__len : FnScope N_Union__len ["self"] (defScope s_Union__len) := ⟨rfl, rfl, rfl, by decide +kernel, rfl, by decide +kernel, by decide +kernel⟩
abbrev s_law_shapes : Stmt := top 33
theorem sc_law_shapes : FnScope N_law_shapes ["source"] (defScope s_law_shapes) := ⟨rfl, rfl, rfl, by decide +kernel, rfl, by decide +kernel, by decide +kernel⟩
abbrev s_law_source : Stmt := top 28
theorem sc_law_source : FnScope N_law_source ["script"] (defScope s_law_source) := ⟨rfl, rfl, rfl, by decide +kernel, rfl, by decide +kernel, by decide +kernel⟩
abbrev s_law : Stmt := top 41
theorem sc_law : FnScope N_law ["script"] (defScope s_law) := ⟨rfl, rfl, rfl, by decide +kernel, rfl, by decide +kernel, by decide +kernel⟩
/-- what the layout of the heap says -/
structure Gs (K : Frag) (mg : Str → Option Value) where
  fd_Query_places : FuncData
  fd_Query_head : FuncData
  fd_law_expected : FuncData
  fd_Query_atoms : FuncData
  fd_key : FuncData
  fd_InvalidQuery__init : FuncData
  fd_names_in : FuncData
  fd_is_name : FuncData
  fd_are_names : FuncData
  fd_is_atom : FuncData
  fd_query_error : FuncData
  fd_Query__init : FuncData
  fd_InvalidUnion__init : FuncData
  fd_other_places : FuncData
  fd_union_error : FuncData
  fd_Union__init : FuncData
  fd_law_make : FuncData
  fd_Union__or : FuncData
  fd_law_raised : FuncData
  fd_Union_queries : FuncData
  fd_law_draw : FuncData
  fd_law_pick : FuncData
  fd_law_atoms : FuncData
  fd_law_shuffle : FuncData
  fd_law_word : FuncData
  fd_law_variables : FuncData
  fd_law_parts : FuncData
  fd_law_values : FuncData
  fd_Union__len : FuncData
  fd_law_shapes : FuncData
  fd_law_source : FuncData
  fd_law : FuncData
  F_Query_places : FunD K "places" "Query.places" (defArgs s_Query_places) (defBody s_Query_places) (defScope s_Query_places) [] [] (pAd K ("Query", some "places")) fd_Query_places
  F_Query_head : FunD K "head" "Query.head" (defArgs s_Query_head) (defBody s_Query_head) (defScope s_Query_head) [] [] (pAd K ("Query", some "head")) fd_Query_head
  F_law_expected : FunD K "_law_expected" "_law_expected" (defArgs s_law_expected) (defBody s_law_expected) (defScope s_law_expected) [] [] (fAd K ("_law_expected", none)) fd_law_expected
  F_Query_atoms : FunD K "atoms" "Query.atoms" (defArgs s_Query_atoms) (defBody s_Query_atoms) (defScope s_Query_atoms) [] [] (pAd K ("Query", some "atoms")) fd_Query_atoms
  F_key : FunD K "key" "key" (defArgs s_key) (defBody s_key) (defScope s_key) [] [] (fAd K ("key", none)) fd_key
  F_InvalidQuery__init : FunD K "__init__" "InvalidQuery.__init__" (defArgs s_InvalidQuery__init) (defBody s_InvalidQuery__init) (defScope s_InvalidQuery__init) [] [] (fAd K ("InvalidQuery", some "__init__")) fd_InvalidQuery__init
  F_names_in : FunD K "names_in" "names_in" (defArgs s_names_in) (defBody s_names_in) (defScope s_names_in) [] [] (fAd K ("names_in", none)) fd_names_in
  F_is_name : FunD K "is_name" "is_name" (defArgs s_is_name) (defBody s_is_name) (defScope s_is_name) [] [] (fAd K ("is_name", none)) fd_is_name
  F_are_names : FunD K "are_names" "are_names" (defArgs s_are_names) (defBody s_are_names) (defScope s_are_names) [] [] (fAd K ("are_names", none)) fd_are_names
  F_is_atom : FunD K "is_atom" "is_atom" (defArgs s_is_atom) (defBody s_is_atom) (defScope s_is_atom) [] [] (fAd K ("is_atom", none)) fd_is_atom
  F_query_error : FunD K "query_error" "query_error" (defArgs s_query_error) (defBody s_query_error) (defScope s_query_error) [] [] (fAd K ("query_error", none)) fd_query_error
  F_Query__init : FunD K "__init__" "Query.__init__" (defArgs s_Query__init) (defBody s_Query__init) (defScope s_Query__init) [] [] (fAd K ("Query", some "__init__")) fd_Query__init
  F_InvalidUnion__init : FunD K "__init__" "InvalidUnion.__init__" (defArgs s_InvalidUnion__init) (defBody s_InvalidUnion__init) (defScope s_InvalidUnion__init) [] [] (fAd K ("InvalidUnion", some "__init__")) fd_InvalidUnion__init
  F_other_places : FunD K "other_places" "other_places" (defArgs s_other_places) (defBody s_other_places) (defScope s_other_places) [] [] (fAd K ("other_places", none)) fd_other_places
  F_union_error : FunD K "union_error" "union_error" (defArgs s_union_error) (defBody s_union_error) (defScope s_union_error) [] [] (fAd K ("union_error", none)) fd_union_error
  F_Union__init : FunD K "__init__" "Union.__init__" (defArgs s_Union__init) (defBody s_Union__init) (defScope s_Union__init) [] [] (fAd K ("Union", some "__init__")) fd_Union__init
  F_law_make : FunD K "_law_make" "_law_make" (defArgs s_law_make) (defBody s_law_make) (defScope s_law_make) [] [] (fAd K ("_law_make", none)) fd_law_make
  F_Union__or : FunD K "__or__" "Union.__or__" (defArgs s_Union__or) (defBody s_Union__or) (defScope s_Union__or) [] [] (fAd K ("Union", some "__or__")) fd_Union__or
  F_law_raised : FunD K "_law_raised" "_law_raised" (defArgs s_law_raised) (defBody s_law_raised) (defScope s_law_raised) [] [] (fAd K ("_law_raised", none)) fd_law_raised
  F_Union_queries : FunD K "queries" "Union.queries" (defArgs s_Union_queries) (defBody s_Union_queries) (defScope s_Union_queries) [] [] (pAd K ("Union", some "queries")) fd_Union_queries
  F_law_draw : FunD K "_law_draw" "_law_draw" (defArgs s_law_draw) (defBody s_law_draw) (defScope s_law_draw) [] [] (fAd K ("_law_draw", none)) fd_law_draw
  F_law_pick : FunD K "_law_pick" "_law_pick" (defArgs s_law_pick) (defBody s_law_pick) (defScope s_law_pick) [] [] (fAd K ("_law_pick", none)) fd_law_pick
  F_law_atoms : FunD K "_law_atoms" "_law_atoms" (defArgs s_law_atoms) (defBody s_law_atoms) (defScope s_law_atoms) [] [] (fAd K ("_law_atoms", none)) fd_law_atoms
  F_law_shuffle : FunD K "_law_shuffle" "_law_shuffle" (defArgs s_law_shuffle) (defBody s_law_shuffle) (defScope s_law_shuffle) [] [] (fAd K ("_law_shuffle", none)) fd_law_shuffle
  F_law_word : FunD K "_law_word" "_law_word" (defArgs s_law_word) (defBody s_law_word) (defScope s_law_word) [] [] (fAd K ("_law_word", none)) fd_law_word
  F_law_variables : FunD K "_law_variables" "_law_variables" (defArgs s_law_variables) (defBody s_law_variables) (defScope s_law_variables) [] [] (fAd K ("_law_variables", none)) fd_law_variables
  F_law_parts : FunD K "_law_parts" "_law_parts" (defArgs s_law_parts) (defBody s_law_parts) (defScope s_law_parts) [] [] (fAd K ("_law_parts", none)) fd_law_parts
  F_law_values : FunD K "_law_values" "_law_values" (defArgs s_law_values) (defBody s_law_values) (defScope s_law_values) [] [] (fAd K ("_law_values", none)) fd_law_values
  F_Union__len : FunD K "__len__" "Union.__len__" (defArgs s_Union__len) (defBody s_Union__len) (defScope s_Union__len) [] [] (fAd K ("Union", some "__len__")) fd_Union__len
  F_law_shapes : FunD K "_law_shapes" "_law_shapes" (defArgs s_law_shapes) (defBody s_law_shapes) (defScope s_law_shapes) [] [] (fAd K ("_law_shapes", none)) fd_law_shapes
  F_law_source : FunD K "_law_source" "_law_source" (defArgs s_law_source) (defBody s_law_source) (defScope s_law_source) [] [] (fAd K ("_law_source", none)) fd_law_source
  F_law : FunD K "law" "law" (defArgs s_law) (defBody s_law) (defScope s_law) [] [] (fAd K ("law", none)) fd_law
  b_range : mg "range" = none
  b_len : mg "len" = none
  k_Query : Cls K (ga K "Query")
  n_Query_rest : findIn K (.ref (ga K "Query")) "rest" = some none
  n_Query_first : findIn K (.ref (ga K "Query")) "first" = some none
  m_Query : mg "Query" = some (.ref (ga K "Query"))
  i_Query : InsC K (ga K "Query")
  i_Union : InsC K (ga K "Union")
  x_InvalidQuery : ExcC K (ga K "InvalidQuery")
  x_InvalidUnion : ExcC K (ga K "InvalidUnion")
  x_MarkError : ExcC K (ga K "MarkError")
  b_isinstance : mg "isinstance" = none
  m_law_expected : mg "_law_expected" = some (.ref (ga K "_law_expected"))
  b_ValueError : mg "ValueError" = none
  m_InvalidUnion : mg "InvalidUnion" = some (.ref (ga K "InvalidUnion"))
  xf_InvalidQuery : XfC K (ga K "InvalidQuery")
  n_InvalidQuery_reason : findIn K (.ref (ga K "InvalidQuery")) "reason" = some none
  xf_InvalidUnion : XfC K (ga K "InvalidUnion")
  n_InvalidUnion_reason : findIn K (.ref (ga K "InvalidUnion")) "reason" = some none
  b_list : mg "list" = none
  m_key : mg "key" = some (.ref (ga K "key"))
  b_sorted : mg "sorted" = none
  b_tuple : mg "tuple" = none
  o_InvalidQuery : OexC K (ga K "InvalidQuery")
  h_InvalidQuery : findIn K (.ref (ga K "InvalidQuery")) "__init__" = some (some (.ref (fAd K ("InvalidQuery", some "__init__"))))
  t_InvalidQuery : typeIn K (.ref (fAd K ("InvalidQuery", some "__init__"))) = some (.type "function")
  m_InvalidQuery : mg "InvalidQuery" = some (.ref (ga K "InvalidQuery"))
  c_MAX_VARIABLES : ∃ t, mg "MAX_VARIABLES" = some (.int (5) t)
  b_enumerate : mg "enumerate" = none
  m_names_in : mg "names_in" = some (.ref (ga K "names_in"))
  c_LETTERS : ∃ t, mg "LETTERS" = some (.str "abcdefghijklmnopqrstuvwxyz" t)
  b_all : mg "all" = none
  c_MAX_NAME : ∃ t, mg "MAX_NAME" = some (.int (8) t)
  b_str : mg "str" = none
  m_is_name : mg "is_name" = some (.ref (ga K "is_name"))
  c_MAX_PLACES : ∃ t, mg "MAX_PLACES" = some (.int (3) t)
  m_are_names : mg "are_names" = some (.ref (ga K "are_names"))
  m_is_atom : mg "is_atom" = some (.ref (ga K "is_atom"))
  c_MAX_ATOMS : ∃ t, mg "MAX_ATOMS" = some (.int (6) t)
  c_MAX_HEAD : ∃ t, mg "MAX_HEAD" = some (.int (3) t)
  m_query_error : mg "query_error" = some (.ref (ga K "query_error"))
  mk_Query : Mk K (ga K "Query") (ma K (ga K "Query") "__init__")
  k_Union : Cls K (ga K "Union")
  n_Union_members : findIn K (.ref (ga K "Union")) "members" = some none
  o_InvalidUnion : OexC K (ga K "InvalidUnion")
  h_InvalidUnion : findIn K (.ref (ga K "InvalidUnion")) "__init__" = some (some (.ref (fAd K ("InvalidUnion", some "__init__"))))
  t_InvalidUnion : typeIn K (.ref (fAd K ("InvalidUnion", some "__init__"))) = some (.type "function")
  b_any : mg "any" = none
  m_other_places : mg "other_places" = some (.ref (ga K "other_places"))
  c_MAX_QUERIES : ∃ t, mg "MAX_QUERIES" = some (.int (3) t)
  m_union_error : mg "union_error" = some (.ref (ga K "union_error"))
  mk_Union : Mk K (ga K "Union") (ma K (ga K "Union") "__init__")
  m_Union : mg "Union" = some (.ref (ga K "Union"))
  m_law_make : mg "_law_make" = some (.ref (ga K "_law_make"))
  m_MarkError : mg "MarkError" = some (.ref (ga K "MarkError"))
  m_law_raised : mg "_law_raised" = some (.ref (ga K "_law_raised"))
  b_int : mg "int" = none
  m_law_draw : mg "_law_draw" = some (.ref (ga K "_law_draw"))
  m_law_pick : mg "_law_pick" = some (.ref (ga K "_law_pick"))
  b_set : mg "set" = none
  m_law_atoms : mg "_law_atoms" = some (.ref (ga K "_law_atoms"))
  m_law_shuffle : mg "_law_shuffle" = some (.ref (ga K "_law_shuffle"))
  m_law_word : mg "_law_word" = some (.ref (ga K "_law_word"))
  m_law_variables : mg "_law_variables" = some (.ref (ga K "_law_variables"))
  m_law_parts : mg "_law_parts" = some (.ref (ga K "_law_parts"))
  m_law_values : mg "_law_values" = some (.ref (ga K "_law_values"))
  m_law_shapes : mg "_law_shapes" = some (.ref (ga K "_law_shapes"))
  b_abs : mg "abs" = none
  m_law_source : mg "_law_source" = some (.ref (ga K "_law_source"))
  v_MarkError : ClX.CRead K (ga K "MarkError") (.type "type") ∧ findCls K (.ref (ga K "MarkError")) (.type "type") "__init__" = some (.val (.builtin "ValueError.__init__"))
  m_law : mg "law" = some (.ref (ga K "law"))
  pr_Query_places : PropOf K (ga K "Query") "places" (ma K (ga K "Query") "places") (pAd K ("Query", some "places"))
  pr_Query_head : PropOf K (ga K "Query") "head" (ma K (ga K "Query") "head") (pAd K ("Query", some "head"))
  pr_Query_atoms : PropOf K (ga K "Query") "atoms" (ma K (ga K "Query") "atoms") (pAd K ("Query", some "atoms"))
  of_Union_or : findIn K (.ref (ga K "Union")) "__or__" = some (some (.ref (fAd K ("Union", some "__or__")))) ∧ isFn K (.ref (fAd K ("Union", some "__or__"))) = true
  sf_Union : PySem.W.selfFirst K (ga K "Union") = true
  pr_Union_queries : PropOf K (ga K "Union") "queries" (ma K (ga K "Union") "queries") (pAd K ("Union", some "queries"))
  of_Union_len : findIn K (.ref (ga K "Union")) "__len__" = some (some (.ref (fAd K ("Union", some "__len__")))) ∧ isFn K (.ref (fAd K ("Union", some "__len__"))) = true
variable {P : Program} {w : World} {K : Frag} {mg : Str → Option Value} {base : Heap}
theorem all1 {p : Str → Prop} {c0 : Str} (h0 : p c0) : ∀ C ∈ [c0], p C := by
  intro C h
  simp only [List.mem_cons, List.not_mem_nil, or_false] at h
  rcases h with rfl <;> assumption
theorem all2 {p : Str → Prop} {c0 c1 : Str} (h0 : p c0) (h1 : p c1) : ∀ C ∈ [c0, c1], p C := by
  intro C h
  simp only [List.mem_cons, List.not_mem_nil, or_false] at h
  rcases h with rfl | rfl <;> assumption
theorem all3 {p : Str → Prop} {c0 c1 c2 : Str} (h0 : p c0) (h1 : p c1) (h2 : p c2) : ∀ C ∈ [c0, c1, c2], p C := by
  intro C h
  simp only [List.mem_cons, List.not_mem_nil, or_false] at h
  rcases h with rfl | rfl | rfl <;> assumption
theorem all4 {p : Str → Prop} {c0 c1 c2 c3 : Str} (h0 : p c0) (h1 : p c1) (h2 : p c2) (h3 : p c3) : ∀ C ∈ [c0, c1, c2, c3], p C := by
  intro C h
  simp only [List.mem_cons, List.not_mem_nil, or_false] at h
  rcases h with rfl | rfl | rfl | rfl <;> assumption
theorem all5 {p : Str → Prop} {c0 c1 c2 c3 c4 : Str} (h0 : p c0) (h1 : p c1) (h2 : p c2) (h3 : p c3) (h4 : p c4) : ∀ C ∈ [c0, c1, c2, c3, c4], p C := by
  intro C h
  simp only [List.mem_cons, List.not_mem_nil, or_false] at h
  rcases h with rfl | rfl | rfl | rfl | rfl <;> assumption
theorem all6 {p : Str → Prop} {c0 c1 c2 c3 c4 c5 : Str} (h0 : p c0) (h1 : p c1) (h2 : p c2) (h3 : p c3) (h4 : p c4) (h5 : p c5) : ∀ C ∈ [c0, c1, c2, c3, c4, c5], p C := by
  intro C h
  simp only [List.mem_cons, List.not_mem_nil, or_false] at h
  rcases h with rfl | rfl | rfl | rfl | rfl | rfl <;> assumption
theorem b_Query_places (G : Gs K mg) : Binds K G.fd_Query_places ["self"] [] := G.F_Query_places.bindsN fun _ _ _ _ _ _ us hl => match us, hl with | [_], _ => rfl
theorem ok_Query_places (G : Gs K mg) : FnG P w K mg base 1 (pAd K ("Query", some "places")) G.fd_Query_places ["self"] (g_Query_places K) := okG (k := 0) G.F_Query_places sc_Query_places fun cdv A outer s H E hr hg tk po => by
  have hu := hr.units
  have hu1 : (A.deeper (envOfC "Query.places" (defScope s_Query_places) s.heap.objs.size (pAd K ("Query", some "places")) cdv)).units + 1 < cLine := by omega
  exact (pdss_one (pds_ret (pd_dcM rfl sc_Query_places.nd (pdi_seq (pd_fld (all1 (⟨G.k_Query, G.n_Query_rest⟩)) (by simp) (pd_var 0))) (own := [("table", 1), ("names", 2)]) (blkOk_by (by rfl)) (by decide) (fun _ _ _ _ _ => (pp_tup rfl (pps_cons (pp_name sc_Query_places.nd rfl (by first | exact Or.inl rfl | exact Or.inr rfl)) (pps_cons (pp_name sc_Query_places.nd rfl (by first | exact Or.inl rfl | exact Or.inr rfl)) pps_nil)))) (fun _ _ _ _ _ => pdts_nil) (fun _ _ _ _ _ => (pd_var 1)) (fun _ _ _ _ _ => (pd_callB cr_len rfl G.b_len (by decide +kernel) (pda_cons (pd_var 2) pda_nil))))))
theorem ow_p_places {k : Nat} (G : Gs K mg) (h : 1 ≤ k) : ∀ p ∈ ([("Query", g_Query_places K)] : GT), OwnP P w K mg base k p.1 "places" p.2 := by
  intro p h
  simp only [List.mem_cons, List.not_mem_nil, or_false] at h
  rcases h with rfl
  · exact ⟨G.k_Query, _, _, _, _, G.pr_Query_places, (ok_Query_places G).mono (Nat.le_trans (by decide) h), b_Query_places G, rfl⟩
theorem b_Query_head (G : Gs K mg) : Binds K G.fd_Query_head ["self"] [] := G.F_Query_head.bindsN fun _ _ _ _ _ _ us hl => match us, hl with | [_], _ => rfl
theorem ok_Query_head (G : Gs K mg) : FnG P w K mg base 1 (pAd K ("Query", some "head")) G.fd_Query_head ["self"] (g_Query_head K) := okG (k := 0) G.F_Query_head sc_Query_head fun cdv A outer s H E hr hg tk po => by
  have hu := hr.units
  have hu1 : (A.deeper (envOfC "Query.head" (defScope s_Query_head) s.heap.objs.size (pAd K ("Query", some "head")) cdv)).units + 1 < cLine := by omega
  exact (pdss_one (pds_ret (pd_fld (all1 (⟨G.k_Query, G.n_Query_first⟩)) (by simp) (pd_var 0))))
theorem ow_p_head {k : Nat} (G : Gs K mg) (h : 1 ≤ k) : ∀ p ∈ ([("Query", g_Query_head K)] : GT), OwnP P w K mg base k p.1 "head" p.2 := by
  intro p h
  simp only [List.mem_cons, List.not_mem_nil, or_false] at h
  rcases h with rfl
  · exact ⟨G.k_Query, _, _, _, _, G.pr_Query_head, (ok_Query_head G).mono (Nat.le_trans (by decide) h), b_Query_head G, rfl⟩
theorem b_law_expected (G : Gs K mg) : Binds K G.fd_law_expected ["values"] [] := G.F_law_expected.bindsN fun _ _ _ _ _ _ us hl => match us, hl with | [_], _ => rfl
theorem ok_law_expected (G : Gs K mg) : FnG P w K mg base 3 (fAd K ("_law_expected", none)) G.fd_law_expected ["values"] (g_law_expected K) := okG (k := 2) G.F_law_expected sc_law_expected fun cdv A outer s H E hr hg tk po => by
  have hu := hr.units
  have hu1 : (A.deeper (envOfC "_law_expected" (defScope s_law_expected) s.heap.objs.size (fAd K ("_law_expected", none)) cdv)).units + 1 < cLine := by omega
  exact (pdss_cons (pds_if (pdb_w (pdw_or (pd_cmpB op_lt' (pd_callB cr_len rfl G.b_len (by decide +kernel) (pda_cons (pd_var 0) pda_nil)) pd_int (nomark _)) (pdw_or1 (pd_cmpB op_gt' (pd_callB cr_len rfl G.b_len (by decide +kernel) (pda_cons (pd_var 0) pda_nil)) pd_int (nomark _))))) (pdss_one (pds_ret (pd_tup (pda_cons pd_str pda_nil)))) pdss_nil)
    (pdss_cons (pds_for po rfl (pdi_rng1 rfl G.b_range (pda_cons (pd_callB cr_len rfl G.b_len (by decide +kernel) (pda_cons (pd_var 0) pda_nil)) pda_nil)) (pdg_name (i := 1) sc_law_expected.nd rfl (by first | exact Or.inl rfl | exact Or.inr rfl)) (pdss_one (pds_if (pdb_not (pd_truth (pd_callB (cr_isi (all2 (G.i_Query) (G.i_Union)) (all3 (G.x_InvalidQuery) (G.x_InvalidUnion) (G.x_MarkError))) rfl G.b_isinstance (by decide +kernel) (pda_cons (pd_ix (pd_var 0) (pd_var 1)) (pda_cons (pd_gcls rfl G.m_Query) pda_nil))))) (pdss_one (pds_ret (pd_tup (pda_cons pd_str (pda_cons (pd_var 1) pda_nil))))) pdss_nil)))
    (pdss_cons (pds_for po rfl (pdi_rng1 rfl G.b_range (pda_cons (pd_callB cr_len rfl G.b_len (by decide +kernel) (pda_cons (pd_var 0) pda_nil)) pda_nil)) (pdg_name (i := 1) sc_law_expected.nd rfl (by first | exact Or.inl rfl | exact Or.inr rfl)) (pdss_one (pds_if (pd_cmpB (op_ne' hu) (pd_callB cr_len rfl G.b_len (by decide +kernel) (pda_cons (pd_prop hr hg (ow_p_head G (by decide)) (pd_ix (pd_var 0) (pd_var 1))) pda_nil)) (pd_callB cr_len rfl G.b_len (by decide +kernel) (pda_cons (pd_prop hr hg (ow_p_head G (by decide)) (pd_ix (pd_var 0) pd_int)) pda_nil)) (nomark _)) (pdss_one (pds_ret (pd_tup (pda_cons pd_str (pda_cons (pd_var 1) pda_nil))))) pdss_nil)))
    (pdss_cons (pds_for po rfl (pdi_rng1 rfl G.b_range (pda_cons (pd_callB cr_len rfl G.b_len (by decide +kernel) (pda_cons (pd_var 0) pda_nil)) pda_nil)) (pdg_name (i := 1) sc_law_expected.nd rfl (by first | exact Or.inl rfl | exact Or.inr rfl)) (pdss_one (pds_for po rfl (pdi_items (pd_propK hr hg (ow_p_places G (by decide)) (pd_ix (pd_var 0) (pd_var 1)))) (pdg_tup rfl (pdgs_cons (pdg_name (i := 2) sc_law_expected.nd rfl (by first | exact Or.inl rfl | exact Or.inr rfl)) (pdgs_cons (pdg_name (i := 3) sc_law_expected.nd rfl (by first | exact Or.inl rfl | exact Or.inr rfl)) pdgs_nil))) (pdss_one (pds_if (pd_cmpB (op_neN hu) (pd_lc rfl sc_law_expected.nd (pdi_seq (pd_cut (pd_var 0) pdo_none (pdo_some (pd_var 1)))) (own := [("one", 4)]) (blkOk_by (by rfl)) (by decide) (fun _ _ _ _ _ => (pp_name sc_law_expected.nd rfl (by first | exact Or.inl rfl | exact Or.inr rfl))) (fun _ _ _ _ _ => (pdts_one (pd_cmpB (op_ne' hu) (pd_get2 hu1 (pd_propK hr hg (ow_p_places G (by decide)) (pd_var 4)) (pd_var 2) (pd_var 3) ⟨by rfl, by rfl, by rfl, by rfl⟩) (pd_var 3) (nomark _)))) (fun _ _ _ _ _ => (pd_var 4))) (pd_lst pda_nil) (nomark _)) (pdss_one (pds_ret (pd_tup (pda_cons pd_str (pda_cons (pd_var 1) pda_nil))))) pdss_nil)))))
    (pdss_one (pds_ret pd_non))))))
theorem b_Query_atoms (G : Gs K mg) : Binds K G.fd_Query_atoms ["self"] [] := G.F_Query_atoms.bindsN fun _ _ _ _ _ _ us hl => match us, hl with | [_], _ => rfl
theorem ok_Query_atoms (G : Gs K mg) : FnG P w K mg base 1 (pAd K ("Query", some "atoms")) G.fd_Query_atoms ["self"] (g_Query_atoms K) := okG (k := 0) G.F_Query_atoms sc_Query_atoms fun cdv A outer s H E hr hg tk po => by
  have hu := hr.units
  have hu1 : (A.deeper (envOfC "Query.atoms" (defScope s_Query_atoms) s.heap.objs.size (pAd K ("Query", some "atoms")) cdv)).units + 1 < cLine := by omega
  exact (pdss_one (pds_ret (pd_fld (all1 (⟨G.k_Query, G.n_Query_rest⟩)) (by simp) (pd_var 0))))
theorem ow_p_atoms {k : Nat} (G : Gs K mg) (h : 1 ≤ k) : ∀ p ∈ ([("Query", g_Query_atoms K)] : GT), OwnP P w K mg base k p.1 "atoms" p.2 := by
  intro p h
  simp only [List.mem_cons, List.not_mem_nil, or_false] at h
  rcases h with rfl
  · exact ⟨G.k_Query, _, _, _, _, G.pr_Query_atoms, (ok_Query_atoms G).mono (Nat.le_trans (by decide) h), b_Query_atoms G, rfl⟩
theorem b_key (G : Gs K mg) : Binds K G.fd_key ["query"] [] := G.F_key.bindsN fun _ _ _ _ _ _ us hl => match us, hl with | [_], _ => rfl
theorem ok_key (G : Gs K mg) : FnG P w K mg base 3 (fAd K ("key", none)) G.fd_key ["query"] (g_key K) := okG (k := 2) G.F_key sc_key fun cdv A outer s H E hr hg tk po => by
  have hu := hr.units
  have hu1 : (A.deeper (envOfC "key" (defScope s_key) s.heap.objs.size (fAd K ("key", none)) cdv)).units + 1 < cLine := by omega
  exact (pdss_one (pds_ret (pd_tup (pda_cons (pd_prop hr hg (ow_p_head G (by decide)) (pd_var 0)) (pda_cons (pd_prop hr hg (ow_p_atoms G (by decide)) (pd_var 0)) pda_nil)))))
theorem b_InvalidQuery__init (G : Gs K mg) : Binds K G.fd_InvalidQuery__init ["self", "reason"] [] := G.F_InvalidQuery__init.bindsN fun _ _ _ _ _ _ us hl => match us, hl with | [_, _], _ => rfl
theorem ok_InvalidQuery__init (G : Gs K mg) : FnOk P w K mg base (CX P w) 1 (fAd K ("InvalidQuery", some "__init__")) G.fd_InvalidQuery__init ["self", "reason"] (spXI K (ga K "InvalidQuery") "reason") := okXI (m := "invalid query") G.F_InvalidQuery__init sc_InvalidQuery__init fun cdv A outer s H E hr => pss_cons (ps_expr (pe_cveinit rfl G.m_MarkError (by decide) G.v_MarkError.1 G.v_MarkError.2 (pa_cons (pv 0) (pa_cons pe_str pa_nil)))) (pss_one (ps_ost (pv 0) (pv 1)))
theorem b_names_in (G : Gs K mg) : Binds K G.fd_names_in ["atoms"] [] := G.F_names_in.bindsN fun _ _ _ _ _ _ us hl => match us, hl with | [_], _ => rfl
theorem ok_names_in (G : Gs K mg) : FnG P w K mg base 1 (fAd K ("names_in", none)) G.fd_names_in ["atoms"] (g_names_in K) := okG (k := 0) G.F_names_in sc_names_in fun cdv A outer s H E hr hg tk po => by
  have hu := hr.units
  have hu1 : (A.deeper (envOfC "names_in" (defScope s_names_in) s.heap.objs.size (fAd K ("names_in", none)) cdv)).units + 1 < cLine := by omega
  exact (pdss_one (pds_ret (pd_sortSc2 rfl hu sc_names_in.nd rfl G.b_sorted (pdi_seq (pd_var 0)) (own := [("table", 1), ("names", 2), ("name", 3)]) (vs1 := [3]) (blkOk_by (by rfl)) (by decide) (by decide) (by decide) (fun _ _ _ _ _ => (pp_tup rfl (pps_cons (pp_name sc_names_in.nd rfl (by first | exact Or.inl rfl | exact Or.inr rfl)) (pps_cons (pp_name sc_names_in.nd rfl (by first | exact Or.inl rfl | exact Or.inr rfl)) pps_nil)))) (fun _ _ _ _ _ => pdts_nil) (fun _ _ _ _ _ => (pdi_seq (pd_var 2))) (fun _ _ _ _ _ => (pp_name sc_names_in.nd rfl (by first | exact Or.inl rfl | exact Or.inr rfl))) (fun _ _ _ _ _ => pdts_nil) (fun _ _ _ _ _ => (pd_var 3)))))
theorem b_is_name (G : Gs K mg) : Binds K G.fd_is_name ["value"] [] := G.F_is_name.bindsN fun _ _ _ _ _ _ us hl => match us, hl with | [_], _ => rfl
theorem ok_is_name (G : Gs K mg) : FnG P w K mg base 1 (fAd K ("is_name", none)) G.fd_is_name ["value"] (g_is_name K) := okG (k := 0) G.F_is_name sc_is_name fun cdv A outer s H E hr hg tk po => by
  have hu := hr.units
  have hu1 : (A.deeper (envOfC "is_name" (defScope s_is_name) s.heap.objs.size (fAd K ("is_name", none)) cdv)).units + 1 < cLine := by omega
  exact (pdss_one (pds_ret (pd_and (pd_callB (cr_isi (all2 (G.i_Query) (G.i_Union)) (all3 (G.x_InvalidQuery) (G.x_InvalidUnion) (G.x_MarkError))) rfl G.b_isinstance (by decide +kernel) (pda_cons (pd_var 0) (pda_cons (pd_bty rfl G.b_str (by decide +kernel)) pda_nil))) (pd_and (pd_chain op_le' op_le' pd_int (pd_callB cr_len rfl G.b_len (by decide +kernel) (pda_cons (pd_var 0) pda_nil)) (pd_gint rfl G.c_MAX_NAME)) (pd_one (pd_callB (cr_all rfl) rfl G.b_all (by decide +kernel) (pda_cons (pd_lc rfl sc_is_name.nd (pdi_seq (pd_var 0)) (own := [("letter", 1)]) (blkOk_by (by rfl)) (by decide) (fun _ _ _ _ _ => (pp_name sc_is_name.nd rfl (by first | exact Or.inl rfl | exact Or.inr rfl))) (fun _ _ _ _ _ => pdts_nil) (fun _ _ _ _ _ => (pd_cmp (op_in' hu) (pd_var 1) (pd_gstr rfl G.c_LETTERS) (by with_unfolding_all rfl)))) pda_nil)))))))
theorem b_are_names (G : Gs K mg) : Binds K G.fd_are_names ["value", "least", "most"] [] := G.F_are_names.bindsN fun _ _ _ _ _ _ us hl => match us, hl with | [_, _, _], _ => rfl
theorem ok_are_names (G : Gs K mg) : FnG P w K mg base 2 (fAd K ("are_names", none)) G.fd_are_names ["value", "least", "most"] (g_are_names K) := okG (k := 1) G.F_are_names sc_are_names fun cdv A outer s H E hr hg tk po => by
  have hu := hr.units
  have hu1 : (A.deeper (envOfC "are_names" (defScope s_are_names) s.heap.objs.size (fAd K ("are_names", none)) cdv)).units + 1 < cLine := by omega
  exact (pdss_one (pds_ret (pd_and (pd_callB (cr_isi (all2 (G.i_Query) (G.i_Union)) (all3 (G.x_InvalidQuery) (G.x_InvalidUnion) (G.x_MarkError))) rfl G.b_isinstance (by decide +kernel) (pda_cons (pd_var 0) (pda_cons (pd_bty rfl G.b_tuple (by decide +kernel)) pda_nil))) (pd_and (pd_chain op_le' op_le' (pd_var 1) (pd_callB cr_len rfl G.b_len (by decide +kernel) (pda_cons (pd_var 0) pda_nil)) (pd_var 2)) (pd_one (pd_callB (cr_all rfl) rfl G.b_all (by decide +kernel) (pda_cons (pd_lc rfl sc_are_names.nd (pdi_seq (pd_var 0)) (own := [("name", 3)]) (blkOk_by (by rfl)) (by decide) (fun _ _ _ _ _ => (pp_name sc_are_names.nd rfl (by first | exact Or.inl rfl | exact Or.inr rfl))) (fun _ _ _ _ _ => pdts_nil) (fun _ _ _ _ _ => (pd_callT ((ok_is_name G).mono (by decide)) (b_is_name G) G.F_is_name.kp G.m_is_name hr hg takes_W0 rfl (pda_cons (pd_var 3) pda_nil) (alen_cons alen_nil) rfl))) pda_nil)))))))
theorem b_is_atom (G : Gs K mg) : Binds K G.fd_is_atom ["value"] [] := G.F_is_atom.bindsN fun _ _ _ _ _ _ us hl => match us, hl with | [_], _ => rfl
theorem ok_is_atom (G : Gs K mg) : FnG P w K mg base 3 (fAd K ("is_atom", none)) G.fd_is_atom ["value"] (g_is_atom K) := okG (k := 2) G.F_is_atom sc_is_atom fun cdv A outer s H E hr hg tk po => by
  have hu := hr.units
  have hu1 : (A.deeper (envOfC "is_atom" (defScope s_is_atom) s.heap.objs.size (fAd K ("is_atom", none)) cdv)).units + 1 < cLine := by omega
  exact (pdss_one (pds_ret (pd_and (pd_callB (cr_isi (all2 (G.i_Query) (G.i_Union)) (all3 (G.x_InvalidQuery) (G.x_InvalidUnion) (G.x_MarkError))) rfl G.b_isinstance (by decide +kernel) (pda_cons (pd_var 0) (pda_cons (pd_bty rfl G.b_tuple (by decide +kernel)) pda_nil))) (pd_and (pd_cmp (op_eq' hu) (pd_callB cr_len rfl G.b_len (by decide +kernel) (pda_cons (pd_var 0) pda_nil)) pd_int (nomark _)) (pd_and (pd_callT ((ok_is_name G).mono (by decide)) (b_is_name G) G.F_is_name.kp G.m_is_name hr hg tk rfl (pda_cons (pd_ix (pd_var 0) pd_int) pda_nil) (alen_cons alen_nil) rfl) (pd_one (pd_callT ((ok_are_names G).mono (by decide)) (b_are_names G) G.F_are_names.kp G.m_are_names hr hg tk rfl (pda_cons (pd_ix (pd_var 0) pd_int) (pda_cons pd_int (pda_cons (pd_gint rfl G.c_MAX_PLACES) pda_nil))) (alen_cons (alen_cons (alen_cons alen_nil))) rfl)))))))
theorem b_query_error (G : Gs K mg) : Binds K G.fd_query_error ["head", "atoms"] [] := G.F_query_error.bindsN fun _ _ _ _ _ _ us hl => match us, hl with | [_, _], _ => rfl
theorem ok_query_error (G : Gs K mg) : FnG P w K mg base 4 (fAd K ("query_error", none)) G.fd_query_error ["head", "atoms"] (g_query_error K) := okG (k := 3) G.F_query_error sc_query_error fun cdv A outer s H E hr hg tk po => by
  have hu := hr.units
  have hu1 : (A.deeper (envOfC "query_error" (defScope s_query_error) s.heap.objs.size (fAd K ("query_error", none)) cdv)).units + 1 < cLine := by omega
  exact (pdss_cons (pds_if (pdb_not (pd_truth (pd_callT ((ok_are_names G).mono (by decide)) (b_are_names G) G.F_are_names.kp G.m_are_names hr hg tk rfl (pda_cons (pd_var 0) (pda_cons pd_int (pda_cons (pd_gint rfl G.c_MAX_HEAD) pda_nil))) (alen_cons (alen_cons (alen_cons alen_nil))) rfl))) (pdss_one (pds_ret (pd_tup (pda_cons pd_str pda_nil)))) pdss_nil)
    (pdss_cons (pds_if (pdb_w (pdw_or (pdb_not (pd_truth (pd_callB (cr_isi (all2 (G.i_Query) (G.i_Union)) (all3 (G.x_InvalidQuery) (G.x_InvalidUnion) (G.x_MarkError))) rfl G.b_isinstance (by decide +kernel) (pda_cons (pd_var 1) (pda_cons (pd_tup (pda_cons (pd_bty rfl G.b_list (by decide +kernel)) (pda_cons (pd_bty rfl G.b_tuple (by decide +kernel)) pda_nil))) pda_nil))))) (pdw_or1 (pdb_not (pd_chainB op_le' op_le' pd_int (pd_callB cr_len rfl G.b_len (by decide +kernel) (pda_cons (pd_var 1) pda_nil)) (pd_gint rfl G.c_MAX_ATOMS)))))) (pdss_one (pds_ret (pd_tup (pda_cons pd_str pda_nil)))) pdss_nil)
    (pdss_cons (pds_for po rfl (pdi_enum rfl G.b_enumerate (pda_cons (pd_var 1) pda_nil)) (pdg_tup rfl (pdgs_cons (pdg_name (i := 2) sc_query_error.nd rfl (by first | exact Or.inl rfl | exact Or.inr rfl)) (pdgs_cons (pdg_name (i := 3) sc_query_error.nd rfl (by first | exact Or.inl rfl | exact Or.inr rfl)) pdgs_nil))) (pdss_one (pds_if (pdb_not (pd_truth (pd_callT ((ok_is_atom G).mono (by decide)) (b_is_atom G) G.F_is_atom.kp G.m_is_atom hr hg tk rfl (pda_cons (pd_var 3) pda_nil) (alen_cons alen_nil) rfl))) (pdss_one (pds_ret (pd_tup (pda_cons pd_str (pda_cons (pd_var 2) pda_nil))))) pdss_nil)))
    (pdss_cons (pds_set (i := 4) sc_query_error.nd rfl (by first | exact Or.inl rfl | exact Or.inr rfl) pd_dctM)
    (pdss_cons (pds_for po rfl (pdi_enum rfl G.b_enumerate (pda_cons (pd_var 1) pda_nil)) (pdg_tup rfl (pdgs_cons (pdg_name (i := 2) sc_query_error.nd rfl (by first | exact Or.inl rfl | exact Or.inr rfl)) (pdgs_cons (pdg_tup rfl (pdgs_cons (pdg_name (i := 5) sc_query_error.nd rfl (by first | exact Or.inl rfl | exact Or.inr rfl)) (pdgs_cons (pdg_name (i := 6) sc_query_error.nd rfl (by first | exact Or.inl rfl | exact Or.inr rfl)) pdgs_nil))) pdgs_nil))) (pdss_one (pds_if (pd_cmpB (op_ne' hu) (pd_setd (pd_var 4) (pd_var 5) (pd_callB cr_len rfl G.b_len (by decide +kernel) (pda_cons (pd_var 6) pda_nil)) ⟨by rfl, by rfl, by rfl, by rfl⟩) (pd_callB cr_len rfl G.b_len (by decide +kernel) (pda_cons (pd_var 6) pda_nil)) (nomark _)) (pdss_one (pds_ret (pd_tup (pda_cons pd_str (pda_cons (pd_var 2) pda_nil))))) pdss_nil)))
    (pdss_cons (pds_set (i := 7) sc_query_error.nd rfl (by first | exact Or.inl rfl | exact Or.inr rfl) (pd_callT ((ok_names_in G).mono (by decide)) (b_names_in G) G.F_names_in.kp G.m_names_in hr hg tk rfl (pda_cons (pd_var 1) pda_nil) (alen_cons alen_nil) rfl))
    (pdss_cons (pds_for po rfl (pdi_enum rfl G.b_enumerate (pda_cons (pd_var 0) pda_nil)) (pdg_tup rfl (pdgs_cons (pdg_name (i := 2) sc_query_error.nd rfl (by first | exact Or.inl rfl | exact Or.inr rfl)) (pdgs_cons (pdg_name (i := 8) sc_query_error.nd rfl (by first | exact Or.inl rfl | exact Or.inr rfl)) pdgs_nil))) (pdss_one (pds_if (pd_cmpB (op_notIn' hu) (pd_var 8) (pd_var 7) (by with_unfolding_all rfl)) (pdss_one (pds_ret (pd_tup (pda_cons pd_str (pda_cons (pd_var 2) pda_nil))))) pdss_nil)))
    (pdss_one (pds_ret (pd_if (pd_cmpB op_gt' (pd_callB cr_len rfl G.b_len (by decide +kernel) (pda_cons (pd_var 7) pda_nil)) (pd_gint rfl G.c_MAX_VARIABLES) (nomark _)) (pd_tup (pda_cons pd_str pda_nil)) pd_non))))))))))
theorem b_Query__init (G : Gs K mg) : Binds K G.fd_Query__init ["self", "head", "atoms"] [] := G.F_Query__init.bindsN fun _ _ _ _ _ _ us hl => match us, hl with | [_, _, _], _ => rfl
theorem ok_Query__init (G : Gs K mg) : FnG P w K mg base 5 (fAd K ("Query", some "__init__")) G.fd_Query__init ["self", "head", "atoms"] (g_Query__init K) := okG (k := 4) G.F_Query__init sc_Query__init fun cdv A outer s H E hr hg tk po => by
  have hu := hr.units
  have hu1 : (A.deeper (envOfC "Query.__init__" (defScope s_Query__init) s.heap.objs.size (fAd K ("Query", some "__init__")) cdv)).units + 1 < cLine := by omega
  exact (pdss_cons (pds_set (i := 3) sc_Query__init.nd rfl (by first | exact Or.inl rfl | exact Or.inr rfl) (pd_callT ((ok_query_error G).mono (by decide)) (b_query_error G) G.F_query_error.kp G.m_query_error hr hg tk rfl (pda_cons (pd_var 1) (pda_cons (pd_var 2) pda_nil)) (alen_cons (alen_cons alen_nil)) rfl))
    (pdss_cons (pds_if (pd_cmpB op_isNot' (pd_var 3) pd_non (nomark _)) (pdss_one (pds_raise rfl tk (pdm_x (dl := 0) G.o_InvalidQuery G.n_InvalidQuery_reason G.h_InvalidQuery G.t_InvalidQuery ((ok_InvalidQuery__init G).mono (by decide)) hr (b_InvalidQuery__init G) tk rfl G.m_InvalidQuery (pda_cons (pd_var 3) pda_nil)))) pdss_nil)
    (pdss_cons (pds_fld (all1 (⟨G.k_Query, G.n_Query_first⟩)) (pd_var 0) (pd_var 1))
    (pdss_one (pds_fld (all1 (⟨G.k_Query, G.n_Query_rest⟩)) (pd_var 0) (pd_callTy cr_tuple rfl G.b_tuple (by decide +kernel) (pda_cons (pd_callB (cr_sort hu) rfl G.b_sorted (by decide +kernel) (pda_cons (pd_var 2) pda_nil)) pda_nil)))))))
theorem b_InvalidUnion__init (G : Gs K mg) : Binds K G.fd_InvalidUnion__init ["self", "reason"] [] := G.F_InvalidUnion__init.bindsN fun _ _ _ _ _ _ us hl => match us, hl with | [_, _], _ => rfl
theorem ok_InvalidUnion__init (G : Gs K mg) : FnOk P w K mg base (CX P w) 1 (fAd K ("InvalidUnion", some "__init__")) G.fd_InvalidUnion__init ["self", "reason"] (spXI K (ga K "InvalidUnion") "reason") := okXI (m := "invalid union") G.F_InvalidUnion__init sc_InvalidUnion__init fun cdv A outer s H E hr => pss_cons (ps_expr (pe_cveinit rfl G.m_MarkError (by decide) G.v_MarkError.1 G.v_MarkError.2 (pa_cons (pv 0) (pa_cons pe_str pa_nil)))) (pss_one (ps_ost (pv 0) (pv 1)))
theorem b_other_places (G : Gs K mg) : Binds K G.fd_other_places ["known", "query"] [] := G.F_other_places.bindsN fun _ _ _ _ _ _ us hl => match us, hl with | [_, _], _ => rfl
theorem ok_other_places (G : Gs K mg) : FnG P w K mg base 3 (fAd K ("other_places", none)) G.fd_other_places ["known", "query"] (g_other_places K) := okG (k := 2) G.F_other_places sc_other_places fun cdv A outer s H E hr hg tk po => by
  have hu := hr.units
  have hu1 : (A.deeper (envOfC "other_places" (defScope s_other_places) s.heap.objs.size (fAd K ("other_places", none)) cdv)).units + 1 < cLine := by omega
  exact (pdss_one (pds_ret (pd_callB (cr_any rfl) rfl G.b_any (by decide +kernel) (pda_cons (pd_lc rfl sc_other_places.nd (pdi_items (pd_propK hr hg (ow_p_places G (by decide)) (pd_var 1))) (own := [("table", 2), ("number", 3)]) (blkOk_by (by rfl)) (by decide) (fun _ _ _ _ _ => (pp_tup rfl (pps_cons (pp_name sc_other_places.nd rfl (by first | exact Or.inl rfl | exact Or.inr rfl)) (pps_cons (pp_name sc_other_places.nd rfl (by first | exact Or.inl rfl | exact Or.inr rfl)) pps_nil)))) (fun _ _ _ _ _ => pdts_nil) (fun _ _ _ _ _ => (pd_cmp (op_ne' hu) (pd_get2 hu1 (pd_var 0) (pd_var 2) (pd_var 3) ⟨by rfl, by rfl, by rfl, by rfl⟩) (pd_var 3) (nomark _)))) pda_nil))))
theorem b_union_error (G : Gs K mg) : Binds K G.fd_union_error ["queries"] [] := G.F_union_error.bindsN fun _ _ _ _ _ _ us hl => match us, hl with | [_], _ => rfl
theorem ok_union_error (G : Gs K mg) : FnG P w K mg base 4 (fAd K ("union_error", none)) G.fd_union_error ["queries"] (g_union_error K) := okG (k := 3) G.F_union_error sc_union_error fun cdv A outer s H E hr hg tk po => by
  have hu := hr.units
  have hu1 : (A.deeper (envOfC "union_error" (defScope s_union_error) s.heap.objs.size (fAd K ("union_error", none)) cdv)).units + 1 < cLine := by omega
  exact (pdss_cons (pds_if (pdb_not (pd_chainB op_le' op_le' pd_int (pd_callB cr_len rfl G.b_len (by decide +kernel) (pda_cons (pd_var 0) pda_nil)) (pd_gint rfl G.c_MAX_QUERIES))) (pdss_one (pds_ret (pd_tup (pda_cons pd_str pda_nil)))) pdss_nil)
    (pdss_cons (pds_for po rfl (pdi_enum rfl G.b_enumerate (pda_cons (pd_var 0) pda_nil)) (pdg_tup rfl (pdgs_cons (pdg_name (i := 1) sc_union_error.nd rfl (by first | exact Or.inl rfl | exact Or.inr rfl)) (pdgs_cons (pdg_name (i := 2) sc_union_error.nd rfl (by first | exact Or.inl rfl | exact Or.inr rfl)) pdgs_nil))) (pdss_one (pds_if (pdb_not (pd_truth (pd_callB (cr_isi (all2 (G.i_Query) (G.i_Union)) (all3 (G.x_InvalidQuery) (G.x_InvalidUnion) (G.x_MarkError))) rfl G.b_isinstance (by decide +kernel) (pda_cons (pd_var 2) (pda_cons (pd_gcls rfl G.m_Query) pda_nil))))) (pdss_one (pds_ret (pd_tup (pda_cons pd_str (pda_cons (pd_var 1) pda_nil))))) pdss_nil)))
    (pdss_cons (pds_for po rfl (pdi_enum rfl G.b_enumerate (pda_cons (pd_var 0) pda_nil)) (pdg_tup rfl (pdgs_cons (pdg_name (i := 1) sc_union_error.nd rfl (by first | exact Or.inl rfl | exact Or.inr rfl)) (pdgs_cons (pdg_name (i := 2) sc_union_error.nd rfl (by first | exact Or.inl rfl | exact Or.inr rfl)) pdgs_nil))) (pdss_one (pds_if (pd_cmpB (op_ne' hu) (pd_callB cr_len rfl G.b_len (by decide +kernel) (pda_cons (pd_prop hr hg (ow_p_head G (by decide)) (pd_var 2)) pda_nil)) (pd_callB cr_len rfl G.b_len (by decide +kernel) (pda_cons (pd_prop hr hg (ow_p_head G (by decide)) (pd_ix (pd_var 0) pd_int)) pda_nil)) (nomark _)) (pdss_one (pds_ret (pd_tup (pda_cons pd_str (pda_cons (pd_var 1) pda_nil))))) pdss_nil)))
    (pdss_cons (pds_set (i := 3) sc_union_error.nd rfl (by first | exact Or.inl rfl | exact Or.inr rfl) pd_dctM)
    (pdss_cons (pds_for po rfl (pdi_enum rfl G.b_enumerate (pda_cons (pd_var 0) pda_nil)) (pdg_tup rfl (pdgs_cons (pdg_name (i := 1) sc_union_error.nd rfl (by first | exact Or.inl rfl | exact Or.inr rfl)) (pdgs_cons (pdg_name (i := 2) sc_union_error.nd rfl (by first | exact Or.inl rfl | exact Or.inr rfl)) pdgs_nil))) (pdss_cons (pds_if (pd_truth (pd_callT ((ok_other_places G).mono (by decide)) (b_other_places G) G.F_other_places.kp G.m_other_places hr hg tk rfl (pda_cons (pd_var 3) (pda_cons (pd_var 2) pda_nil)) (alen_cons (alen_cons alen_nil)) rfl)) (pdss_one (pds_ret (pd_tup (pda_cons pd_str (pda_cons (pd_var 1) pda_nil))))) pdss_nil)
    (pdss_one (pds_expr (pd_upd (pd_var 3) (pd_propK hr hg (ow_p_places G (by decide)) (pd_var 2)) ⟨by rfl, by rfl, by rfl, by rfl⟩)))))
    (pdss_one (pds_ret pd_non)))))))
theorem ok_Union__init (G : Gs K mg) : FnV P w K mg base 7 (fAd K ("Union", some "__init__")) (g_Union__init K) := okV (k := 6) (ps := ["self"]) G.F_Union__init sc_Union__init (fun kV doc pm an cdv ct => StX.bind_star1 (B := fun us => bindArgs (PySem.W.fnOf _ _ _ _ _ .none kV doc pm an cdv ct) ⟨us, []⟩) (fun _ => rfl) (fun _ _ _ => rfl)) fun cdv A outer s H E hr hg tk po => by
  have hu := hr.units
  have hu1 : (A.deeper (envOfC "Union.__init__" (defScope s_Union__init) s.heap.objs.size (fAd K ("Union", some "__init__")) cdv)).units + 1 < cLine := by omega
  exact (pdss_cons (pds_set (i := 2) sc_Union__init.nd rfl (by first | exact Or.inl rfl | exact Or.inr rfl) (pd_callT ((ok_union_error G).mono (by decide)) (b_union_error G) G.F_union_error.kp G.m_union_error hr hg tk rfl (pda_cons (pd_var 1) pda_nil) (alen_cons alen_nil) rfl))
    (pdss_cons (pds_if (pd_cmpB op_isNot' (pd_var 2) pd_non (nomark _)) (pdss_one (pds_raise rfl tk (pdm_x (dl := 0) G.o_InvalidUnion G.n_InvalidUnion_reason G.h_InvalidUnion G.t_InvalidUnion ((ok_InvalidUnion__init G).mono (by decide)) hr (b_InvalidUnion__init G) tk rfl G.m_InvalidUnion (pda_cons (pd_var 2) pda_nil)))) pdss_nil)
    (pdss_one (pds_fld (all1 (⟨G.k_Union, G.n_Union_members⟩)) (pd_var 0) (pd_callTy cr_tuple rfl G.b_tuple (by decide +kernel) (pda_cons (pd_lc rfl sc_Union__init.nd (pdi_seq (pd_callB (cr_sort hu) rfl G.b_sorted (by decide +kernel) (pda_cons (pd_lc rfl sc_Union__init.nd (pdi_seq (pd_var 1)) (own := [("query", 5)]) (blkOk_by (by rfl)) (by decide) (fun _ _ _ _ _ => (pp_name sc_Union__init.nd rfl (by first | exact Or.inl rfl | exact Or.inr rfl))) (fun _ _ _ _ _ => pdts_nil) (fun _ _ _ _ _ => (pd_callT ((ok_key G).mono (by decide)) (b_key G) G.F_key.kp G.m_key hr hg takes_W0 rfl (pda_cons (pd_var 5) pda_nil) (alen_cons alen_nil) rfl))) pda_nil))) (own := [("head", 3), ("atoms", 4)]) (blkOk_by (by rfl)) (by decide) (fun _ _ _ _ _ => (pp_tup rfl (pps_cons (pp_name sc_Union__init.nd rfl (by first | exact Or.inl rfl | exact Or.inr rfl)) (pps_cons (pp_name sc_Union__init.nd rfl (by first | exact Or.inl rfl | exact Or.inr rfl)) pps_nil)))) (fun _ _ _ _ _ => pdts_nil) (fun _ _ _ _ _ => (pd_makeT G.mk_Query ((ok_Query__init G).mono (by decide)) (b_Query__init G) G.m_Query hr hg takes_W0 rfl (pda_cons (pd_var 3) (pda_cons (pd_var 4) pda_nil)) (alen_cons (alen_cons alen_nil)) rfl))) pda_nil))))))
theorem b_law_make (G : Gs K mg) : Binds K G.fd_law_make ["values"] [] := G.F_law_make.bindsN fun _ _ _ _ _ _ us hl => match us, hl with | [_], _ => rfl
theorem ok_law_make (G : Gs K mg) : FnG P w K mg base 9 (fAd K ("_law_make", none)) G.fd_law_make ["values"] (g_law_make K) := okG (k := 8) G.F_law_make sc_law_make fun cdv A outer s H E hr hg tk po => by
  have hu := hr.units
  have hu1 : (A.deeper (envOfC "_law_make" (defScope s_law_make) s.heap.objs.size (fAd K ("_law_make", none)) cdv)).units + 1 < cLine := by omega
  exact (pdss_cons (pds_if (pd_cmpB (op_eq' hu) (pd_callB cr_len rfl G.b_len (by decide +kernel) (pda_cons (pd_var 0) pda_nil)) pd_int (nomark _)) (pdss_one (pds_ret (pd_makeV0 G.mk_Union ((ok_Union__init G).mono (by decide)) G.m_Union hr hg tk rfl))) pdss_nil)
    (pdss_cons (pds_if (pd_cmpB (op_eq' hu) (pd_callB cr_len rfl G.b_len (by decide +kernel) (pda_cons (pd_var 0) pda_nil)) pd_int (nomark _)) (pdss_one (pds_ret (pd_makeV G.mk_Union ((ok_Union__init G).mono (by decide)) G.m_Union hr hg tk rfl (pda_cons (pd_ix (pd_var 0) pd_int) pda_nil)))) pdss_nil)
    (pdss_cons (pds_if (pd_cmpB (op_eq' hu) (pd_callB cr_len rfl G.b_len (by decide +kernel) (pda_cons (pd_var 0) pda_nil)) pd_int (nomark _)) (pdss_one (pds_ret (pd_makeV G.mk_Union ((ok_Union__init G).mono (by decide)) G.m_Union hr hg tk rfl (pda_cons (pd_ix (pd_var 0) pd_int) (pda_cons (pd_ix (pd_var 0) pd_int) pda_nil))))) pdss_nil)
    (pdss_cons (pds_if (pd_cmpB (op_eq' hu) (pd_callB cr_len rfl G.b_len (by decide +kernel) (pda_cons (pd_var 0) pda_nil)) pd_int (nomark _)) (pdss_one (pds_ret (pd_makeV G.mk_Union ((ok_Union__init G).mono (by decide)) G.m_Union hr hg tk rfl (pda_cons (pd_ix (pd_var 0) pd_int) (pda_cons (pd_ix (pd_var 0) pd_int) (pda_cons (pd_ix (pd_var 0) pd_int) pda_nil)))))) pdss_nil)
    (pdss_one (pds_ret (pd_makeV G.mk_Union ((ok_Union__init G).mono (by decide)) G.m_Union hr hg tk rfl (pda_cons (pd_ix (pd_var 0) pd_int) (pda_cons (pd_ix (pd_var 0) pd_int) (pda_cons (pd_ix (pd_var 0) pd_int) (pda_cons (pd_ix (pd_var 0) pd_int) pda_nil)))))))))))
theorem b_Union__or (G : Gs K mg) : Binds K G.fd_Union__or ["self", "other"] [] := G.F_Union__or.bindsN fun _ _ _ _ _ _ us hl => match us, hl with | [_, _], _ => rfl
theorem ok_Union__or (G : Gs K mg) : FnG P w K mg base 9 (fAd K ("Union", some "__or__")) G.fd_Union__or ["self", "other"] (g_Union__or K) := okG (k := 8) G.F_Union__or sc_Union__or fun cdv A outer s H E hr hg tk po => by
  have hu := hr.units
  have hu1 : (A.deeper (envOfC "Union.__or__" (defScope s_Union__or) s.heap.objs.size (fAd K ("Union", some "__or__")) cdv)).units + 1 < cLine := by omega
  exact (pdss_cons (pds_set (i := 2) sc_Union__or.nd rfl (by first | exact Or.inl rfl | exact Or.inr rfl) (pd_op op_add' (pd_fld (all1 (⟨G.k_Union, G.n_Union_members⟩)) (by simp) (pd_var 0)) (pd_fld (all1 (⟨G.k_Union, G.n_Union_members⟩)) (by simp) (pd_var 1))))
    (pdss_one (pds_ret (pd_makeVS G.mk_Union ((ok_Union__init G).mono (by decide)) G.m_Union hr hg tk rfl (pd_var 2)))))
theorem ow_or {k : Nat} (G : Gs K mg) (h : 9 ≤ k) : ∀ p ∈ ([("Union", g_Union__or K)] : GT), OwnB P w K mg base k p.1 "__or__" p.2 := by
  intro p h
  simp only [List.mem_cons, List.not_mem_nil, or_false] at h
  rcases h with rfl
  · exact ⟨G.sf_Union, ⟨_, _, _, G.of_Union_or.1, G.of_Union_or.2, (ok_Union__or G).mono (Nat.le_trans (by decide) h), b_Union__or G, rfl⟩⟩
theorem b_law_raised (G : Gs K mg) : Binds K G.fd_law_raised ["one", "other"] [] := G.F_law_raised.bindsN fun _ _ _ _ _ _ us hl => match us, hl with | [_, _], _ => rfl
theorem ok_law_raised (G : Gs K mg) : FnG P w K mg base 11 (fAd K ("_law_raised", none)) G.fd_law_raised ["one", "other"] (g_law_raised K) := okG (k := 10) G.F_law_raised sc_law_raised fun cdv A outer s H E hr hg tk po => by
  have hu := hr.units
  have hu1 : (A.deeper (envOfC "_law_raised" (defScope s_law_raised) s.heap.objs.size (fAd K ("_law_raised", none)) cdv)).units + 1 < cLine := by omega
  exact (pdss_cons (pds_set (i := 2) sc_law_raised.nd rfl (by first | exact Or.inl rfl | exact Or.inr rfl) pd_non)
    (pdss_cons (pds_try (i := 3) rfl rfl sc_law_raised.nd rfl rfl ⟨rfl, by decide, .inl G.m_MarkError⟩ tk (fun _ _ _ _ z => nomatch z) (fun W' pn xe t1 t2 => (pdss_one (pds_if (pd_truth (pd_callB (cr_isi (all2 (G.i_Query) (G.i_Union)) (all3 (G.x_InvalidQuery) (G.x_InvalidUnion) (G.x_MarkError))) rfl G.b_isinstance (by decide +kernel) (pda_cons (pd_var 0) (pda_cons (pd_bty rfl G.b_list (by decide +kernel)) pda_nil)))) (pdss_one (pds_expr (pd_callT ((ok_law_make G).mono (by decide)) (b_law_make G) G.F_law_make.kp G.m_law_make hr hg t1 rfl (pda_cons (pd_var 0) pda_nil) (alen_cons alen_nil) rfl))) (pdss_one (pds_set (i := 4) sc_law_raised.nd rfl (by first | exact Or.inl rfl | exact Or.inr rfl) (pd_binO (by rfl) hr hg t1 (ow_or G (by decide)) (pd_var 0) (pd_var 1))))))) (fun a pn => (pdss_one (pds_set (i := 2) sc_law_raised.nd rfl (by first | exact Or.inl rfl | exact Or.inr rfl) (pd_var 3)))))
    (pdss_cons (pds_if (pdb_w (pdw_and (pd_truth (pd_callB (cr_isi (all2 (G.i_Query) (G.i_Union)) (all3 (G.x_InvalidQuery) (G.x_InvalidUnion) (G.x_MarkError))) rfl G.b_isinstance (by decide +kernel) (pda_cons (pd_var 2) (pda_cons (pd_gcls rfl G.m_InvalidUnion) pda_nil)))) (pdw_and1 (pd_truth (pd_callB (cr_isi (all2 (G.i_Query) (G.i_Union)) (all3 (G.x_InvalidQuery) (G.x_InvalidUnion) (G.x_MarkError))) rfl G.b_isinstance (by decide +kernel) (pda_cons (pd_var 2) (pda_cons (pd_bty rfl G.b_ValueError (by decide +kernel)) pda_nil))))))) (pdss_one (pds_ret (pd_fld (by simp) (all2 (⟨G.xf_InvalidQuery, G.n_InvalidQuery_reason⟩) (⟨G.xf_InvalidUnion, G.n_InvalidUnion_reason⟩)) (pd_var 2)))) pdss_nil)
    (pdss_one (pds_ret (pd_var 2))))))
theorem b_Union_queries (G : Gs K mg) : Binds K G.fd_Union_queries ["self"] [] := G.F_Union_queries.bindsN fun _ _ _ _ _ _ us hl => match us, hl with | [_], _ => rfl
theorem ok_Union_queries (G : Gs K mg) : FnG P w K mg base 1 (pAd K ("Union", some "queries")) G.fd_Union_queries ["self"] (g_Union_queries K) := okG (k := 0) G.F_Union_queries sc_Union_queries fun cdv A outer s H E hr hg tk po => by
  have hu := hr.units
  have hu1 : (A.deeper (envOfC "Union.queries" (defScope s_Union_queries) s.heap.objs.size (pAd K ("Union", some "queries")) cdv)).units + 1 < cLine := by omega
  exact (pdss_one (pds_ret (pd_fld (all1 (⟨G.k_Union, G.n_Union_members⟩)) (by simp) (pd_var 0))))
theorem ow_p_queries {k : Nat} (G : Gs K mg) (h : 1 ≤ k) : ∀ p ∈ ([("Union", g_Union_queries K)] : GT), OwnP P w K mg base k p.1 "queries" p.2 := by
  intro p h
  simp only [List.mem_cons, List.not_mem_nil, or_false] at h
  rcases h with rfl
  · exact ⟨G.k_Union, _, _, _, _, G.pr_Union_queries, (ok_Union_queries G).mono (Nat.le_trans (by decide) h), b_Union_queries G, rfl⟩
theorem b_law_draw (G : Gs K mg) : Binds K G.fd_law_draw ["source", "limit"] [] := G.F_law_draw.bindsN fun _ _ _ _ _ _ us hl => match us, hl with | [_, _], _ => rfl
theorem ok_law_draw (G : Gs K mg) : FnG P w K mg base 1 (fAd K ("_law_draw", none)) G.fd_law_draw ["source", "limit"] (g_law_draw K) := okG (k := 0) G.F_law_draw sc_law_draw fun cdv A outer s H E hr hg tk po => by
  have hu := hr.units
  have hu1 : (A.deeper (envOfC "_law_draw" (defScope s_law_draw) s.heap.objs.size (fAd K ("_law_draw", none)) cdv)).units + 1 < cLine := by omega
  exact (pdss_cons (pds_asg (pd_var 0) (pdg_tup rfl (pdgs_cons (pdg_name (i := 2) sc_law_draw.nd rfl (by first | exact Or.inl rfl | exact Or.inr rfl)) (pdgs_cons (pdg_name (i := 3) sc_law_draw.nd rfl (by first | exact Or.inl rfl | exact Or.inr rfl)) pdgs_nil))))
    (pdss_cons (pds_set (i := 4) sc_law_draw.nd rfl (by first | exact Or.inl rfl | exact Or.inr rfl) (pd_op op_mod' (pd_callTy cr_int rfl G.b_int (by decide +kernel) (pda_cons (pd_var 3) pda_nil)) (pd_callB cr_len rfl G.b_len (by decide +kernel) (pda_cons (pd_var 2) pda_nil))))
    (pdss_cons (pds_set (i := 5) sc_law_draw.nd rfl (by first | exact Or.inl rfl | exact Or.inr rfl) (pd_ix (pd_var 2) (pd_var 4)))
    (pdss_cons (pds_asg (pd_op op_add' (pd_var 3) pd_int) (pdg_sub hu1 (pd_var 0) pd_int))
    (pdss_cons (pds_if (pd_cmpB op_ge' (pd_var 5) (pd_op op_pow' pd_int pd_int) (nomark _)) (pdss_cons (pds_asg (pd_op op_div' (pd_var 5) (pd_var 1)) (pdg_sub hu1 (pd_var 2) (pd_var 4)))
    (pdss_one (pds_ret (pd_op op_mod' (pd_callTy cr_int rfl G.b_int (by decide +kernel) (pda_cons (pd_var 5) pda_nil)) (pd_var 1))))) pdss_nil)
    (pdss_cons (pds_set (i := 6) sc_law_draw.nd rfl (by first | exact Or.inl rfl | exact Or.inr rfl) (pd_op op_mod' (pd_callTy cr_int rfl G.b_int (by decide +kernel) (pda_cons (pd_op op_add' (pd_op op_add' (pd_op op_mul' (pd_op op_mod' (pd_callTy cr_int rfl G.b_int (by decide +kernel) (pda_cons (pd_var 5) pda_nil)) pd_int) pd_int) (pd_op op_mul' (pd_op op_mul' (pd_var 3) (pd_var 3)) pd_int)) pd_int) pda_nil)) pd_int))
    (pdss_cons (pds_set (i := 6) sc_law_draw.nd rfl (by first | exact Or.inl rfl | exact Or.inr rfl) (pd_op op_mod' (pd_callTy cr_int rfl G.b_int (by decide +kernel) (pda_cons (pd_op op_mul' (pd_var 6) (pd_var 6)) pda_nil)) pd_int))
    (pdss_cons (pds_set (i := 6) sc_law_draw.nd rfl (by first | exact Or.inl rfl | exact Or.inr rfl) (pd_op op_mod' (pd_callTy cr_int rfl G.b_int (by decide +kernel) (pda_cons (pd_op op_mul' (pd_var 6) (pd_var 6)) pda_nil)) pd_int))
    (pdss_cons (pds_if (pd_cmpB op_gt' (pd_var 1) (pd_op op_pow' pd_int pd_int) (nomark _)) (pdss_cons (pds_set (i := 7) sc_law_draw.nd rfl (by first | exact Or.inl rfl | exact Or.inr rfl) (pd_op op_mod' (pd_callTy cr_int rfl G.b_int (by decide +kernel) (pda_cons (pd_op op_add' (pd_op op_add' (pd_op op_mul' (pd_var 6) pd_int) (pd_op op_mul' (pd_var 3) pd_int)) pd_int) pda_nil)) pd_int))
    (pdss_one (pds_set (i := 6) sc_law_draw.nd rfl (by first | exact Or.inl rfl | exact Or.inr rfl) (pd_op op_mul' (pd_var 6) (pd_op op_add' (pd_op op_mul' (pd_op op_mul' (pd_var 7) (pd_var 7)) (pd_var 7)) pd_int))))) pdss_nil)
    (pdss_one (pds_ret (pd_op op_mod' (pd_callTy cr_int rfl G.b_int (by decide +kernel) (pda_cons (pd_var 6) pda_nil)) (pd_var 1)))))))))))))
theorem b_law_pick (G : Gs K mg) : Binds K G.fd_law_pick ["source", "values"] [] := G.F_law_pick.bindsN fun _ _ _ _ _ _ us hl => match us, hl with | [_, _], _ => rfl
theorem ok_law_pick (G : Gs K mg) : FnG P w K mg base 2 (fAd K ("_law_pick", none)) G.fd_law_pick ["source", "values"] (g_law_pick K) := okG (k := 1) G.F_law_pick sc_law_pick fun cdv A outer s H E hr hg tk po => by
  have hu := hr.units
  have hu1 : (A.deeper (envOfC "_law_pick" (defScope s_law_pick) s.heap.objs.size (fAd K ("_law_pick", none)) cdv)).units + 1 < cLine := by omega
  exact (pdss_one (pds_ret (pd_ix (pd_var 1) (pd_callT ((ok_law_draw G).mono (by decide)) (b_law_draw G) G.F_law_draw.kp G.m_law_draw hr hg tk rfl (pda_cons (pd_var 0) (pda_cons (pd_callB cr_len rfl G.b_len (by decide +kernel) (pda_cons (pd_var 1) pda_nil)) pda_nil)) (alen_cons (alen_cons alen_nil)) rfl))))
theorem b_law_atoms (G : Gs K mg) : Binds K G.fd_law_atoms ["source", "shapes", "variables", "most"] [] := G.F_law_atoms.bindsN fun _ _ _ _ _ _ us hl => match us, hl with | [_, _, _, _], _ => rfl
theorem ok_law_atoms (G : Gs K mg) : FnG P w K mg base 3 (fAd K ("_law_atoms", none)) G.fd_law_atoms ["source", "shapes", "variables", "most"] (g_law_atoms K) := okG (k := 2) G.F_law_atoms sc_law_atoms fun cdv A outer s H E hr hg tk po => by
  have hu := hr.units
  have hu1 : (A.deeper (envOfC "_law_atoms" (defScope s_law_atoms) s.heap.objs.size (fAd K ("_law_atoms", none)) cdv)).units + 1 < cLine := by omega
  exact (pdss_cons (pds_set (i := 4) sc_law_atoms.nd rfl (by first | exact Or.inl rfl | exact Or.inr rfl) (pd_lstM pda_nil))
    (pdss_cons (pds_for po rfl (pdi_rng1 rfl G.b_range (pda_cons (pd_op op_add' pd_int (pd_callT ((ok_law_draw G).mono (by decide)) (b_law_draw G) G.F_law_draw.kp G.m_law_draw hr hg tk rfl (pda_cons (pd_var 0) (pda_cons (pd_var 3) pda_nil)) (alen_cons (alen_cons alen_nil)) rfl)) pda_nil)) (pdg_name (i := 5) sc_law_atoms.nd rfl (by first | exact Or.inl rfl | exact Or.inr rfl)) (pdss_cons (pds_asg (pd_callT ((ok_law_pick G).mono (by decide)) (b_law_pick G) G.F_law_pick.kp G.m_law_pick hr hg tk rfl (pda_cons (pd_var 0) (pda_cons (pd_var 1) pda_nil)) (alen_cons (alen_cons alen_nil)) rfl) (pdg_tup rfl (pdgs_cons (pdg_name (i := 6) sc_law_atoms.nd rfl (by first | exact Or.inl rfl | exact Or.inr rfl)) (pdgs_cons (pdg_name (i := 7) sc_law_atoms.nd rfl (by first | exact Or.inl rfl | exact Or.inr rfl)) pdgs_nil))))
    (pdss_one (pds_expr (pd_meth PySem.F.plainAttrs_list PySem.F.slot_list_append rfl mr_append (pd_var 4) (pda_cons (pd_tup (pda_cons (pd_var 6) (pda_cons (pd_callTy cr_tuple rfl G.b_tuple (by decide +kernel) (pda_cons (pd_lc rfl sc_law_atoms.nd (pdi_rng1 rfl G.b_range (pda_cons (pd_var 7) pda_nil)) (own := [("j", 8)]) (blkOk_by (by rfl)) (by decide) (fun _ _ _ _ _ => (pp_name sc_law_atoms.nd rfl (by first | exact Or.inl rfl | exact Or.inr rfl))) (fun _ _ _ _ _ => pdts_nil) (fun _ _ _ _ _ => (pd_callT ((ok_law_pick G).mono (by decide)) (b_law_pick G) G.F_law_pick.kp G.m_law_pick hr hg takes_W0 rfl (pda_cons (pd_var 0) (pda_cons (pd_var 2) pda_nil)) (alen_cons (alen_cons alen_nil)) rfl))) pda_nil)) pda_nil))) pda_nil))))))
    (pdss_cons (pds_if (pdb_w (pdw_and (pd_cmpB (op_eq' hu) (pd_callT ((ok_law_draw G).mono (by decide)) (b_law_draw G) G.F_law_draw.kp G.m_law_draw hr hg tk rfl (pda_cons (pd_var 0) (pda_cons pd_int pda_nil)) (alen_cons (alen_cons alen_nil)) rfl) pd_int (nomark _)) (pdw_and1 (pd_cmpB op_lt' (pd_callB cr_len rfl G.b_len (by decide +kernel) (pda_cons (pd_var 4) pda_nil)) (pd_var 3) (nomark _))))) (pdss_one (pds_expr (pd_meth PySem.F.plainAttrs_list PySem.F.slot_list_append rfl mr_append (pd_var 4) (pda_cons (pd_callT ((ok_law_pick G).mono (by decide)) (b_law_pick G) G.F_law_pick.kp G.m_law_pick hr hg tk rfl (pda_cons (pd_var 0) (pda_cons (pd_var 4) pda_nil)) (alen_cons (alen_cons alen_nil)) rfl) pda_nil)))) pdss_nil)
    (pdss_one (pds_ret (pd_var 4))))))
theorem b_law_shuffle (G : Gs K mg) : Binds K G.fd_law_shuffle ["source", "values"] [] := G.F_law_shuffle.bindsN fun _ _ _ _ _ _ us hl => match us, hl with | [_, _], _ => rfl
theorem ok_law_shuffle (G : Gs K mg) : FnG P w K mg base 2 (fAd K ("_law_shuffle", none)) G.fd_law_shuffle ["source", "values"] (g_law_shuffle K) := okG (k := 1) G.F_law_shuffle sc_law_shuffle fun cdv A outer s H E hr hg tk po => by
  have hu := hr.units
  have hu1 : (A.deeper (envOfC "_law_shuffle" (defScope s_law_shuffle) s.heap.objs.size (fAd K ("_law_shuffle", none)) cdv)).units + 1 < cLine := by omega
  exact (pdss_cons (pds_set (i := 2) sc_law_shuffle.nd rfl (by first | exact Or.inl rfl | exact Or.inr rfl) (pd_lstM pda_nil))
    (pdss_cons (pds_for po rfl (pdi_seq (pd_var 1)) (pdg_name (i := 3) sc_law_shuffle.nd rfl (by first | exact Or.inl rfl | exact Or.inr rfl)) (pdss_one (pds_expr (pd_meth PySem.F.plainAttrs_list PySem.F.slot_list_insert rfl mr_insert (pd_var 2) (pda_cons (pd_callT ((ok_law_draw G).mono (by decide)) (b_law_draw G) G.F_law_draw.kp G.m_law_draw hr hg tk rfl (pda_cons (pd_var 0) (pda_cons (pd_op op_add' (pd_callB cr_len rfl G.b_len (by decide +kernel) (pda_cons (pd_var 2) pda_nil)) pd_int) pda_nil)) (alen_cons (alen_cons alen_nil)) rfl) (pda_cons (pd_var 3) pda_nil))))))
    (pdss_one (pds_ret (pd_var 2)))))
theorem b_law_word (G : Gs K mg) : Binds K G.fd_law_word ["source", "size"] [] := G.F_law_word.bindsN fun _ _ _ _ _ _ us hl => match us, hl with | [_, _], _ => rfl
theorem ok_law_word (G : Gs K mg) : FnG P w K mg base 2 (fAd K ("_law_word", none)) G.fd_law_word ["source", "size"] (g_law_word K) := okG (k := 1) G.F_law_word sc_law_word fun cdv A outer s H E hr hg tk po => by
  have hu := hr.units
  have hu1 : (A.deeper (envOfC "_law_word" (defScope s_law_word) s.heap.objs.size (fAd K ("_law_word", none)) cdv)).units + 1 < cLine := by omega
  exact (pdss_one (pds_ret (pd_meth PySem.F.plainAttrs_str PySem.F.slot_str_join rfl mr_join pd_str (pda_cons (pd_lc rfl sc_law_word.nd (pdi_rng1 rfl G.b_range (pda_cons (pd_var 1) pda_nil)) (own := [("k", 2)]) (blkOk_by (by rfl)) (by decide) (fun _ _ _ _ _ => (pp_name sc_law_word.nd rfl (by first | exact Or.inl rfl | exact Or.inr rfl))) (fun _ _ _ _ _ => pdts_nil) (fun _ _ _ _ _ => (pd_ix pd_str (pd_callT ((ok_law_draw G).mono (by decide)) (b_law_draw G) G.F_law_draw.kp G.m_law_draw hr hg takes_W0 rfl (pda_cons (pd_var 0) (pda_cons pd_int pda_nil)) (alen_cons (alen_cons alen_nil)) rfl)))) pda_nil))))
theorem b_law_variables (G : Gs K mg) : Binds K G.fd_law_variables ["source", "most"] [] := G.F_law_variables.bindsN fun _ _ _ _ _ _ us hl => match us, hl with | [_, _], _ => rfl
theorem ok_law_variables (G : Gs K mg) : FnG P w K mg base 3 (fAd K ("_law_variables", none)) G.fd_law_variables ["source", "most"] (g_law_variables K) := okG (k := 2) G.F_law_variables sc_law_variables fun cdv A outer s H E hr hg tk po => by
  have hu := hr.units
  have hu1 : (A.deeper (envOfC "_law_variables" (defScope s_law_variables) s.heap.objs.size (fAd K ("_law_variables", none)) cdv)).units + 1 < cLine := by omega
  exact (pdss_cons (pds_set (i := 2) sc_law_variables.nd rfl (by first | exact Or.inl rfl | exact Or.inr rfl) (pd_lst (pda_cons pd_str (pda_cons pd_str (pda_cons pd_str (pda_cons pd_str (pda_cons pd_str (pda_cons pd_str (pda_cons pd_str (pda_cons pd_str (pda_cons (pd_callT ((ok_law_word G).mono (by decide)) (b_law_word G) G.F_law_word.kp G.m_law_word hr hg tk rfl (pda_cons (pd_var 0) (pda_cons pd_int pda_nil)) (alen_cons (alen_cons alen_nil)) rfl) (pda_cons (pd_callT ((ok_law_word G).mono (by decide)) (b_law_word G) G.F_law_word.kp G.m_law_word hr hg tk rfl (pda_cons (pd_var 0) (pda_cons pd_int pda_nil)) (alen_cons (alen_cons alen_nil)) rfl) pda_nil))))))))))))
    (pdss_one (pds_ret (pd_cut (pd_callT ((ok_law_shuffle G).mono (by decide)) (b_law_shuffle G) G.F_law_shuffle.kp G.m_law_shuffle hr hg tk rfl (pda_cons (pd_var 0) (pda_cons (pd_var 2) pda_nil)) (alen_cons (alen_cons alen_nil)) rfl) pdo_none (pdo_some (pd_op op_add' pd_int (pd_callT ((ok_law_draw G).mono (by decide)) (b_law_draw G) G.F_law_draw.kp G.m_law_draw hr hg tk rfl (pda_cons (pd_var 0) (pda_cons (pd_var 1) pda_nil)) (alen_cons (alen_cons alen_nil)) rfl)))))))
theorem b_law_parts (G : Gs K mg) : Binds K G.fd_law_parts ["source", "shapes", "most", "width"] [] := G.F_law_parts.bindsN fun _ _ _ _ _ _ us hl => match us, hl with | [_, _, _, _], _ => rfl
theorem ok_law_parts (G : Gs K mg) : FnG P w K mg base 4 (fAd K ("_law_parts", none)) G.fd_law_parts ["source", "shapes", "most", "width"] (g_law_parts K) := okG (k := 3) G.F_law_parts sc_law_parts fun cdv A outer s H E hr hg tk po => by
  have hu := hr.units
  have hu1 : (A.deeper (envOfC "_law_parts" (defScope s_law_parts) s.heap.objs.size (fAd K ("_law_parts", none)) cdv)).units + 1 < cLine := by omega
  exact (pdss_cons (pds_set (i := 4) sc_law_parts.nd rfl (by first | exact Or.inl rfl | exact Or.inr rfl) (pd_callT ((ok_law_variables G).mono (by decide)) (b_law_variables G) G.F_law_variables.kp G.m_law_variables hr hg tk rfl (pda_cons (pd_var 0) (pda_cons pd_int pda_nil)) (alen_cons (alen_cons alen_nil)) rfl))
    (pdss_cons (pds_set (i := 5) sc_law_parts.nd rfl (by first | exact Or.inl rfl | exact Or.inr rfl) (pd_callT ((ok_law_atoms G).mono (by decide)) (b_law_atoms G) G.F_law_atoms.kp G.m_law_atoms hr hg tk rfl (pda_cons (pd_var 0) (pda_cons (pd_var 1) (pda_cons (pd_var 4) (pda_cons (pd_var 2) pda_nil)))) (alen_cons (alen_cons (alen_cons (alen_cons alen_nil)))) rfl))
    (pdss_cons (pds_set (i := 6) sc_law_parts.nd rfl (by first | exact Or.inl rfl | exact Or.inr rfl) (pd_lst pda_nil))
    (pdss_cons (pds_for po rfl (pdi_seq (pd_var 5)) (pdg_tup rfl (pdgs_cons (pdg_name (i := 7) sc_law_parts.nd rfl (by first | exact Or.inl rfl | exact Or.inr rfl)) (pdgs_cons (pdg_name (i := 8) sc_law_parts.nd rfl (by first | exact Or.inl rfl | exact Or.inr rfl)) pdgs_nil))) (pdss_one (pds_set (i := 6) sc_law_parts.nd rfl (by first | exact Or.inl rfl | exact Or.inr rfl) (pd_sortSet rfl hu rfl G.b_sorted rfl G.b_set (pd_op op_add' (pd_var 6) (pd_callTy cr_list rfl G.b_list (by decide +kernel) (pda_cons (pd_var 8) pda_nil)))))))
    (pdss_one (pds_ret (pd_tup (pda_cons (pd_callTy cr_tuple rfl G.b_tuple (by decide +kernel) (pda_cons (pd_lc rfl sc_law_parts.nd (pdi_rng1 rfl G.b_range (pda_cons (pd_var 3) pda_nil)) (own := [("k", 9)]) (blkOk_by (by rfl)) (by decide) (fun _ _ _ _ _ => (pp_name sc_law_parts.nd rfl (by first | exact Or.inl rfl | exact Or.inr rfl))) (fun _ _ _ _ _ => pdts_nil) (fun _ _ _ _ _ => (pd_callT ((ok_law_pick G).mono (by decide)) (b_law_pick G) G.F_law_pick.kp G.m_law_pick hr hg takes_W0 rfl (pda_cons (pd_var 0) (pda_cons (pd_var 6) pda_nil)) (alen_cons (alen_cons alen_nil)) rfl))) pda_nil)) (pda_cons (pd_var 5) pda_nil)))))))))
theorem b_law_values (G : Gs K mg) : Binds K G.fd_law_values ["source", "shapes", "width"] [] := G.F_law_values.bindsN fun _ _ _ _ _ _ us hl => match us, hl with | [_, _, _], _ => rfl
theorem ok_law_values (G : Gs K mg) : FnG P w K mg base 9 (fAd K ("_law_values", none)) G.fd_law_values ["source", "shapes", "width"] (g_law_values K) := okG (k := 8) G.F_law_values sc_law_values fun cdv A outer s H E hr hg tk po => by
  have hu := hr.units
  have hu1 : (A.deeper (envOfC "_law_values" (defScope s_law_values) s.heap.objs.size (fAd K ("_law_values", none)) cdv)).units + 1 < cLine := by omega
  exact (pdss_cons (pds_set (i := 3) sc_law_values.nd rfl (by first | exact Or.inl rfl | exact Or.inr rfl) (pd_lstM pda_nil))
    (pdss_cons (pds_for po rfl (pdi_rng1 rfl G.b_range (pda_cons (pd_callT ((ok_law_draw G).mono (by decide)) (b_law_draw G) G.F_law_draw.kp G.m_law_draw hr hg tk rfl (pda_cons (pd_var 0) (pda_cons pd_int pda_nil)) (alen_cons (alen_cons alen_nil)) rfl) pda_nil)) (pdg_name (i := 4) sc_law_values.nd rfl (by first | exact Or.inl rfl | exact Or.inr rfl)) (pdss_cons (pds_asg (pd_callT ((ok_law_parts G).mono (by decide)) (b_law_parts G) G.F_law_parts.kp G.m_law_parts hr hg tk rfl (pda_cons (pd_var 0) (pda_cons (pd_var 1) (pda_cons pd_int (pda_cons (pd_var 2) pda_nil)))) (alen_cons (alen_cons (alen_cons (alen_cons alen_nil)))) rfl) (pdg_tup rfl (pdgs_cons (pdg_name (i := 5) sc_law_values.nd rfl (by first | exact Or.inl rfl | exact Or.inr rfl)) (pdgs_cons (pdg_name (i := 6) sc_law_values.nd rfl (by first | exact Or.inl rfl | exact Or.inr rfl)) pdgs_nil))))
    (pdss_one (pds_expr (pd_meth PySem.F.plainAttrs_list PySem.F.slot_list_append rfl mr_append (pd_var 3) (pda_cons (pd_makeT G.mk_Query ((ok_Query__init G).mono (by decide)) (b_Query__init G) G.m_Query hr hg tk rfl (pda_cons (pd_var 5) (pda_cons (pd_var 6) pda_nil)) (alen_cons (alen_cons alen_nil)) rfl) pda_nil))))))
    (pdss_cons (pds_for po rfl (pdi_rng1 rfl G.b_range (pda_cons (pd_callT ((ok_law_draw G).mono (by decide)) (b_law_draw G) G.F_law_draw.kp G.m_law_draw hr hg tk rfl (pda_cons (pd_var 0) (pda_cons pd_int pda_nil)) (alen_cons (alen_cons alen_nil)) rfl) pda_nil)) (pdg_name (i := 4) sc_law_values.nd rfl (by first | exact Or.inl rfl | exact Or.inr rfl)) (pdss_cons (pds_asg (pd_callT ((ok_law_parts G).mono (by decide)) (b_law_parts G) G.F_law_parts.kp G.m_law_parts hr hg tk rfl (pda_cons (pd_var 0) (pda_cons (pd_var 1) (pda_cons pd_int (pda_cons (pd_callT ((ok_law_draw G).mono (by decide)) (b_law_draw G) G.F_law_draw.kp G.m_law_draw hr hg tk rfl (pda_cons (pd_var 0) (pda_cons pd_int pda_nil)) (alen_cons (alen_cons alen_nil)) rfl) pda_nil)))) (alen_cons (alen_cons (alen_cons (alen_cons alen_nil)))) rfl) (pdg_tup rfl (pdgs_cons (pdg_name (i := 5) sc_law_values.nd rfl (by first | exact Or.inl rfl | exact Or.inr rfl)) (pdgs_cons (pdg_name (i := 6) sc_law_values.nd rfl (by first | exact Or.inl rfl | exact Or.inr rfl)) pdgs_nil))))
    (pdss_cons (pds_asg (pd_callT ((ok_law_pick G).mono (by decide)) (b_law_pick G) G.F_law_pick.kp G.m_law_pick hr hg tk rfl (pda_cons (pd_var 0) (pda_cons (pd_var 1) pda_nil)) (alen_cons (alen_cons alen_nil)) rfl) (pdg_tup rfl (pdgs_cons (pdg_name (i := 7) sc_law_values.nd rfl (by first | exact Or.inl rfl | exact Or.inr rfl)) (pdgs_cons (pdg_name (i := 8) sc_law_values.nd rfl (by first | exact Or.inl rfl | exact Or.inr rfl)) pdgs_nil))))
    (pdss_cons (pds_set (i := 9) sc_law_values.nd rfl (by first | exact Or.inl rfl | exact Or.inr rfl) (pd_makeT G.mk_Query ((ok_Query__init G).mono (by decide)) (b_Query__init G) G.m_Query hr hg tk rfl (pda_cons (pd_op op_mul' (pd_tup (pda_cons pd_str pda_nil)) (pd_callT ((ok_law_pick G).mono (by decide)) (b_law_pick G) G.F_law_pick.kp G.m_law_pick hr hg tk rfl (pda_cons (pd_var 0) (pda_cons (pd_lst (pda_cons pd_int (pda_cons (pd_var 2) pda_nil))) pda_nil)) (alen_cons (alen_cons alen_nil)) rfl)) (pda_cons (pd_lst (pda_cons (pd_tup (pda_cons (pd_var 7) (pda_cons (pd_op op_mul' (pd_tup (pda_cons pd_str pda_nil)) (pd_op op_add' pd_int (pd_op op_mod' (pd_callTy cr_int rfl G.b_int (by decide +kernel) (pda_cons (pd_var 8) pda_nil)) pd_int))) pda_nil))) pda_nil)) pda_nil)) (alen_cons (alen_cons alen_nil)) rfl))
    (pdss_cons (pds_set (i := 10) sc_law_values.nd rfl (by first | exact Or.inl rfl | exact Or.inr rfl) (pd_lst (pda_cons pd_non (pda_cons pd_int (pda_cons pd_str (pda_cons (pd_tup (pda_cons (pd_var 5) (pda_cons (pd_var 6) pda_nil))) (pda_cons (pd_var 9) (pda_cons (pd_makeT G.mk_Query ((ok_Query__init G).mono (by decide)) (b_Query__init G) G.m_Query hr hg tk rfl (pda_cons (pd_var 5) (pda_cons (pd_var 6) pda_nil)) (alen_cons (alen_cons alen_nil)) rfl) (pda_cons (pd_makeT G.mk_Query ((ok_Query__init G).mono (by decide)) (b_Query__init G) G.m_Query hr hg tk rfl (pda_cons (pd_var 5) (pda_cons (pd_var 6) pda_nil)) (alen_cons (alen_cons alen_nil)) rfl) pda_nil)))))))))
    (pdss_cons (pds_set (i := 10) sc_law_values.nd rfl (by first | exact Or.inl rfl | exact Or.inr rfl) (pd_op op_add' (pd_var 10) (pd_lst (pda_cons (pd_makeV G.mk_Union ((ok_Union__init G).mono (by decide)) G.m_Union hr hg tk rfl (pda_cons (pd_makeT G.mk_Query ((ok_Query__init G).mono (by decide)) (b_Query__init G) G.m_Query hr hg tk rfl (pda_cons (pd_var 5) (pda_cons (pd_var 6) pda_nil)) (alen_cons (alen_cons alen_nil)) rfl) pda_nil)) (pda_cons (pd_lst (pda_cons (pd_makeT G.mk_Query ((ok_Query__init G).mono (by decide)) (b_Query__init G) G.m_Query hr hg tk rfl (pda_cons (pd_var 5) (pda_cons (pd_var 6) pda_nil)) (alen_cons (alen_cons alen_nil)) rfl) pda_nil)) (pda_cons (pd_tup (pda_cons (pd_makeT G.mk_Query ((ok_Query__init G).mono (by decide)) (b_Query__init G) G.m_Query hr hg tk rfl (pda_cons (pd_var 5) (pda_cons (pd_var 6) pda_nil)) (alen_cons (alen_cons alen_nil)) rfl) pda_nil)) (pda_cons (pd_lst pda_nil) (pda_cons (pd_tup pda_nil) (pda_cons (pd_lst (pda_cons pd_non pda_nil)) pda_nil)))))))))
    (pdss_one (pds_if (pd_cmpB (op_neN hu) (pd_var 3) (pd_lst pda_nil) (nomark _)) (pdss_one (pds_asg (pd_callT ((ok_law_pick G).mono (by decide)) (b_law_pick G) G.F_law_pick.kp G.m_law_pick hr hg tk rfl (pda_cons (pd_var 0) (pda_cons (pd_var 10) pda_nil)) (alen_cons (alen_cons alen_nil)) rfl) (pdg_sub hu1 (pd_var 3) (pd_callT ((ok_law_draw G).mono (by decide)) (b_law_draw G) G.F_law_draw.kp G.m_law_draw hr hg tk rfl (pda_cons (pd_var 0) (pda_cons (pd_callB cr_len rfl G.b_len (by decide +kernel) (pda_cons (pd_var 3) pda_nil)) pda_nil)) (alen_cons (alen_cons alen_nil)) rfl)))) pdss_nil))))))))
    (pdss_one (pds_ret (pd_var 3))))))
theorem b_Union__len (G : Gs K mg) : Binds K G.fd_Union__len ["self"] [] := G.F_Union__len.bindsN fun _ _ _ _ _ _ us hl => match us, hl with | [_], _ => rfl
theorem ok_Union__len (G : Gs K mg) : FnG P w K mg base 1 (fAd K ("Union", some "__len__")) G.fd_Union__len ["self"] (g_Union__len K) := okG (k := 0) G.F_Union__len sc_Union__len fun cdv A outer s H E hr hg tk po => by
  have hu := hr.units
  have hu1 : (A.deeper (envOfC "Union.__len__" (defScope s_Union__len) s.heap.objs.size (fAd K ("Union", some "__len__")) cdv)).units + 1 < cLine := by omega
  exact (pdss_one (pds_ret (pd_callB cr_len rfl G.b_len (by decide +kernel) (pda_cons (pd_fld (all1 (⟨G.k_Union, G.n_Union_members⟩)) (by simp) (pd_var 0)) pda_nil))))
theorem ow_len {k : Nat} (G : Gs K mg) (h : 1 ≤ k) : ∀ p ∈ ([("Union", g_Union__len K)] : GT), OwnF P w K mg base k p.1 "__len__" 1 p.2 := by
  intro p h
  simp only [List.mem_cons, List.not_mem_nil, or_false] at h
  rcases h with rfl
  · exact ⟨_, _, _, G.of_Union_len.1, G.of_Union_len.2, (ok_Union__len G).mono (Nat.le_trans (by decide) h), b_Union__len G, rfl⟩
theorem b_law_shapes (G : Gs K mg) : Binds K G.fd_law_shapes ["source"] [] := G.F_law_shapes.bindsN fun _ _ _ _ _ _ us hl => match us, hl with | [_], _ => rfl
theorem ok_law_shapes (G : Gs K mg) : FnG P w K mg base 3 (fAd K ("_law_shapes", none)) G.fd_law_shapes ["source"] (g_law_shapes K) := okG (k := 2) G.F_law_shapes sc_law_shapes fun cdv A outer s H E hr hg tk po => by
  have hu := hr.units
  have hu1 : (A.deeper (envOfC "_law_shapes" (defScope s_law_shapes) s.heap.objs.size (fAd K ("_law_shapes", none)) cdv)).units + 1 < cLine := by omega
  exact (pdss_cons (pds_set (i := 1) sc_law_shapes.nd rfl (by first | exact Or.inl rfl | exact Or.inr rfl) (pd_lst (pda_cons (pd_tup (pda_cons pd_str (pda_cons pd_int pda_nil))) (pda_cons (pd_tup (pda_cons pd_str (pda_cons pd_int pda_nil))) (pda_cons (pd_tup (pda_cons pd_str (pda_cons pd_int pda_nil))) (pda_cons (pd_tup (pda_cons (pd_callT ((ok_law_word G).mono (by decide)) (b_law_word G) G.F_law_word.kp G.m_law_word hr hg tk rfl (pda_cons (pd_var 0) (pda_cons pd_int pda_nil)) (alen_cons (alen_cons alen_nil)) rfl) (pda_cons pd_int pda_nil))) (pda_cons (pd_tup (pda_cons pd_str (pda_cons pd_int pda_nil))) pda_nil)))))))
    (pdss_one (pds_ret (pd_cut (pd_callT ((ok_law_shuffle G).mono (by decide)) (b_law_shuffle G) G.F_law_shuffle.kp G.m_law_shuffle hr hg tk rfl (pda_cons (pd_var 0) (pda_cons (pd_var 1) pda_nil)) (alen_cons (alen_cons alen_nil)) rfl) pdo_none (pdo_some (pd_op op_add' pd_int (pd_callT ((ok_law_draw G).mono (by decide)) (b_law_draw G) G.F_law_draw.kp G.m_law_draw hr hg tk rfl (pda_cons (pd_var 0) (pda_cons pd_int pda_nil)) (alen_cons (alen_cons alen_nil)) rfl)))))))
theorem b_law_source (G : Gs K mg) : Binds K G.fd_law_source ["script"] [] := G.F_law_source.bindsN fun _ _ _ _ _ _ us hl => match us, hl with | [_], _ => rfl
theorem ok_law_source (G : Gs K mg) : FnG P w K mg base 1 (fAd K ("_law_source", none)) G.fd_law_source ["script"] (g_law_source K) := okG (k := 0) G.F_law_source sc_law_source fun cdv A outer s H E hr hg tk po => by
  have hu := hr.units
  have hu1 : (A.deeper (envOfC "_law_source" (defScope s_law_source) s.heap.objs.size (fAd K ("_law_source", none)) cdv)).units + 1 < cLine := by omega
  exact (pdss_cons (pds_set (i := 1) sc_law_source.nd rfl (by first | exact Or.inl rfl | exact Or.inr rfl) (pd_cutM (pd_var 0) pdo_none (pdo_some pd_int)))
    (pdss_cons (pds_for po rfl (pdi_rng1 rfl G.b_range (pda_cons (pd_callB cr_len rfl G.b_len (by decide +kernel) (pda_cons (pd_var 1) pda_nil)) pda_nil)) (pdg_name (i := 2) sc_law_source.nd rfl (by first | exact Or.inl rfl | exact Or.inr rfl)) (pdss_one (pds_if (pd_cmpB op_ge' (pd_callB cr_abs rfl G.b_abs (by decide +kernel) (pda_cons (pd_ix (pd_var 1) (pd_var 2)) pda_nil)) (pd_op op_pow' pd_int pd_int) (nomark _)) (pdss_one (pds_asg (pd_op op_mod' (pd_callTy cr_int rfl G.b_int (by decide +kernel) (pda_cons (pd_ix (pd_var 1) (pd_var 2)) pda_nil)) (pd_op op_pow' (pd_op op_pow' pd_int pd_int) pd_int)) (pdg_sub hu1 (pd_var 1) (pd_var 2)))) pdss_nil)))
    (pdss_cons (pds_if (pd_cmpB (op_eq' hu) (pd_var 1) (pd_lst pda_nil) (nomark _)) (pdss_one (pds_set (i := 1) sc_law_source.nd rfl (by first | exact Or.inl rfl | exact Or.inr rfl) (pd_lstM (pda_cons pd_int pda_nil)))) pdss_nil)
    (pdss_one (pds_ret (pd_lstM (pda_cons (pd_var 1) (pda_cons pd_int pda_nil))))))))
theorem b_law (G : Gs K mg) : Binds K G.fd_law ["script"] [] := G.F_law.bindsN fun _ _ _ _ _ _ us hl => match us, hl with | [_], _ => rfl
theorem ok_law (G : Gs K mg) : FnG P w K mg base 12 (fAd K ("law", none)) G.fd_law ["script"] (g_law K) := okG (k := 11) G.F_law sc_law fun cdv A outer s H E hr hg tk po => by
  have hu := hr.units
  have hu1 : (A.deeper (envOfC "law" (defScope s_law) s.heap.objs.size (fAd K ("law", none)) cdv)).units + 1 < cLine := by omega
  exact (pdss_cons (pds_set (i := 1) sc_law.nd rfl (by first | exact Or.inl rfl | exact Or.inr rfl) (pd_callK ((ok_law_source G).mono (by decide)) (b_law_source G) G.F_law_source.kp G.m_law_source hr hg tk rfl (pda_cons (pd_var 0) pda_nil) (alen_cons alen_nil) rfl))
    (pdss_cons (pds_for po rfl (pdi_rng1 rfl G.b_range (pda_cons pd_int pda_nil)) (pdg_name (i := 2) sc_law.nd rfl (by first | exact Or.inl rfl | exact Or.inr rfl)) (pdss_cons (pds_set (i := 3) sc_law.nd rfl (by first | exact Or.inl rfl | exact Or.inr rfl) (pd_callT ((ok_law_shapes G).mono (by decide)) (b_law_shapes G) G.F_law_shapes.kp G.m_law_shapes hr hg tk rfl (pda_cons (pd_var 1) pda_nil) (alen_cons alen_nil) rfl))
    (pdss_cons (pds_set (i := 4) sc_law.nd rfl (by first | exact Or.inl rfl | exact Or.inr rfl) (pd_callT ((ok_law_draw G).mono (by decide)) (b_law_draw G) G.F_law_draw.kp G.m_law_draw hr hg tk rfl (pda_cons (pd_var 1) (pda_cons pd_int pda_nil)) (alen_cons (alen_cons alen_nil)) rfl))
    (pdss_cons (pds_set (i := 5) sc_law.nd rfl (by first | exact Or.inl rfl | exact Or.inr rfl) (pd_callT ((ok_law_values G).mono (by decide)) (b_law_values G) G.F_law_values.kp G.m_law_values hr hg tk rfl (pda_cons (pd_var 1) (pda_cons (pd_var 3) (pda_cons (pd_var 4) pda_nil))) (alen_cons (alen_cons (alen_cons alen_nil))) rfl))
    (pdss_cons (pds_if (pd_cmpB (op_ne' hu) (pd_callT ((ok_law_raised G).mono (by decide)) (b_law_raised G) G.F_law_raised.kp G.m_law_raised hr hg tk rfl (pda_cons (pd_var 5) (pda_cons pd_non pda_nil)) (alen_cons (alen_cons alen_nil)) rfl) (pd_callT ((ok_law_expected G).mono (by decide)) (b_law_expected G) G.F_law_expected.kp G.m_law_expected hr hg tk rfl (pda_cons (pd_var 5) pda_nil) (alen_cons alen_nil) rfl) (nomark _)) (pdss_one (pds_ret pd_bl)) pdss_nil)
    (pdss_cons (pds_if (pd_cmpB op_is' (pd_callT ((ok_law_expected G).mono (by decide)) (b_law_expected G) G.F_law_expected.kp G.m_law_expected hr hg tk rfl (pda_cons (pd_var 5) pda_nil) (alen_cons alen_nil) rfl) pd_non (nomark _)) (pdss_cons (pds_set (i := 7) sc_law.nd rfl (by first | exact Or.inl rfl | exact Or.inr rfl) (pd_callT ((ok_law_make G).mono (by decide)) (b_law_make G) G.F_law_make.kp G.m_law_make hr hg tk rfl (pda_cons (pd_var 5) pda_nil) (alen_cons alen_nil) rfl))
    (pdss_cons (pds_set (i := 8) sc_law.nd rfl (by first | exact Or.inl rfl | exact Or.inr rfl) (pd_callT ((ok_law_expected G).mono (by decide)) (b_law_expected G) G.F_law_expected.kp G.m_law_expected hr hg tk rfl (pda_cons (pd_op op_mul' (pd_callTy cr_list rfl G.b_list (by decide +kernel) (pda_cons (pd_prop hr hg (ow_p_queries G (by decide)) (pd_var 7)) pda_nil)) pd_int) pda_nil) (alen_cons alen_nil) rfl))
    (pdss_one (pds_if (pdb_w (pdw_or (pd_cmpB (op_ne' hu) (pd_callT ((ok_law_raised G).mono (by decide)) (b_law_raised G) G.F_law_raised.kp G.m_law_raised hr hg tk rfl (pda_cons (pd_var 7) (pda_cons (pd_var 7) pda_nil)) (alen_cons (alen_cons alen_nil)) rfl) (pd_var 8) (nomark _)) (pdw_or1 (pdb_w (pdw_and (pd_cmpB op_is' (pd_var 8) pd_non (nomark _)) (pdw_and1 (pd_cmpB (op_ne' hu) (pd_callBE (cr_lenE hr hg (ow_len G (by decide))) rfl G.b_len (by decide +kernel) (pda_cons (pd_binO (by rfl) hr hg tk (ow_or G (by decide)) (pd_var 7) (pd_var 7)) pda_nil)) (pd_op op_mul' pd_int (pd_callBE (cr_lenE hr hg (ow_len G (by decide))) rfl G.b_len (by decide +kernel) (pda_cons (pd_var 7) pda_nil))) (nomark _)))))))) (pdss_one (pds_ret pd_bl)) pdss_nil)))) pdss_nil)
    (pdss_cons (pds_set (i := 6) sc_law.nd rfl (by first | exact Or.inl rfl | exact Or.inr rfl) (pd_callT ((ok_law_values G).mono (by decide)) (b_law_values G) G.F_law_values.kp G.m_law_values hr hg tk rfl (pda_cons (pd_var 1) (pda_cons (pd_var 3) (pda_cons (pd_callT ((ok_law_pick G).mono (by decide)) (b_law_pick G) G.F_law_pick.kp G.m_law_pick hr hg tk rfl (pda_cons (pd_var 1) (pda_cons (pd_lst (pda_cons (pd_var 4) (pda_cons (pd_var 4) (pda_cons (pd_callT ((ok_law_draw G).mono (by decide)) (b_law_draw G) G.F_law_draw.kp G.m_law_draw hr hg tk rfl (pda_cons (pd_var 1) (pda_cons pd_int pda_nil)) (alen_cons (alen_cons alen_nil)) rfl) pda_nil)))) pda_nil)) (alen_cons (alen_cons alen_nil)) rfl) pda_nil))) (alen_cons (alen_cons (alen_cons alen_nil))) rfl))
    (pdss_one (pds_if (pdb_w (pdw_and (pd_cmpB op_is' (pd_callT ((ok_law_expected G).mono (by decide)) (b_law_expected G) G.F_law_expected.kp G.m_law_expected hr hg tk rfl (pda_cons (pd_var 5) pda_nil) (alen_cons alen_nil) rfl) pd_non (nomark _)) (pdw_and1 (pd_cmpB op_is' (pd_callT ((ok_law_expected G).mono (by decide)) (b_law_expected G) G.F_law_expected.kp G.m_law_expected hr hg tk rfl (pda_cons (pd_var 6) pda_nil) (alen_cons alen_nil) rfl) pd_non (nomark _))))) (pdss_cons (pds_par (i := 7) (j := 9) rfl sc_law.nd rfl rfl (by decide) rfl rfl (pda_cons (pd_callT ((ok_law_make G).mono (by decide)) (b_law_make G) G.F_law_make.kp G.m_law_make hr hg tk rfl (pda_cons (pd_var 5) pda_nil) (alen_cons alen_nil) rfl) (pda_cons (pd_callT ((ok_law_make G).mono (by decide)) (b_law_make G) G.F_law_make.kp G.m_law_make hr hg tk rfl (pda_cons (pd_var 6) pda_nil) (alen_cons alen_nil) rfl) pda_nil)) (by rfl))
    (pdss_one (pds_if (pd_cmpB (op_ne' hu) (pd_callT ((ok_law_raised G).mono (by decide)) (b_law_raised G) G.F_law_raised.kp G.m_law_raised hr hg tk rfl (pda_cons (pd_var 7) (pda_cons (pd_var 9) pda_nil)) (alen_cons (alen_cons alen_nil)) rfl) (pd_callT ((ok_law_expected G).mono (by decide)) (b_law_expected G) G.F_law_expected.kp G.m_law_expected hr hg tk rfl (pda_cons (pd_op op_add' (pd_callTy cr_list rfl G.b_list (by decide +kernel) (pda_cons (pd_prop hr hg (ow_p_queries G (by decide)) (pd_var 7)) pda_nil)) (pd_callTy cr_list rfl G.b_list (by decide +kernel) (pda_cons (pd_prop hr hg (ow_p_queries G (by decide)) (pd_var 9)) pda_nil))) pda_nil) (alen_cons alen_nil) rfl) (nomark _)) (pdss_one (pds_ret pd_bl)) pdss_nil))) pdss_nil)))))))))
    (pdss_one (pds_ret pd_bl))))
/-! ### the head -/
def d_Query_places : DefX := ⟨⟨("Query", some "places"), "places", "Query.places", defArgs s_Query_places, defBody s_Query_places, defScope s_Query_places, [], []⟩, true⟩
def d_Query_head : DefX := ⟨⟨("Query", some "head"), "head", "Query.head", defArgs s_Query_head, defBody s_Query_head, defScope s_Query_head, [], []⟩, true⟩
def d_law_expected : DefX := ⟨⟨("_law_expected", none), "_law_expected", "_law_expected", defArgs s_law_expected, defBody s_law_expected, defScope s_law_expected, [], []⟩, false⟩
def d_Query_atoms : DefX := ⟨⟨("Query", some "atoms"), "atoms", "Query.atoms", defArgs s_Query_atoms, defBody s_Query_atoms, defScope s_Query_atoms, [], []⟩, true⟩
def d_key : DefX := ⟨⟨("key", none), "key", "key", defArgs s_key, defBody s_key, defScope s_key, [], []⟩, false⟩
def d_InvalidQuery__init : DefX := ⟨⟨("InvalidQuery", some "__init__"), "__init__", "InvalidQuery.__init__", defArgs s_InvalidQuery__init, defBody s_InvalidQuery__init, defScope s_InvalidQuery__init, [], []⟩, false⟩
def d_names_in : DefX := ⟨⟨("names_in", none), "names_in", "names_in", defArgs s_names_in, defBody s_names_in, defScope s_names_in, [], []⟩, false⟩
def d_is_name : DefX := ⟨⟨("is_name", none), "is_name", "is_name", defArgs s_is_name, defBody s_is_name, defScope s_is_name, [], []⟩, false⟩
def d_are_names : DefX := ⟨⟨("are_names", none), "are_names", "are_names", defArgs s_are_names, defBody s_are_names, defScope s_are_names, [], []⟩, false⟩
def d_is_atom : DefX := ⟨⟨("is_atom", none), "is_atom", "is_atom", defArgs s_is_atom, defBody s_is_atom, defScope s_is_atom, [], []⟩, false⟩
def d_query_error : DefX := ⟨⟨("query_error", none), "query_error", "query_error", defArgs s_query_error, defBody s_query_error, defScope s_query_error, [], []⟩, false⟩
def d_Query__init : DefX := ⟨⟨("Query", some "__init__"), "__init__", "Query.__init__", defArgs s_Query__init, defBody s_Query__init, defScope s_Query__init, [], []⟩, false⟩
def d_InvalidUnion__init : DefX := ⟨⟨("InvalidUnion", some "__init__"), "__init__", "InvalidUnion.__init__", defArgs s_InvalidUnion__init, defBody s_InvalidUnion__init, defScope s_InvalidUnion__init, [], []⟩, false⟩
def d_other_places : DefX := ⟨⟨("other_places", none), "other_places", "other_places", defArgs s_other_places, defBody s_other_places, defScope s_other_places, [], []⟩, false⟩
def d_union_error : DefX := ⟨⟨("union_error", none), "union_error", "union_error", defArgs s_union_error, defBody s_union_error, defScope s_union_error, [], []⟩, false⟩
def d_Union__init : DefX := ⟨⟨("Union", some "__init__"), "__init__", "Union.__init__", defArgs s_Union__init, defBody s_Union__init, defScope s_Union__init, [], []⟩, false⟩
def d_law_make : DefX := ⟨⟨("_law_make", none), "_law_make", "_law_make", defArgs s_law_make, defBody s_law_make, defScope s_law_make, [], []⟩, false⟩
def d_Union__or : DefX := ⟨⟨("Union", some "__or__"), "__or__", "Union.__or__", defArgs s_Union__or, defBody s_Union__or, defScope s_Union__or, [], []⟩, false⟩
def d_law_raised : DefX := ⟨⟨("_law_raised", none), "_law_raised", "_law_raised", defArgs s_law_raised, defBody s_law_raised, defScope s_law_raised, [], []⟩, false⟩
def d_Union_queries : DefX := ⟨⟨("Union", some "queries"), "queries", "Union.queries", defArgs s_Union_queries, defBody s_Union_queries, defScope s_Union_queries, [], []⟩, true⟩
def d_law_draw : DefX := ⟨⟨("_law_draw", none), "_law_draw", "_law_draw", defArgs s_law_draw, defBody s_law_draw, defScope s_law_draw, [], []⟩, false⟩
def d_law_pick : DefX := ⟨⟨("_law_pick", none), "_law_pick", "_law_pick", defArgs s_law_pick, defBody s_law_pick, defScope s_law_pick, [], []⟩, false⟩
def d_law_atoms : DefX := ⟨⟨("_law_atoms", none), "_law_atoms", "_law_atoms", defArgs s_law_atoms, defBody s_law_atoms, defScope s_law_atoms, [], []⟩, false⟩
def d_law_shuffle : DefX := ⟨⟨("_law_shuffle", none), "_law_shuffle", "_law_shuffle", defArgs s_law_shuffle, defBody s_law_shuffle, defScope s_law_shuffle, [], []⟩, false⟩
def d_law_word : DefX := ⟨⟨("_law_word", none), "_law_word", "_law_word", defArgs s_law_word, defBody s_law_word, defScope s_law_word, [], []⟩, false⟩
def d_law_variables : DefX := ⟨⟨("_law_variables", none), "_law_variables", "_law_variables", defArgs s_law_variables, defBody s_law_variables, defScope s_law_variables, [], []⟩, false⟩
def d_law_parts : DefX := ⟨⟨("_law_parts", none), "_law_parts", "_law_parts", defArgs s_law_parts, defBody s_law_parts, defScope s_law_parts, [], []⟩, false⟩
def d_law_values : DefX := ⟨⟨("_law_values", none), "_law_values", "_law_values", defArgs s_law_values, defBody s_law_values, defScope s_law_values, [], []⟩, false⟩
def d_Union__len : DefX := ⟨⟨("Union", some "__len__"), "__len__", "Union.__len__", defArgs s_Union__len, defBody s_Union__len, defScope s_Union__len, [], []⟩, false⟩
def d_law_shapes : DefX := ⟨⟨("_law_shapes", none), "_law_shapes", "_law_shapes", defArgs s_law_shapes, defBody s_law_shapes, defScope s_law_shapes, [], []⟩, false⟩
def d_law_source : DefX := ⟨⟨("_law_source", none), "_law_source", "_law_source", defArgs s_law_source, defBody s_law_source, defScope s_law_source, [], []⟩, false⟩
def d_law : DefX := ⟨⟨("law", none), "law", "law", defArgs s_law, defBody s_law, defScope s_law, [], []⟩, false⟩
def fn : List DefX := [d_Query_places, d_Query_head, d_law_expected, d_Query_atoms, d_key, d_InvalidQuery__init, d_names_in, d_is_name, d_are_names, d_is_atom, d_query_error, d_Query__init, d_InvalidUnion__init, d_other_places, d_union_error, d_Union__init, d_law_make, d_Union__or, d_law_raised, d_Union_queries, d_law_draw, d_law_pick, d_law_atoms, d_law_shuffle, d_law_word, d_law_variables, d_law_parts, d_law_values, d_Union__len, d_law_shapes, d_law_source, d_law]
def fb : List (Frag → Bool) := [fun K => (Fa.free "range").ok K,
  fun K => (Fa.free "len").ok K,
  fun K => (Fa.cls "Query").ok K,
  fun K => (Fa.noat "Query" "rest").ok K,
  fun K => (Fa.noat "Query" "first").ok K,
  fun K => (Fa.glo "Query").ok K,
  fun K => decide (kitOne K (.type "NoneType") (.ref (ga K "Query")) = some false),
  fun K => decide (kitOne K (.type "bool") (.ref (ga K "Query")) = some false),
  fun K => decide (kitOne K (.type "int") (.ref (ga K "Query")) = some false),
  fun K => decide (kitOne K (.type "str") (.ref (ga K "Query")) = some false),
  fun K => decide (kitOne K (.type "tuple") (.ref (ga K "Query")) = some false),
  fun K => decide (kitOne K (.type "list") (.ref (ga K "Query")) = some false),
  fun K => decide (kitOne K (.type "dict") (.ref (ga K "Query")) = some false),
  fun K => decide (kitOne K (.ref (ga K "Union")) (.ref (ga K "Query")) = some false),
  fun K => decide (kitOne K (.ref (ga K "InvalidQuery")) (.ref (ga K "Query")) = some false),
  fun K => decide (kitOne K (.ref (ga K "InvalidUnion")) (.ref (ga K "Query")) = some false),
  fun K => decide (kitOne K (.ref (ga K "MarkError")) (.ref (ga K "Query")) = some false),
  fun K => insB K "Query",
  fun K => insB K "Union",
  fun K => excB K (ga K "InvalidQuery"),
  fun K => excB K (ga K "InvalidUnion"),
  fun K => excB K (ga K "MarkError"),
  fun K => (Fa.free "isinstance").ok K,
  fun K => (Fa.glo "_law_expected").ok K,
  fun K => (Fa.free "ValueError").ok K,
  fun K => decide (kitOne K (.ref (ga K "Query")) (.type "ValueError") = some false),
  fun K => decide (kitOne K (.ref (ga K "Union")) (.type "ValueError") = some false),
  fun K => decide (kitOne K (.ref (ga K "InvalidQuery")) (.type "ValueError") = some true),
  fun K => decide (kitOne K (.ref (ga K "InvalidUnion")) (.type "ValueError") = some true),
  fun K => decide (kitOne K (.ref (ga K "MarkError")) (.type "ValueError") = some true),
  fun K => (Fa.glo "InvalidUnion").ok K,
  fun K => decide (kitOne K (.type "NoneType") (.ref (ga K "InvalidUnion")) = some false),
  fun K => decide (kitOne K (.type "bool") (.ref (ga K "InvalidUnion")) = some false),
  fun K => decide (kitOne K (.type "int") (.ref (ga K "InvalidUnion")) = some false),
  fun K => decide (kitOne K (.type "str") (.ref (ga K "InvalidUnion")) = some false),
  fun K => decide (kitOne K (.type "tuple") (.ref (ga K "InvalidUnion")) = some false),
  fun K => decide (kitOne K (.type "list") (.ref (ga K "InvalidUnion")) = some false),
  fun K => decide (kitOne K (.type "dict") (.ref (ga K "InvalidUnion")) = some false),
  fun K => decide (kitOne K (.ref (ga K "Query")) (.ref (ga K "InvalidUnion")) = some false),
  fun K => decide (kitOne K (.ref (ga K "Union")) (.ref (ga K "InvalidUnion")) = some false),
  fun K => decide (kitOne K (.ref (ga K "InvalidQuery")) (.ref (ga K "InvalidUnion")) = some false),
  fun K => decide (kitOne K (.ref (ga K "MarkError")) (.ref (ga K "InvalidUnion")) = some false),
  fun K => xfB K (ga K "InvalidQuery"),
  fun K => (Fa.noat "InvalidQuery" "reason").ok K,
  fun K => xfB K (ga K "InvalidUnion"),
  fun K => (Fa.noat "InvalidUnion" "reason").ok K,
  fun K => decide (exmOne K (.ref (ga K "InvalidQuery")) (.ref (ga K "MarkError")) = some true),
  fun K => decide (exmOne K (.ref (ga K "InvalidUnion")) (.ref (ga K "MarkError")) = some true),
  fun K => decide (exmOne K (.ref (ga K "MarkError")) (.ref (ga K "MarkError")) = some true),
  fun K => (Fa.free "list").ok K,
  fun K => decide (kitOne K (.ref (ga K "Query")) (.type "list") = some false),
  fun K => decide (kitOne K (.ref (ga K "Union")) (.type "list") = some false),
  fun K => decide (kitOne K (.ref (ga K "InvalidQuery")) (.type "list") = some false),
  fun K => decide (kitOne K (.ref (ga K "InvalidUnion")) (.type "list") = some false),
  fun K => decide (kitOne K (.ref (ga K "MarkError")) (.type "list") = some false),
  fun K => (Fa.glo "key").ok K,
  fun K => (Fa.free "sorted").ok K,
  fun K => (Fa.free "tuple").ok K,
  fun K => oexB K (ga K "InvalidQuery"),
  fun K => eqO (findIn K (.ref (ga K "InvalidQuery")) "__init__") (some (some (.ref (fAd K ("InvalidQuery", some "__init__"))))),
  fun K => decide (typeIn K (.ref (fAd K ("InvalidQuery", some "__init__"))) = some (.type "function")),
  fun K => (Fa.glo "InvalidQuery").ok K,
  fun K => (Fa.int "MAX_VARIABLES" (5)).ok K,
  fun K => (Fa.free "enumerate").ok K,
  fun K => (Fa.glo "names_in").ok K,
  fun K => (Fa.str "LETTERS" "abcdefghijklmnopqrstuvwxyz").ok K,
  fun K => (Fa.free "all").ok K,
  fun K => (Fa.int "MAX_NAME" (8)).ok K,
  fun K => (Fa.free "str").ok K,
  fun K => decide (kitOne K (.ref (ga K "Query")) (.type "str") = some false),
  fun K => decide (kitOne K (.ref (ga K "Union")) (.type "str") = some false),
  fun K => decide (kitOne K (.ref (ga K "InvalidQuery")) (.type "str") = some false),
  fun K => decide (kitOne K (.ref (ga K "InvalidUnion")) (.type "str") = some false),
  fun K => decide (kitOne K (.ref (ga K "MarkError")) (.type "str") = some false),
  fun K => (Fa.glo "is_name").ok K,
  fun K => decide (kitOne K (.ref (ga K "Query")) (.type "tuple") = some false),
  fun K => decide (kitOne K (.ref (ga K "Union")) (.type "tuple") = some false),
  fun K => decide (kitOne K (.ref (ga K "InvalidQuery")) (.type "tuple") = some false),
  fun K => decide (kitOne K (.ref (ga K "InvalidUnion")) (.type "tuple") = some false),
  fun K => decide (kitOne K (.ref (ga K "MarkError")) (.type "tuple") = some false),
  fun K => (Fa.int "MAX_PLACES" (3)).ok K,
  fun K => (Fa.glo "are_names").ok K,
  fun K => (Fa.glo "is_atom").ok K,
  fun K => (Fa.int "MAX_ATOMS" (6)).ok K,
  fun K => (Fa.int "MAX_HEAD" (3)).ok K,
  fun K => (Fa.glo "query_error").ok K,
  fun K => (Fa.mkr "Query").ok K,
  fun K => (Fa.cls "Union").ok K,
  fun K => (Fa.noat "Union" "members").ok K,
  fun K => oexB K (ga K "InvalidUnion"),
  fun K => eqO (findIn K (.ref (ga K "InvalidUnion")) "__init__") (some (some (.ref (fAd K ("InvalidUnion", some "__init__"))))),
  fun K => decide (typeIn K (.ref (fAd K ("InvalidUnion", some "__init__"))) = some (.type "function")),
  fun K => (Fa.free "any").ok K,
  fun K => (Fa.glo "other_places").ok K,
  fun K => (Fa.int "MAX_QUERIES" (3)).ok K,
  fun K => (Fa.glo "union_error").ok K,
  fun K => (Fa.mkr "Union").ok K,
  fun K => (Fa.glo "Union").ok K,
  fun K => (Fa.glo "_law_make").ok K,
  fun K => (Fa.glo "MarkError").ok K,
  fun K => (Fa.glo "_law_raised").ok K,
  fun K => (Fa.free "int").ok K,
  fun K => (Fa.glo "_law_draw").ok K,
  fun K => (Fa.glo "_law_pick").ok K,
  fun K => (Fa.free "set").ok K,
  fun K => (Fa.glo "_law_atoms").ok K,
  fun K => (Fa.glo "_law_shuffle").ok K,
  fun K => (Fa.glo "_law_word").ok K,
  fun K => (Fa.glo "_law_variables").ok K,
  fun K => (Fa.glo "_law_parts").ok K,
  fun K => (Fa.glo "_law_values").ok K,
  fun K => (Fa.glo "_law_shapes").ok K,
  fun K => (Fa.free "abs").ok K,
  fun K => (Fa.glo "_law_source").ok K,
  fun K => veiB K (ga K "MarkError"),
  fun K => (Fa.glo "law").ok K,
  fun K => prB K "Query" "places",
  fun K => prB K "Query" "head",
  fun K => prB K "Query" "atoms",
  fun K => ofB K "Union" "__or__",
  fun K => PySem.W.selfFirst K (ga K "Union"),
  fun K => prB K "Union" "queries",
  fun K => ofB K "Union" "__len__"]
theorem gs {h : Heap} (X : K.In h) (N : h.Ns mainGlobals mg) (c : SaysX fb fn K) : Nonempty (Gs K mg) := by
  obtain ⟨fd0, F0⟩ := c.def_ 0 (x := d_Query_places) rfl
  obtain ⟨fd1, F1⟩ := c.def_ 1 (x := d_Query_head) rfl
  obtain ⟨fd2, F2⟩ := c.def_ 2 (x := d_law_expected) rfl
  obtain ⟨fd3, F3⟩ := c.def_ 3 (x := d_Query_atoms) rfl
  obtain ⟨fd4, F4⟩ := c.def_ 4 (x := d_key) rfl
  obtain ⟨fd5, F5⟩ := c.def_ 5 (x := d_InvalidQuery__init) rfl
  obtain ⟨fd6, F6⟩ := c.def_ 6 (x := d_names_in) rfl
  obtain ⟨fd7, F7⟩ := c.def_ 7 (x := d_is_name) rfl
  obtain ⟨fd8, F8⟩ := c.def_ 8 (x := d_are_names) rfl
  obtain ⟨fd9, F9⟩ := c.def_ 9 (x := d_is_atom) rfl
  obtain ⟨fd10, F10⟩ := c.def_ 10 (x := d_query_error) rfl
  obtain ⟨fd11, F11⟩ := c.def_ 11 (x := d_Query__init) rfl
  obtain ⟨fd12, F12⟩ := c.def_ 12 (x := d_InvalidUnion__init) rfl
  obtain ⟨fd13, F13⟩ := c.def_ 13 (x := d_other_places) rfl
  obtain ⟨fd14, F14⟩ := c.def_ 14 (x := d_union_error) rfl
  obtain ⟨fd15, F15⟩ := c.def_ 15 (x := d_Union__init) rfl
  obtain ⟨fd16, F16⟩ := c.def_ 16 (x := d_law_make) rfl
  obtain ⟨fd17, F17⟩ := c.def_ 17 (x := d_Union__or) rfl
  obtain ⟨fd18, F18⟩ := c.def_ 18 (x := d_law_raised) rfl
  obtain ⟨fd19, F19⟩ := c.def_ 19 (x := d_Union_queries) rfl
  obtain ⟨fd20, F20⟩ := c.def_ 20 (x := d_law_draw) rfl
  obtain ⟨fd21, F21⟩ := c.def_ 21 (x := d_law_pick) rfl
  obtain ⟨fd22, F22⟩ := c.def_ 22 (x := d_law_atoms) rfl
  obtain ⟨fd23, F23⟩ := c.def_ 23 (x := d_law_shuffle) rfl
  obtain ⟨fd24, F24⟩ := c.def_ 24 (x := d_law_word) rfl
  obtain ⟨fd25, F25⟩ := c.def_ 25 (x := d_law_variables) rfl
  obtain ⟨fd26, F26⟩ := c.def_ 26 (x := d_law_parts) rfl
  obtain ⟨fd27, F27⟩ := c.def_ 27 (x := d_law_values) rfl
  obtain ⟨fd28, F28⟩ := c.def_ 28 (x := d_Union__len) rfl
  obtain ⟨fd29, F29⟩ := c.def_ 29 (x := d_law_shapes) rfl
  obtain ⟨fd30, F30⟩ := c.def_ 30 (x := d_law_source) rfl
  obtain ⟨fd31, F31⟩ := c.def_ 31 (x := d_law) rfl
  exact ⟨⟨fd0, fd1, fd2, fd3, fd4, fd5, fd6, fd7, fd8, fd9, fd10, fd11, fd12, fd13, fd14, fd15, fd16, fd17, fd18, fd19, fd20, fd21, fd22, fd23, fd24, fd25, fd26, fd27, fd28, fd29, fd30, fd31, F0, F1, F2, F3, F4, F5, F6, F7, F8, F9, F10, F11, F12, F13, F14, F15, F16, F17, F18, F19, F20, F21, F22, F23, F24, F25, F26, F27, F28, F29, F30, F31, free_ok X N (c.fact 0),
    free_ok X N (c.fact 1),
    cls_ok (c.fact 2),
    eqO_ok (c.fact 3),
    eqO_ok (c.fact 4),
    glo_ok X N (c.fact 5),
    insB_ok (c.fact 17),
    insB_ok (c.fact 18),
    excB_ok (c.fact 19),
    excB_ok (c.fact 20),
    excB_ok (c.fact 21),
    free_ok X N (c.fact 22),
    glo_ok X N (c.fact 23),
    free_ok X N (c.fact 24),
    glo_ok X N (c.fact 30),
    xfB_ok (c.fact 42),
    eqO_ok (c.fact 43),
    xfB_ok (c.fact 44),
    eqO_ok (c.fact 45),
    free_ok X N (c.fact 49),
    glo_ok X N (c.fact 55),
    free_ok X N (c.fact 56),
    free_ok X N (c.fact 57),
    oexB_ok (c.fact 58),
    eqO_ok (c.fact 59),
    of_decide_eq_true (c.fact 60),
    glo_ok X N (c.fact 61),
    int_ok X N (c.fact 62),
    free_ok X N (c.fact 63),
    glo_ok X N (c.fact 64),
    str_ok X N (c.fact 65),
    free_ok X N (c.fact 66),
    int_ok X N (c.fact 67),
    free_ok X N (c.fact 68),
    glo_ok X N (c.fact 74),
    int_ok X N (c.fact 80),
    glo_ok X N (c.fact 81),
    glo_ok X N (c.fact 82),
    int_ok X N (c.fact 83),
    int_ok X N (c.fact 84),
    glo_ok X N (c.fact 85),
    mkr_ok (c.fact 86),
    cls_ok (c.fact 87),
    eqO_ok (c.fact 88),
    oexB_ok (c.fact 89),
    eqO_ok (c.fact 90),
    of_decide_eq_true (c.fact 91),
    free_ok X N (c.fact 92),
    glo_ok X N (c.fact 93),
    int_ok X N (c.fact 94),
    glo_ok X N (c.fact 95),
    mkr_ok (c.fact 96),
    glo_ok X N (c.fact 97),
    glo_ok X N (c.fact 98),
    glo_ok X N (c.fact 99),
    glo_ok X N (c.fact 100),
    free_ok X N (c.fact 101),
    glo_ok X N (c.fact 102),
    glo_ok X N (c.fact 103),
    free_ok X N (c.fact 104),
    glo_ok X N (c.fact 105),
    glo_ok X N (c.fact 106),
    glo_ok X N (c.fact 107),
    glo_ok X N (c.fact 108),
    glo_ok X N (c.fact 109),
    glo_ok X N (c.fact 110),
    glo_ok X N (c.fact 111),
    free_ok X N (c.fact 112),
    glo_ok X N (c.fact 113),
    veiB_ok (c.fact 114),
    glo_ok X N (c.fact 115),
    prB_ok (c.fact 116),
    prB_ok (c.fact 117),
    prB_ok (c.fact 118),
    ofB_ok (c.fact 119),
    (c.fact 120),
    prB_ok (c.fact 121),
    ofB_ok (c.fact 122)⟩⟩
theorem kf (c : SaysX fb fn K) : Kf K := ⟨of_decide_eq_true (c.fact 6), of_decide_eq_true (c.fact 7), of_decide_eq_true (c.fact 8), of_decide_eq_true (c.fact 9), of_decide_eq_true (c.fact 10), of_decide_eq_true (c.fact 11), of_decide_eq_true (c.fact 12), of_decide_eq_true (c.fact 13), of_decide_eq_true (c.fact 14), of_decide_eq_true (c.fact 15), of_decide_eq_true (c.fact 16), of_decide_eq_true (c.fact 25), of_decide_eq_true (c.fact 26), of_decide_eq_true (c.fact 27), of_decide_eq_true (c.fact 28), of_decide_eq_true (c.fact 29), of_decide_eq_true (c.fact 31), of_decide_eq_true (c.fact 32), of_decide_eq_true (c.fact 33), of_decide_eq_true (c.fact 34), of_decide_eq_true (c.fact 35), of_decide_eq_true (c.fact 36), of_decide_eq_true (c.fact 37), of_decide_eq_true (c.fact 38), of_decide_eq_true (c.fact 39), of_decide_eq_true (c.fact 40), of_decide_eq_true (c.fact 41), of_decide_eq_true (c.fact 46), of_decide_eq_true (c.fact 47), of_decide_eq_true (c.fact 48), of_decide_eq_true (c.fact 50), of_decide_eq_true (c.fact 51), of_decide_eq_true (c.fact 52), of_decide_eq_true (c.fact 53), of_decide_eq_true (c.fact 54), of_decide_eq_true (c.fact 69), of_decide_eq_true (c.fact 70), of_decide_eq_true (c.fact 71), of_decide_eq_true (c.fact 72), of_decide_eq_true (c.fact 73), of_decide_eq_true (c.fact 75), of_decide_eq_true (c.fact 76), of_decide_eq_true (c.fact 77), of_decide_eq_true (c.fact 78), of_decide_eq_true (c.fact 79), trivial⟩
end L2.MK.W_k07
end

end

section
set_option Elab.async false
set_option linter.all false
set_option maxRecDepth 100000
set_option maxHeartbeats 0
set_option autoImplicit false
namespace L2.MK.W_k07
open PySem PySem.Spec PyProof.Rows L2
abbrev Rr : PySem.W.OpenRow := PySem.W.OpenLaw.row PySem.Challenge.rw_marktables_k07_union_errors
abbrev hk : PySem.W.Hook := hookX 6 fb fn
def ob (s : PySem.W.SharedT) : He.AlD := obsXG 6 fb fn (HandSHeadRun.getT s)
theorem ob_eq (s : PySem.W.SharedT) : ob s = hk.obs s.abs := obsXG_eq (HandSHeadRun.getT_eq s)
def loose : List PySem.Str := [("_wall" : PySem.Str), ("MarkError" : PySem.Str), ("InvalidQuery" : PySem.Str), ("InvalidText" : PySem.Str), ("InvalidUnion" : PySem.Str), ("LETTERS" : PySem.Str), ("MAX_NAME" : PySem.Str), ("MAX_HEAD" : PySem.Str), ("MAX_ATOMS" : PySem.Str), ("MAX_PLACES" : PySem.Str), ("MAX_VARIABLES" : PySem.Str), ("is_name" : PySem.Str), ("are_names" : PySem.Str), ("is_atom" : PySem.Str), ("names_in" : PySem.Str), ("query_error" : PySem.Str), ("atom_text" : PySem.Str), ("atom_in" : PySem.Str), ("Query" : PySem.Str), ("key" : PySem.Str), ("MAX_QUERIES" : PySem.Str), ("other_places" : PySem.Str), ("union_error" : PySem.Str), ("Union" : PySem.Str), ("_law_source" : PySem.Str), ("_law_draw" : PySem.Str), ("_law_pick" : PySem.Str), ("_law_shuffle" : PySem.Str), ("_law_word" : PySem.Str), ("_law_shapes" : PySem.Str), ("_law_atoms" : PySem.Str), ("_law_variables" : PySem.Str), ("_law_parts" : PySem.Str), ("_law_expected" : PySem.Str), ("_law_make" : PySem.Str), ("_law_raised" : PySem.Str), ("_law_values" : PySem.Str)]
theorem run (w : World) : HandSHeadRun.RunEq Rr (PySem.W.view Rr.prog [41]) hk ob 4000 loose w := by
  intro os
  kernel_rfl
theorem facts {P : Program} {w : World} {K : PySem.W.Frag} {h : Heap} {mg : Str → Option Value} {f : Addr} (X : K.In h) (N : h.Ns mainGlobals mg) (hfa : mg ("law" : Str) = some (.ref f)) (c : SaysX fb fn K) :
    ∃ (fd : FuncData) (g : List D → Ev D), (∀ (s : Shared) (v : Value), BindsTo s fd ⟨[v], []⟩ [("script", v)]) ∧ (∀ ns : List Int, ns.length ≤ 63 → ∃ M, g [.rol (ns.map .int)] [] = .ok (.bl true) M) ∧
      ∀ base : Heap, K.In base → base.Ns mainGlobals mg → FnG P w K mg base 12 f fd ["script"] g := by
  obtain ⟨G⟩ := gs (mg := mg) X N c
  have e := hfa.symm.trans G.m_law
  cases e
  have b := FunD.bindsA (ps := ["script"]) G.F_law fun _ _ _ _ _ _ us hl => match us, hl with | [_], _ => rfl
  exact ⟨G.fd_law, g_law K, fun s v => b s [v] rfl, fun ns _ => law_ok (kf c) ns, fun base _ _ => ok_law G⟩
end L2.MK.W_k07
open PySem PySem.W PySem.Calls PyProof.Rows
theorem PySem.Challenge.cw_marktables_k07_union_errors_holds : PySem.Challenge.rw_marktables_k07_union_errors.Holds := by
  w_on; o_law
  refine HandSHeadRun.head_any (r := OpenLaw.row PySem.Challenge.rw_marktables_k07_union_errors) (q := view (OpenLaw.row PySem.Challenge.rw_marktables_k07_union_errors).prog [41]) (H := L2.MK.W_k07.hk) (ob := L2.MK.W_k07.ob) (M := 4000) (loose := L2.MK.W_k07.loose) (d := HandSHeadRun.topDef (OpenLaw.row PySem.Challenge.rw_marktables_k07_union_errors).prog 41) (kwd := []) L2.MK.W_k07.ob_eq
    (by kernel_rfl) (fun s => by kernel_rfl) L2.MK.W_k07.run (by kernel_rfl) (by kernel_rfl) (by kernel_rfl) (by rfl) (by first | assumption | decide +kernel) (by decide +kernel) ⟨rfl, rfl, rfl, rfl, rfl, by decide +kernel⟩ ?hw ?hc
  case hw => w_witness2
  case hc =>
    refine L2.MK.walk_ofG (l := PySem.Challenge.rw_marktables_k07_union_errors) (n := 63) (k := 12) (x := "script") rfl (by decide) (by kernel_rfl) ⟨rfl, by decide, by decide⟩ ?F
    intro w mg fa h Y N hmg0
    obtain ⟨K, KX, c⟩ := Y
    have hmg : mg ("law" : PySem.Str) = some (.ref fa) := by
      have e : (HandSHeadRun.topDef (OpenLaw.row PySem.Challenge.rw_marktables_k07_union_errors).prog 41).name = ("law" : PySem.Str) := by kernel_rfl
      rw [← e]
      exact hmg0
    obtain ⟨fd, g, hb, hlaw, hF⟩ := L2.MK.W_k07.facts (P := (PySem.Challenge.rw_marktables_k07_union_errors).prog) (w := w) KX N hmg c
    exact ⟨K, fd, g, KX, hb, hlaw, hF⟩

end
