import PyProof.Rows.All
import Wide.All
import OpenK.AllK
import Wide.FinOn
import HandS.ForMost
import HandS.ForExc
import HandS.Wide
import HandS.Slots
import HandS.SlotsOwn
import HandS.ClsMeth
import HandS.CallSlots
import HandS.ExcInit
import HandS.IsInst
import HandS.NoneIn
import HandS.Zip
import HandS.Style
import HandS.Property
import KE.KOpsOwn
import HandS.Defaults
import HandS.MakeKw
import HandS.MakeKwOnly
import HandS.TryMany
import HandS.ExcField
import HandS.Base
import HandS.Call
import HandS.List
import HandS.Dict
import HandS.Iter
import KE.GoesZip
import KE.GoesMore
import KE.GoesEnum
import HandS.TupLe
import HandS.DictEq
import KE.KStateDown
import HandS.Ends
import HandS.Head0
import HandS.Head1
import HandS.Head2
import HandS.HeadEnd
import HandS.HeadHook1
import HandS.HeadHook2
import HandS.EndBits
import HandS.Text
import HandS.TupAny
import HandS.Star
import HandS.CallLocal
import HandS.Conv
import PyProof.Rows.SeqMore
import HandS.NamedTupGet
import HandS.Deep
import PyProof.InstNe
import PySem.Challenge.RW_rowpicks_k40_fronts_and_deaths
set_option Elab.async false
set_option linter.all false
set_option maxRecDepth 100000
set_option maxHeartbeats 2000000
set_option autoImplicit false
/-! The data layer: values as trees, worlds, readings by plain functions. -/
namespace DL
open PySem L2

/-- plain data; cell i: a list that may be changed, the i-th of the store -/
inductive D where
  | non | bl (b : Bool) | int (i : Int) | str (x : Str) | ty (n : String) | cls (k : Nat) | cell (i : Nat)
  | lst (ds : List D) | tup (ds : List D) | obj (k : Nat) (ds : List D) | dct (ks : List Key) (ds : List D)
  deriving Inhabited

/-- what a store's cell holds -/
abbrev Store := List (List D)

inductive Res where
  | ok (d : D) (S : Store)
  | exc (k : Nat) (fs : List (Str × D)) (S : Store)
  | bad
inductive ResA where
  | ok (ds : List D) (S : Store)
  | exc (k : Nat) (fs : List (Str × D)) (S : Store)
  | bad
def Res.bind (r : Res) (k : D → Store → Res) : Res := match r with
  | .ok d S => k d S
  | .exc c fs S => .exc c fs S
  | .bad => .bad
def Res.bindA (r : Res) (k : D → Store → ResA) : ResA := match r with
  | .ok d S => k d S
  | .exc c fs S => .exc c fs S
  | .bad => .bad
def ResA.bind (r : ResA) (k : List D → Store → Res) : Res := match r with
  | .ok d S => k d S
  | .exc c fs S => .exc c fs S
  | .bad => .bad
/-- nothing may be raised here -/
def Res.nox (r : Res) : Res := match r with
  | .ok d S => .ok d S
  | _ => .bad

structure Wd where
  F : Hp
  P : Hp
  m : List Addr

/-- what is fixed for a program: its written part, its classes -/
structure Pg where
  K : PySem.W.Frag
  cl : Nat → Addr
  /-- the names of the fields, in order, of a class whose instances have a dict; none: slots -/
  at_ : Nat → Option (List Str)
/-- an instance of the k-th class: vs its fields -/
def ObjAt (Γ : Pg) (F : Hp) (k : Nat) (a dx : Addr) (vs : List V) : Prop := match Γ.at_ k with
  | none => SlX.Slt F a (Γ.cl k) dx (vs.map some)
  | some ns => F a = some (.ins (Γ.cl k) dx (ns.zip vs)) ∧ ns.length = vs.length
theorem ObjAt.mono {Γ : Pg} {F H : Hp} (e : ∀ a o, F a = some o → H a = some o) {k : Nat} {a dx : Addr} {vs : List V} (h : ObjAt Γ F k a dx vs) : ObjAt Γ H k a dx vs := by
  unfold ObjAt at h ⊢
  split at h
  · rcases h with ⟨h, z⟩ | ⟨h, z⟩
    · exact .inl ⟨e _ _ h, z⟩
    · exact .inr ⟨e _ _ h, e _ _ z⟩
  · exact ⟨e _ _ h.1, h.2⟩

section
variable (Γ : Pg)
mutual
def Rep (W : Wd) : D → V → Prop
  | .non, v => v = .non
  | .bl b, v => v = .bl b
  | .int i, v => v = .int i
  | .str x, v => v = .str x
  | .ty n, v => v = .ty n
  | .cls k, v => v = .ref (Γ.cl k)
  | .cell i, v => ∃ a, v = .ref a ∧ W.m[i]? = some a
  | .lst ds, v => ∃ a vs, v = .ref a ∧ SqL Γ.K W.F a vs ∧ Reps W ds vs
  | .tup ds, v => ∃ a vs, v = .ref a ∧ SqT Γ.K W.F a vs ∧ Reps W ds vs
  | .obj k ds, v => ∃ a dx vs, v = .ref a ∧ ObjAt Γ W.F k a dx vs ∧ Reps W ds vs
  | .dct ks ds, v => ∃ a kvs vs, v = .ref a ∧ W.F a = some (.dK kvs) ∧ kvs.map (·.1) = ks ∧ kvs.map (·.2) = vs ∧ Reps W ds vs
def Reps (W : Wd) : List D → List V → Prop
  | [], vs => vs = []
  | d :: ds, vs => ∃ v vs', vs = v :: vs' ∧ Rep W d v ∧ Reps W ds vs'
end
end

/-- the world has grown -/
structure Le (W W' : Wd) : Prop where
  f : ∀ a o, W.F a = some o → W'.F a = some o
  p : W'.P = W.P
  m : ∀ (i : Nat) (a : Addr), W.m[i]? = some a → W'.m[i]? = some a
theorem Le.refl (W : Wd) : Le W W := ⟨fun _ _ h => h, rfl, fun _ _ h => h⟩
theorem Le.trans {W W1 W2 : Wd} (a : Le W W1) (b : Le W1 W2) : Le W W2 := ⟨fun x o h => b.f x o (a.f x o h), b.p.trans a.p, fun i x h => b.m i x (a.m i x h)⟩
/-- the world has grown, but for what belongs to a frame -/
structure LeS (W W' : Wd) : Prop where
  f : ∀ a o, W.F a = some o → W'.F a = some o
  m : ∀ (i : Nat) (a : Addr), W.m[i]? = some a → W'.m[i]? = some a
theorem LeS.refl (W : Wd) : LeS W W := ⟨fun _ _ h => h, fun _ _ h => h⟩
theorem LeS.trans {W W1 W2 : Wd} (a : LeS W W1) (b : LeS W1 W2) : LeS W W2 := ⟨fun x o h => b.f x o (a.f x o h), fun i x h => b.m i x (a.m i x h)⟩
theorem Le.s {W W' : Wd} (a : Le W W') : LeS W W' := ⟨a.f, a.m⟩

theorem rd_le {W W' : Wd} (e : LeS W W') {a : Addr} {u : HO} (h : Rd W.F a u) : Rd W'.F a u := by
  rcases h with h | ⟨o, h⟩
  · exact .inl (e.f _ _ h)
  · exact .inr ⟨o, e.f _ _ h⟩
theorem sqL_le {K : PySem.W.Frag} {W W' : Wd} (e : LeS W W') {a : Addr} {vs : List V} (h : SqL K W.F a vs) : SqL K W'.F a vs := by
  rcases h with h | h
  · exact .inl (rd_le e h)
  · exact .inr h
theorem sqT_le {K : PySem.W.Frag} {W W' : Wd} (e : LeS W W') {a : Addr} {vs : List V} (h : SqT K W.F a vs) : SqT K W'.F a vs := by
  rcases h with h | h
  · exact .inl (rd_le e h)
  · exact .inr h
theorem slt_le {W W' : Wd} (e : LeS W W') {a C dx : Addr} {vs : List (Option V)} (h : SlX.Slt W.F a C dx vs) : SlX.Slt W'.F a C dx vs := by
  rcases h with ⟨h, z⟩ | ⟨h, z⟩
  · exact .inl ⟨e.f _ _ h, z⟩
  · exact .inr ⟨e.f _ _ h, e.f _ _ z⟩
section
variable {Γ : Pg}
mutual
theorem Rep.mono {W W' : Wd} (e : LeS W W') : ∀ {d : D} {v : V}, Rep Γ W d v → Rep Γ W' d v
  | .non, v, h => by simpa only [Rep] using h
  | .bl b, v, h => by simpa only [Rep] using h
  | .int i, v, h => by simpa only [Rep] using h
  | .str x, v, h => by simpa only [Rep] using h
  | .ty n, v, h => by simpa only [Rep] using h
  | .cls k, v, h => by simpa only [Rep] using h
  | .cell i, v, h => by
    simp only [Rep] at h ⊢
    obtain ⟨a, h1, h2⟩ := h
    exact ⟨a, h1, e.m _ _ h2⟩
  | .lst ds, v, h => by
    simp only [Rep] at h ⊢
    obtain ⟨a, vs, h1, h2, h3⟩ := h
    exact ⟨a, vs, h1, sqL_le e h2, Reps.mono e h3⟩
  | .tup ds, v, h => by
    simp only [Rep] at h ⊢
    obtain ⟨a, vs, h1, h2, h3⟩ := h
    exact ⟨a, vs, h1, sqT_le e h2, Reps.mono e h3⟩
  | .obj k ds, v, h => by
    simp only [Rep] at h ⊢
    obtain ⟨a, dx, vs, h1, h2, h3⟩ := h
    exact ⟨a, dx, vs, h1, h2.mono e.f, Reps.mono e h3⟩
  | .dct ks ds, v, h => by
    simp only [Rep] at h ⊢
    obtain ⟨a, kvs, vs, h1, h2, h3, h4, h5⟩ := h
    exact ⟨a, kvs, vs, h1, e.f _ _ h2, h3, h4, Reps.mono e h5⟩
theorem Reps.mono {W W' : Wd} (e : LeS W W') : ∀ {ds : List D} {vs : List V}, Reps Γ W ds vs → Reps Γ W' ds vs
  | [], vs, h => by simpa only [Reps] using h
  | d :: ds, vs, h => by
    simp only [Reps] at h ⊢
    obtain ⟨v, vs', h1, h2, h3⟩ := h
    exact ⟨v, vs', h1, Rep.mono e h2, Reps.mono e h3⟩
end
theorem Reps.length {W : Wd} : ∀ {ds : List D} {vs : List V}, Reps Γ W ds vs → vs.length = ds.length
  | [], vs, h => by simp only [Reps] at h; subst h; rfl
  | d :: ds, vs, h => by
    simp only [Reps] at h
    obtain ⟨v, vs', rfl, _, h3⟩ := h
    simp [Reps.length h3]
theorem Reps.nil {W : Wd} : Reps Γ W [] [] := by simp only [Reps]
theorem Reps.cons {W : Wd} {d : D} {ds : List D} {v : V} {vs : List V} (h : Rep Γ W d v) (t : Reps Γ W ds vs) : Reps Γ W (d :: ds) (v :: vs) := by
  simp only [Reps]; exact ⟨v, vs, rfl, h, t⟩
theorem Reps.append {W : Wd} : ∀ {ds es : List D} {vs us : List V}, Reps Γ W ds vs → Reps Γ W es us → Reps Γ W (ds ++ es) (vs ++ us)
  | [], es, vs, us, h, h2 => by simp only [Reps] at h; subst h; exact h2
  | d :: ds, es, vs, us, h, h2 => by
    simp only [Reps] at h
    obtain ⟨v, vs', rfl, h1, h3⟩ := h
    exact Reps.cons h1 (Reps.append h3 h2)
theorem Reps.get {W : Wd} : ∀ {ds : List D} {vs : List V} {i : Nat} {d : D}, Reps Γ W ds vs → ds[i]? = some d → ∃ v, vs[i]? = some v ∧ Rep Γ W d v
  | [], _, _, _, _, h => by simp at h
  | d0 :: ds, vs, i, d, h, hi => by
    simp only [Reps] at h
    obtain ⟨v, vs', rfl, h1, h3⟩ := h
    cases i with
    | zero => simp at hi; subst hi; exact ⟨v, rfl, h1⟩
    | succ i => simpa using Reps.get h3 (by simpa using hi)
end

/-! ### the store and the heap -/
section
variable (Γ : Pg)
def CellOk (W : Wd) (ds : List D) (a : Addr) (H : Hp) : Prop := ∃ vs, H a = some (.lst vs) ∧ Reps Γ W ds vs
structure Ok (W : Wd) (S : Store) (H : Hp) : Prop where
  f : ∀ a o, W.F a = some o → H a = some o
  p : ∀ a o, W.P a = some o → H a = some o ∧ W.F a = none
  m : ∀ (i : Nat) (a : Addr), W.m[i]? = some a → W.F a = none ∧ W.P a = none
  nd : W.m.Nodup
  len : W.m.length = S.length
  c : ∀ (i : Nat) (a : Addr) (ds : List D), W.m[i]? = some a → S[i]? = some ds → CellOk Γ W ds a H
end

/-- a slot: nothing, a value, a list of the frame's own that is being built, the exception that a suite holds -/
inductive SD where
  | no | val (d : D) | acc (ds : List D) | exn (k : Nat) (fs : List (Str × D)) | slf
  deriving Inhabited
/-- the exception that a suite holds: where it stands, its class, its own dict -/
structure Xx where
  a : Addr
  c : Value
  d : Option Addr
section
variable {Γ : Pg}
def RepX (W : Wd) (fs : List (Str × D)) (d : Option Addr) : Prop := fs = [] ∨ ∃ dx vfs, d = some dx ∧ W.F dx = some (.xd vfs) ∧ vfs.map (·.1) = fs.map (·.1) ∧ Reps Γ W (fs.map (·.2)) (vfs.map (·.2))
end
section
variable (Γ : Pg) (ξ : Xx)
def SlotsR (W : Wd) : List SD → L2.St → List (Addr × HO) → Prop
  | [], σ, own => σ = [] ∧ own = []
  | .no :: es, σ, own => ∃ o σ', σ = o :: σ' ∧ SlotsR W es σ' own
  | .val d :: es, σ, own => ∃ v σ', σ = some v :: σ' ∧ Rep Γ W d v ∧ SlotsR W es σ' own
  | .acc ds :: es, σ, own => ∃ a vs σ' own', σ = some (.ref a) :: σ' ∧ own = (a, .lst vs) :: own' ∧ Reps Γ W ds vs ∧ SlotsR W es σ' own'
  | .exn k fs :: es, σ, own => ∃ σ', σ = some (.ref ξ.a) :: σ' ∧ ξ.c = .ref (Γ.cl k) ∧ RepX (Γ := Γ) W fs ξ.d ∧ SlotsR W es σ' own
  | .slf :: es, σ, own => ∃ σ', σ = some (.ref ξ.a) :: σ' ∧ SlotsR W es σ' own
structure OwnP (W : Wd) (own : List (Addr × HO)) (P0 : Hp) : Prop where
  nd : (own.map (·.1)).Nodup
  at_ : ∀ p ∈ own, P0 p.1 = none ∧ W.P p.1 = some p.2
  rest : ∀ a, a ∉ own.map (·.1) → W.P a = P0 a
def Frame (W : Wd) (es : List SD) (σ : L2.St) (P0 : Hp) : Prop := ∃ own, SlotsR Γ ξ W es σ own ∧ OwnP W own P0
end
section
variable {Γ : Pg} {ξ : Xx}
theorem repX_le {W W' : Wd} {fs : List (Str × D)} {d : Option Addr} (h : RepX (Γ := Γ) W fs d) (e : LeS W W') : RepX (Γ := Γ) W' fs d := by
  rcases h with h | ⟨dx, vfs, h1, h2, h3, h4⟩
  · exact .inl h
  · exact .inr ⟨dx, vfs, h1, e.f _ _ h2, h3, h4.mono e⟩
theorem SlotsR.mono {W W' : Wd} (e : LeS W W') : ∀ {es : List SD} {σ : L2.St} {own : List (Addr × HO)}, SlotsR Γ ξ W es σ own → SlotsR Γ ξ W' es σ own
  | [], σ, own, h => h
  | .no :: es, σ, own, h => by
    obtain ⟨o, σ', h1, h2⟩ := h
    exact ⟨o, σ', h1, SlotsR.mono e h2⟩
  | .val d :: es, σ, own, h => by
    obtain ⟨v, σ', h1, h2, h3⟩ := h
    exact ⟨v, σ', h1, h2.mono e, SlotsR.mono e h3⟩
  | .acc ds :: es, σ, own, h => by
    obtain ⟨a, vs, σ', own', h1, h2, h3, h4⟩ := h
    exact ⟨a, vs, σ', own', h1, h2, h3.mono e, SlotsR.mono e h4⟩
  | .exn k fs :: es, σ, own, h => by
    obtain ⟨σ', h1, h2, h3, h4⟩ := h
    exact ⟨σ', h1, h2, repX_le h3 e, SlotsR.mono e h4⟩
  | .slf :: es, σ, own, h => by
    obtain ⟨σ', h1, h4⟩ := h
    exact ⟨σ', h1, SlotsR.mono e h4⟩
theorem Frame.le {W W' : Wd} {es : List SD} {σ : L2.St} {P0 : Hp} (h : Frame Γ ξ W es σ P0) (e : Le W W') : Frame Γ ξ W' es σ P0 := by
  obtain ⟨own, h1, h2⟩ := h
  exact ⟨own, h1.mono e.s, h2.nd, fun p hp => by rw [e.p]; exact h2.at_ p hp, fun a ha => by rw [e.p]; exact h2.rest a ha⟩
theorem SlotsR.length {W : Wd} : ∀ {es : List SD} {σ : L2.St} {own : List (Addr × HO)}, SlotsR Γ ξ W es σ own → σ.length = es.length
  | [], σ, own, h => by rw [h.1]; rfl
  | .no :: es, σ, own, h => by
    obtain ⟨o, σ', rfl, h2⟩ := h
    simp [SlotsR.length h2]
  | .val d :: es, σ, own, h => by
    obtain ⟨v, σ', rfl, h2, h3⟩ := h
    simp [SlotsR.length h3]
  | .acc ds :: es, σ, own, h => by
    obtain ⟨a, vs, σ', own', rfl, h2, h3, h4⟩ := h
    simp [SlotsR.length h4]
  | .exn k fs :: es, σ, own, h => by
    obtain ⟨σ', rfl, h2, h3, h4⟩ := h
    simp [SlotsR.length h4]
  | .slf :: es, σ, own, h => by
    obtain ⟨σ', rfl, h4⟩ := h
    simp [SlotsR.length h4]
theorem SlotsR.val {W : Wd} : ∀ {es : List SD} {σ : L2.St} {own : List (Addr × HO)} {i : Nat} {d : D}, SlotsR Γ ξ W es σ own → es[i]? = some (.val d) → ∃ v, σ[i]? = some (some v) ∧ Rep Γ W d v
  | [], σ, own, i, d, h, hi => by simp at hi
  | .no :: es, σ, own, i, d, h, hi => by
    obtain ⟨o, σ', rfl, h2⟩ := h
    cases i with
    | zero => simp at hi
    | succ i => simpa using SlotsR.val h2 (by simpa using hi)
  | .val d0 :: es, σ, own, i, d, h, hi => by
    obtain ⟨v, σ', rfl, h2, h3⟩ := h
    cases i with
    | zero => simp at hi; subst hi; exact ⟨v, rfl, h2⟩
    | succ i => simpa using SlotsR.val h3 (by simpa using hi)
  | .acc ds :: es, σ, own, i, d, h, hi => by
    obtain ⟨a, vs, σ', own', rfl, h2, h3, h4⟩ := h
    cases i with
    | zero => simp at hi
    | succ i => simpa using SlotsR.val h4 (by simpa using hi)
  | .exn k fs :: es, σ, own, i, d, h, hi => by
    obtain ⟨σ', rfl, h2, h3, h4⟩ := h
    cases i with
    | zero => simp at hi
    | succ i => simpa using SlotsR.val h4 (by simpa using hi)
  | .slf :: es, σ, own, i, d, h, hi => by
    obtain ⟨σ', rfl, h4⟩ := h
    cases i with
    | zero => simp at hi
    | succ i => simpa using SlotsR.val h4 (by simpa using hi)
theorem SlotsR.acc {W : Wd} : ∀ {es : List SD} {σ : L2.St} {own : List (Addr × HO)} {i : Nat} {ds : List D}, SlotsR Γ ξ W es σ own → es[i]? = some (.acc ds) → ∃ a vs, σ[i]? = some (some (.ref a)) ∧ Reps Γ W ds vs ∧ (a, HO.lst vs) ∈ own
  | [], σ, own, i, d, h, hi => by simp at hi
  | .no :: es, σ, own, i, d, h, hi => by
    obtain ⟨o, σ', rfl, h2⟩ := h
    cases i with
    | zero => simp at hi
    | succ i => simpa using SlotsR.acc h2 (by simpa using hi)
  | .val d0 :: es, σ, own, i, d, h, hi => by
    obtain ⟨v, σ', rfl, h2, h3⟩ := h
    cases i with
    | zero => simp at hi
    | succ i => simpa using SlotsR.acc h3 (by simpa using hi)
  | .acc ds :: es, σ, own, i, d, h, hi => by
    obtain ⟨a, vs, σ', own', rfl, rfl, h3, h4⟩ := h
    cases i with
    | zero => simp at hi; subst hi; exact ⟨a, vs, rfl, h3, List.mem_cons_self⟩
    | succ i =>
      obtain ⟨a', vs', h5, h6, h7⟩ := SlotsR.acc h4 (by simpa using hi)
      exact ⟨a', vs', by simpa using h5, h6, List.mem_cons_of_mem _ h7⟩
  | .exn k fs :: es, σ, own, i, d, h, hi => by
    obtain ⟨σ', rfl, h2, h3, h4⟩ := h
    cases i with
    | zero => simp at hi
    | succ i => simpa using SlotsR.acc h4 (by simpa using hi)
  | .slf :: es, σ, own, i, d, h, hi => by
    obtain ⟨σ', rfl, h4⟩ := h
    cases i with
    | zero => simp at hi
    | succ i => simpa using SlotsR.acc h4 (by simpa using hi)
theorem SlotsR.exn {W : Wd} : ∀ {es : List SD} {σ : L2.St} {own : List (Addr × HO)} {i k : Nat} {fs : List (Str × D)}, SlotsR Γ ξ W es σ own → es[i]? = some (.exn k fs) → σ[i]? = some (some (.ref ξ.a)) ∧ ξ.c = .ref (Γ.cl k) ∧ RepX (Γ := Γ) W fs ξ.d
  | [], σ, own, i, _, _, h, hi => by simp at hi
  | .no :: es, σ, own, i, _, _, h, hi => by
    obtain ⟨o, σ', rfl, h2⟩ := h
    cases i with
    | zero => simp at hi
    | succ i => simpa using SlotsR.exn h2 (by simpa using hi)
  | .val d0 :: es, σ, own, i, _, _, h, hi => by
    obtain ⟨v, σ', rfl, h2, h3⟩ := h
    cases i with
    | zero => simp at hi
    | succ i => simpa using SlotsR.exn h3 (by simpa using hi)
  | .acc ds :: es, σ, own, i, _, _, h, hi => by
    obtain ⟨a, vs, σ', own', rfl, rfl, h3, h4⟩ := h
    cases i with
    | zero => simp at hi
    | succ i => simpa using SlotsR.exn h4 (by simpa using hi)
  | .exn k0 fs0 :: es, σ, own, i, k, fs, h, hi => by
    obtain ⟨σ', rfl, h2, h3, h4⟩ := h
    cases i with
    | zero => simp at hi; obtain ⟨rfl, rfl⟩ := hi; exact ⟨rfl, h2, h3⟩
    | succ i => simpa using SlotsR.exn h4 (by simpa using hi)
  | .slf :: es, σ, own, i, _, _, h, hi => by
    obtain ⟨σ', rfl, h4⟩ := h
    cases i with
    | zero => simp at hi
    | succ i => simpa using SlotsR.exn h4 (by simpa using hi)
theorem SlotsR.slf {W : Wd} : ∀ {es : List SD} {σ : L2.St} {own : List (Addr × HO)} {i : Nat}, SlotsR Γ ξ W es σ own → es[i]? = some .slf → σ[i]? = some (some (.ref ξ.a))
  | [], σ, own, i, h, hi => by simp at hi
  | .no :: es, σ, own, i, h, hi => by
    obtain ⟨o, σ', rfl, h2⟩ := h
    cases i with
    | zero => simp at hi
    | succ i => simpa using SlotsR.slf h2 (by simpa using hi)
  | .val d0 :: es, σ, own, i, h, hi => by
    obtain ⟨v, σ', rfl, h2, h3⟩ := h
    cases i with
    | zero => simp at hi
    | succ i => simpa using SlotsR.slf h3 (by simpa using hi)
  | .acc ds :: es, σ, own, i, h, hi => by
    obtain ⟨a, vs, σ', own', rfl, rfl, h3, h4⟩ := h
    cases i with
    | zero => simp at hi
    | succ i => simpa using SlotsR.slf h4 (by simpa using hi)
  | .exn k0 fs0 :: es, σ, own, i, h, hi => by
    obtain ⟨σ', rfl, h2, h3, h4⟩ := h
    cases i with
    | zero => simp at hi
    | succ i => simpa using SlotsR.slf h4 (by simpa using hi)
  | .slf :: es, σ, own, i, h, hi => by
    obtain ⟨σ', rfl, h4⟩ := h
    cases i with
    | zero => rfl
    | succ i => simpa using SlotsR.slf h4 (by simpa using hi)

/-! ### what follows a result -/
def Cont (Γ : Pg) (r : Res) (W : Wd) (Q : VK) (E : XK) : Prop := match r with
  | .ok d S => ∀ W' v H', Le W W' → Ok Γ W' S H' → Rep Γ W' d v → Q v H'
  | .exc k fs S => ∀ W' d H', Le W W' → Ok Γ W' S H' → RepX (Γ := Γ) W' fs d → E (.ref (Γ.cl k)) d H'
  | .bad => False
def ContA (Γ : Pg) (r : ResA) (W : Wd) (Q : List V → Hp → Prop) (E : XK) : Prop := match r with
  | .ok ds S => ∀ W' vs H', Le W W' → Ok Γ W' S H' → Reps Γ W' ds vs → Q vs H'
  | .exc k fs S => ∀ W' d H', Le W W' → Ok Γ W' S H' → RepX (Γ := Γ) W' fs d → E (.ref (Γ.cl k)) d H'
  | .bad => False
theorem Cont.le {r : Res} {W W' : Wd} {Q : VK} {E : XK} (h : Cont Γ r W Q E) (e : Le W W') : Cont Γ r W' Q E := by
  cases r with
  | ok d S => exact fun W2 v H2 l => h W2 v H2 (e.trans l)
  | exc k fs S => exact fun W2 v H2 l => h W2 v H2 (e.trans l)
  | bad => exact h
theorem ContA.le {r : ResA} {W W' : Wd} {Q : List V → Hp → Prop} {E : XK} (h : ContA Γ r W Q E) (e : Le W W') : ContA Γ r W' Q E := by
  cases r with
  | ok d S => exact fun W2 v H2 l => h W2 v H2 (e.trans l)
  | exc k fs S => exact fun W2 v H2 l => h W2 v H2 (e.trans l)
  | bad => exact h
theorem Cont.bind {r : Res} {k : D → Store → Res} {W : Wd} {Q Q1 : VK} {E : XK} (h : Cont Γ (r.bind k) W Q E)
    (q : ∀ d S1 W1 v H1, Le W W1 → Ok Γ W1 S1 H1 → Rep Γ W1 d v → Cont Γ (k d S1) W1 Q E → Q1 v H1) : Cont Γ r W Q1 E := by
  cases r with
  | ok d S => exact fun W1 v H1 l o r => q d S W1 v H1 l o r (Cont.le h l)
  | exc c fs S => exact h
  | bad => exact h
theorem Cont.bindA {r : Res} {k : D → Store → ResA} {W : Wd} {Q : List V → Hp → Prop} {Q1 : VK} {E : XK} (h : ContA Γ (r.bindA k) W Q E)
    (q : ∀ d S1 W1 v H1, Le W W1 → Ok Γ W1 S1 H1 → Rep Γ W1 d v → ContA Γ (k d S1) W1 Q E → Q1 v H1) : Cont Γ r W Q1 E := by
  cases r with
  | ok d S => exact fun W1 v H1 l o r => q d S W1 v H1 l o r (ContA.le h l)
  | exc c fs S => exact h
  | bad => exact h
theorem ContA.bind {r : ResA} {k : List D → Store → Res} {W : Wd} {Q : VK} {Q1 : List V → Hp → Prop} {E : XK} (h : Cont Γ (r.bind k) W Q E)
    (q : ∀ ds S1 W1 vs H1, Le W W1 → Ok Γ W1 S1 H1 → Reps Γ W1 ds vs → Cont Γ (k ds S1) W1 Q E → Q1 vs H1) : ContA Γ r W Q1 E := by
  cases r with
  | ok d S => exact fun W1 v H1 l o r => q d S W1 v H1 l o r (Cont.le h l)
  | exc c fs S => exact h
  | bad => exact h
theorem Cont.nox {r : Res} {W : Wd} {Q : VK} {E E' : XK} (h : Cont Γ r.nox W Q E) : Cont Γ r W Q E' := by
  cases r with
  | ok d S => exact h
  | exc c fs S => exact h.elim
  | bad => exact h
theorem Cont.imp {r : Res} {W : Wd} {Q Q' : VK} {E : XK} (h : Cont Γ r W Q E) (q : ∀ v H, Q v H → Q' v H) : Cont Γ r W Q' E := by
  cases r with
  | ok d S => exact fun W1 v H1 l o r => q _ _ (h W1 v H1 l o r)
  | exc c fs S => exact h
  | bad => exact h

/-! ### readings -/
abbrev EF := List SD → Store → Res
abbrev AF := List SD → Store → ResA
/-- an exception's wish by slots -/
abbrev WX := Value → Option Addr → L2.St → Hp → Prop
def at_ (E : WX) (σ : L2.St) : XK := fun c d H => E c d σ H
def dE (Γ : Pg) (ξ : Xx) (f : EF) (E : WX) : TE := fun σ H Q => ∃ W es S P0, Ok Γ W S H ∧ Frame Γ ξ W es σ P0 ∧ Cont Γ (f es S) W Q (at_ E σ)
def dA (Γ : Pg) (ξ : Xx) (f : AF) (E : WX) : TA := fun σ H Q => ∃ W es S P0, Ok Γ W S H ∧ Frame Γ ξ W es σ P0 ∧ ContA Γ (f es S) W Q (at_ E σ)
theorem _root_.L2.PE.imp {X : Cx} {e : Expr} {t t' : TE} (h : PE X e t) (q : ∀ σ H Q, t' σ H Q → t σ H Q) : PE X e t' := ⟨fun pins s σ H Q I z => h.run pins s σ H Q I (q σ H Q z)⟩
theorem _root_.L2.PA.imp {X : Cx} {es : List Expr} {t t' : TA} (h : PA X es t) (q : ∀ σ H Q, t' σ H Q → t σ H Q) : PA X es t' := ⟨fun p pins s σ H Q I z => h.run p pins s σ H Q I (q σ H Q z)⟩
theorem _root_.L2.PT.imp {X : Cx} {e : Expr} {t t' : TT} (h : PT X e t) (q : ∀ σ H Q, t' σ H Q → t σ H Q) : PT X e t' := ⟨fun pins s σ H Q I z => h.run pins s σ H Q I (q σ H Q z)⟩
theorem _root_.L2.PS.imp {X : Cx} {e : Stmt} {t t' : TS} (h : PS X e t) (q : ∀ D σ H, t' D σ H → t D σ H) : PS X e t' := ⟨fun pins s σ H D I z => h.run pins s σ H D I (q D σ H z)⟩
theorem _root_.L2.PSs.imp {X : Cx} {e : List Stmt} {t t' : TS} (h : PSs X e t) (q : ∀ D σ H, t' D σ H → t D σ H) : PSs X e t' := ⟨fun pins s σ H D I z => h.run pins s σ H D I (q D σ H z)⟩

/-! ### names, constants -/
def eVar (i : Nat) : EF := fun es S => match es[i]? with
  | some (.val d) => .ok d S
  | _ => .bad
def eC (d : D) : EF := fun _ S => .ok d S
section
variable {X : Cx} {E : WX}
theorem de_var (i : Nat) {x : Str} {pos : Pos} (hN : X.N[i]? = some x := by rfl) (hv : Vis X.env.scope x := by first | exact Or.inl rfl | exact Or.inr (Or.inl rfl) | exact Or.inr (Or.inr rfl)) (hd : (x == ("__debug__" : Str)) = false := by decide)
    (hcd : (x == ("__classdict__" : Str)) = false := by decide) : PE X (.Name x pos) (dE Γ ξ (eVar i) E) := (pe_var hN hv hd hcd).imp fun σ H Q ⟨W, es, S, P0, ok, ⟨own, fr, _⟩, h⟩ => by
  unfold eVar at h
  cases hi : es[i]? with
  | none => rw [hi] at h; exact h.elim
  | some sd =>
    rw [hi] at h
    cases sd with
    | no => exact h.elim
    | acc ds => exact h.elim
    | exn k fs => exact h.elim
    | slf => exact h.elim
    | val d =>
      obtain ⟨v, h1, h2⟩ := fr.val hi
      exact ⟨v, h1, h W v H (Le.refl W) ok h2⟩
theorem de_c {e : Expr} {d : D} {v : V} (h : PE X e (tC v)) (r : ∀ W, Rep Γ W d v) : PE X e (dE Γ ξ (eC d) E) := h.imp fun σ H Q ⟨W, es, S, P0, ok, fr, h⟩ => h W v H (Le.refl W) ok (r W)
theorem de_int {i j pos} : PE X (.Constant (.int i) j pos) (dE Γ ξ (eC (.int i)) E) := de_c pe_int fun W => by simp only [Rep]
theorem de_bl {b j pos} : PE X (.Constant (.bool b) j pos) (dE Γ ξ (eC (.bl b)) E) := de_c pe_bl fun W => by simp only [Rep]
theorem de_non {j pos} : PE X (.Constant .none j pos) (dE Γ ξ (eC .non) E) := de_c pe_non fun W => by simp only [Rep]
theorem de_str {x j pos} : PE X (.Constant (.str x) j pos) (dE Γ ξ (eC (.str x)) E) := de_c pe_str fun W => by simp only [Rep]

/-! ### operations of two values -/
def eOp2 (g : D → D → Store → Res) (a b : EF) : EF := fun es S => (a es S).bind fun x S1 => (b es S1).bind fun y S2 => (g x y S2).nox
def rD (Γ : Pg) (g : D → D → Store → Res) : R2 := fun x y H Q => ∃ W S a b, Ok Γ W S H ∧ Rep Γ W a x ∧ Rep Γ W b y ∧ Cont Γ (g a b S) W Q (fun _ _ _ => False)
theorem tOp_of {g : D → D → Store → Res} {fa fb : EF} {σ : L2.St} {H : Hp} {Q : VK} (h : dE Γ ξ (eOp2 g fa fb) E σ H Q) : tOp (rD Γ g) (dE Γ ξ fa E) (dE Γ ξ fb E) σ H Q := by
  obtain ⟨W, es, S, P0, ok, fr, h⟩ := h
  refine ⟨W, es, S, P0, ok, fr, h.bind fun d S1 W1 v H1 le ok1 rv h1 => ?_⟩
  refine ⟨W1, es, S1, P0, ok1, fr.le le, h1.bind fun d2 S2 W2 v2 H2 le2 ok2 rv2 h2 => ?_⟩
  exact ⟨W2, S2, d, d2, ok2, rv.mono le2.s, rv2, h2.nox⟩
theorem de_op {op : Operator} {a b : Expr} {fa fb : EF} {g : D → D → Store → Res} {pos : Pos} (ho : OpR X (binaryOp op) (rD Γ g)) (ha : PE X a (dE Γ ξ fa E)) (hb : PE X b (dE Γ ξ fb E)) : PE X (.BinOp a op b pos) (dE Γ ξ (eOp2 g fa fb) E) :=
  (pe_op ho ha hb).imp fun σ H Q h => tOp_of h
theorem de_cmp {op : CmpOp} {a b : Expr} {fa fb : EF} {g : D → D → Store → Res} {pos : Pos} (ho : OpR X (compareOp op) (rD Γ g)) (ha : PE X a (dE Γ ξ fa E)) (hb : PE X b (dE Γ ξ fb E)) (hm : behindInMarks op b = false := by rfl) : PE X (.Compare a [op] [b] pos) (dE Γ ξ (eOp2 g fa fb) E) :=
  (pe_cmpR ho ha hb hm).imp fun σ H Q h => tOp_of h
/-- what is laid of an operation on the values, without a change of the heap -/
def gI (f : Int → Int → D) (C : Int → Int → Bool) : D → D → Store → Res := fun x y S => match x, y with
  | .int i, .int j => if C i j then .ok (f i j) S else .bad
  | _, _ => .bad
theorem op_gI {F : Value → Value → Sem Value} {r : R2} (ho : OpR X F r) {f : Int → Int → D} {C : Int → Int → Bool} {fv : Int → Int → V} (hr : ∀ i j H (Q : VK), C i j = true → Q (fv i j) H → r (.int i) (.int j) H Q) (hv : ∀ W i j, Rep Γ W (f i j) (fv i j)) : OpR X F (rD Γ (gI f C)) := by
  intro pins s σ H x y v u Q I rx ry ⟨W, S, a, b, ok, ra, rb, h⟩
  unfold gI at h
  split at h
  · rename_i i j
    simp only [Rep] at ra rb
    subst ra rb
    split at h
    · rename_i hc
      exact ho pins s σ H _ _ v u Q I rx ry (hr i j H Q hc (h W _ H (Le.refl W) ok (hv W i j)))
    · exact h.elim
  · exact h.elim
end
end
end DL
set_option Elab.async false
set_option linter.all false
set_option maxRecDepth 100000
set_option maxHeartbeats 2000000
set_option autoImplicit false
/-! The data layer, 2: operators, tests, calls, displays. -/
namespace DL
open PySem L2

/-! ### a further way for what is bad -/
def gOr (g1 g2 : D → D → Store → Res) : D → D → Store → Res := fun x y S => match g1 x y S with
  | .bad => g2 x y S
  | r => r
section
variable {Γ : Pg} {ξ : Xx} {X : Cx} {E : WX}
theorem op_or {F : Value → Value → Sem Value} {g1 g2 : D → D → Store → Res} (h1 : OpR X F (rD Γ g1)) (h2 : OpR X F (rD Γ g2)) : OpR X F (rD Γ (gOr g1 g2)) := by
  intro pins s σ H x y v u Q I rx ry ⟨W, S, a, b, ok, ra, rb, h⟩
  unfold gOr at h
  cases e : g1 a b S with
  | bad =>
    rw [e] at h
    exact h2 pins s σ H x y v u Q I rx ry ⟨W, S, a, b, ok, ra, rb, h⟩
  | ok d S' =>
    rw [e] at h
    exact h1 pins s σ H x y v u Q I rx ry ⟨W, S, a, b, ok, ra, rb, by rw [e]; exact h⟩
  | exc k fs S' =>
    rw [e] at h
    exact h1 pins s σ H x y v u Q I rx ry ⟨W, S, a, b, ok, ra, rb, by rw [e]; exact h⟩

/-! ### ints -/
def yes2 : Int → Int → Bool := fun _ _ => true
def bits (i : Int) : Nat := i.natAbs.log2
def iAdd : D → D → Store → Res := gI (fun i j => .int (i + j)) yes2
def iSub : D → D → Store → Res := gI (fun i j => .int (i - j)) yes2
def iMul : D → D → Store → Res := gI (fun i j => .int (i * j)) fun i j => decide (bits i + bits j < 1000000)
def iDiv : D → D → Store → Res := gI (fun i j => .int (i / j)) fun _ j => decide (0 < j) && decide (bits j < 9000)
def iMod : D → D → Store → Res := gI (fun i j => .int (i % j)) fun _ j => decide (0 < j)
def iPow : D → D → Store → Res := gI (fun i j => .int (i ^ j.toNat)) fun i j => decide (0 ≤ j) && decide (j ≤ 1000000) && decide (i.natAbs < 2 ^ 64)
def iLt : D → D → Store → Res := gI (fun i j => .bl (decide (i < j))) yes2
def iLe : D → D → Store → Res := gI (fun i j => .bl (decide (i ≤ j))) yes2
def iGt : D → D → Store → Res := gI (fun i j => .bl (decide (j < i))) yes2
def iGe : D → D → Store → Res := gI (fun i j => .bl (decide (j ≤ i))) yes2
theorem op_iAdd : OpR X (binaryOp .Add) (rD Γ iAdd) := op_gI op_add (fun i j H Q _ q => ⟨i, j, rfl, rfl, q⟩) fun W i j => by simp only [Rep]
theorem op_iSub : OpR X (binaryOp .Sub) (rD Γ iSub) := op_gI op_sub (fun i j H Q _ q => ⟨i, j, rfl, rfl, q⟩) fun W i j => by simp only [Rep]
theorem op_iMul : OpR X (binaryOp .Mult) (rD Γ iMul) := op_gI op_mulW (fun i j H Q c q => ⟨i, j, rfl, rfl, (of_decide_eq_true c : bits i + bits j < 1000000), q⟩) fun W i j => by simp only [Rep]
theorem op_iDiv : OpR X (binaryOp .FloorDiv) (rD Γ iDiv) := op_gI op_fdivW (fun i j H Q c q => ⟨i, j, rfl, rfl, ⟨of_decide_eq_true (Bool.and_eq_true_iff.mp c).1, of_decide_eq_true (Bool.and_eq_true_iff.mp c).2⟩, q⟩) fun W i j => by simp only [Rep]
theorem op_iMod : OpR X (binaryOp .Mod) (rD Γ iMod) := op_gI op_mod (fun i j H Q c q => ⟨i, j, rfl, rfl, of_decide_eq_true c, q⟩) fun W i j => by simp only [Rep]
theorem op_iPow : OpR X (binaryOp .Pow) (rD Γ iPow) := op_gI op_pow (fun i j H Q c q => ⟨i, j, rfl, rfl, ⟨of_decide_eq_true (Bool.and_eq_true_iff.mp (Bool.and_eq_true_iff.mp c).1).1, of_decide_eq_true (Bool.and_eq_true_iff.mp (Bool.and_eq_true_iff.mp c).1).2, of_decide_eq_true (Bool.and_eq_true_iff.mp c).2⟩, q⟩) fun W i j => by simp only [Rep]
theorem op_iLt : OpR X (compareOp .Lt) (rD Γ iLt) := op_gI op_lt (fun i j H Q _ q => ⟨i, j, rfl, rfl, q⟩) fun W i j => by simp only [Rep]
theorem op_iLe : OpR X (compareOp .LtE) (rD Γ iLe) := op_gI op_le (fun i j H Q _ q => ⟨i, j, rfl, rfl, q⟩) fun W i j => by simp only [Rep]
theorem op_iGt : OpR X (compareOp .Gt) (rD Γ iGt) := op_gI op_gt (fun i j H Q _ q => ⟨i, j, rfl, rfl, q⟩) fun W i j => by simp only [Rep]
theorem op_iGe : OpR X (compareOp .GtE) (rD Γ iGe) := op_gI op_ge (fun i j H Q _ q => ⟨i, j, rfl, rfl, q⟩) fun W i j => by simp only [Rep]

/-! ### == and != of nested data without objects -/
mutual
def toP : D → Option PyData
  | .non => some .none
  | .bl b => some (.bool b)
  | .int i => some (.int i)
  | .str x => some (.str x)
  | .lst ds => (toPs ds).map .list
  | .tup ds => (toPs ds).map .tuple
  | .ty _ => none
  | .cls _ => none
  | .cell _ => none
  | .obj _ _ => none
  | .dct _ _ => none
def toPs : List D → Option (List PyData)
  | [] => some []
  | d :: ds => (toP d).bind fun p => (toPs ds).map fun ps => p :: ps
end
/-- a cell's list is looked up -/
def deref (S : Store) : D → D
  | .cell i => match S[i]? with
    | some ds => .lst ds
    | none => .cell i
  | d => d
/-! cells become lists, to the bottom -/
mutual
def thc (c : Nat → D) : D → D
  | .cell i => c i
  | .lst ds => .lst (thcs c ds)
  | .tup ds => .tup (thcs c ds)
  | .non => .non
  | .bl b => .bl b
  | .int i => .int i
  | .str x => .str x
  | .ty n => .ty n
  | .cls k => .cls k
  | .obj k ds => .obj k ds
  | .dct ks ds => .dct ks ds
def thcs (c : Nat → D) : List D → List D
  | [] => []
  | d :: ds => thc c d :: thcs c ds
end
def cellD (S : Store) : Nat → Nat → D
  | 0, i => .cell i
  | n + 1, i => match S[i]? with
    | some ds => .lst (thcs (cellD S n) ds)
    | none => .cell i
def thw (S : Store) (d : D) : D := thc (cellD S 6) d
def eqB (S : Store) (a b : D) : Option Bool := match toP (thw S a), toP (thw S b) with
  | some p, some q => if SeqAt.shaped p && SeqAt.shaped q then some (PyData.eqv p q) else none
  | _, _ => none
def gEq : D → D → Store → Res := fun x y S => match eqB S x y with
  | some b => .ok (.bl b) S
  | none => .bad
def gNe : D → D → Store → Res := fun x y S => match eqB S x y with
  | some b => .ok (.bl (!b)) S
  | none => .bad
theorem sqL_H {K : PySem.W.Frag} {F H : Hp} (e : ∀ a o, F a = some o → H a = some o) {a : Addr} {vs : List V} (h : SqL K F a vs) : SqL K H a vs := by
  rcases h with (h | ⟨o, h⟩) | h
  · exact .inl (.inl (e _ _ h))
  · exact .inl (.inr ⟨o, e _ _ h⟩)
  · exact .inr h
theorem sqT_H {K : PySem.W.Frag} {F H : Hp} (e : ∀ a o, F a = some o → H a = some o) {a : Addr} {vs : List V} (h : SqT K F a vs) : SqT K H a vs := by
  rcases h with (h | ⟨o, h⟩) | h
  · exact .inl (.inl (e _ _ h))
  · exact .inl (.inr ⟨o, e _ _ h⟩)
  · exact .inr h
mutual
theorem dp_of {W : Wd} {H : Hp} (e : ∀ a o, W.F a = some o → H a = some o) : ∀ {d : D} {v : V} {p : PyData}, Rep Γ W d v → toP d = some p → Dp Γ.K H v p
  | .non, v, p, h, t => by simp only [Rep] at h; simp only [toP, Option.some.injEq] at t; subst h t; exact .non
  | .bl b, v, p, h, t => by simp only [Rep] at h; simp only [toP, Option.some.injEq] at t; subst h t; exact .bl b
  | .int b, v, p, h, t => by simp only [Rep] at h; simp only [toP, Option.some.injEq] at t; subst h t; exact .int b
  | .str b, v, p, h, t => by simp only [Rep] at h; simp only [toP, Option.some.injEq] at t; subst h t; exact .str b
  | .lst ds, v, p, h, t => by
    simp only [Rep] at h
    obtain ⟨a, vs, rfl, h2, h3⟩ := h
    simp only [toP, Option.map_eq_some_iff] at t
    obtain ⟨ps, t1, rfl⟩ := t
    exact .lst (sqL_H e h2) (dps_of e h3 t1)
  | .tup ds, v, p, h, t => by
    simp only [Rep] at h
    obtain ⟨a, vs, rfl, h2, h3⟩ := h
    simp only [toP, Option.map_eq_some_iff] at t
    obtain ⟨ps, t1, rfl⟩ := t
    exact .tup (sqT_H e h2) (dps_of e h3 t1)
  | .ty _, v, p, h, t => by simp [toP] at t
  | .cls _, v, p, h, t => by simp [toP] at t
  | .cell _, v, p, h, t => by simp [toP] at t
  | .obj _ _, v, p, h, t => by simp [toP] at t
  | .dct _ _, v, p, h, t => by simp [toP] at t
theorem dps_of {W : Wd} {H : Hp} (e : ∀ a o, W.F a = some o → H a = some o) : ∀ {ds : List D} {vs : List V} {ps : List PyData}, Reps Γ W ds vs → toPs ds = some ps → DpAll Γ.K H vs ps
  | [], vs, ps, h, t => by simp only [Reps] at h; simp only [toPs, Option.some.injEq] at t; subst h t; exact .nil
  | d :: ds, vs, ps, h, t => by
    simp only [Reps] at h
    obtain ⟨v, vs', rfl, h2, h3⟩ := h
    simp only [toPs, Option.bind_eq_some_iff, Option.map_eq_some_iff] at t
    obtain ⟨p, t1, ps', t2, rfl⟩ := t
    exact .cons (dp_of e h2 t1) (dps_of e h3 t2)
end
theorem Ok.cell {W : Wd} {S : Store} {H : Hp} (ok : Ok Γ W S H) {i : Nat} {a : Addr} (h : W.m[i]? = some a) : ∃ ds vs, S[i]? = some ds ∧ H a = some (.lst vs) ∧ Reps Γ W ds vs := by
  have hl : i < W.m.length := (List.getElem?_eq_some_iff.mp h).1
  have hs : i < S.length := by rw [← ok.len]; exact hl
  obtain ⟨vs, h1, h2⟩ := ok.c i a S[i] h (List.getElem?_eq_getElem hs)
  exact ⟨S[i], vs, List.getElem?_eq_getElem hs, h1, h2⟩
mutual
theorem dp_thc {W : Wd} {H : Hp} {c : Nat → D} (e : ∀ a o, W.F a = some o → H a = some o) (hc : ∀ i v p, Rep Γ W (.cell i) v → toP (c i) = some p → Dp Γ.K H v p) : ∀ {d : D} {v : V} {p : PyData}, Rep Γ W d v → toP (thc c d) = some p → Dp Γ.K H v p
  | .cell i, v, p, h, t => hc i v p h t
  | .non, v, p, h, t => dp_of e h t
  | .bl b, v, p, h, t => dp_of e h t
  | .int b, v, p, h, t => dp_of e h t
  | .str b, v, p, h, t => dp_of e h t
  | .ty b, v, p, h, t => dp_of e h t
  | .cls b, v, p, h, t => dp_of e h t
  | .obj k ds, v, p, h, t => dp_of e h t
  | .dct k ds, v, p, h, t => dp_of e h t
  | .lst ds, v, p, h, t => by
    simp only [Rep] at h
    obtain ⟨a, vs, rfl, h2, h3⟩ := h
    simp only [thc, toP, Option.map_eq_some_iff] at t
    obtain ⟨ps, t1, rfl⟩ := t
    exact .lst (sqL_H e h2) (dps_thc e hc h3 t1)
  | .tup ds, v, p, h, t => by
    simp only [Rep] at h
    obtain ⟨a, vs, rfl, h2, h3⟩ := h
    simp only [thc, toP, Option.map_eq_some_iff] at t
    obtain ⟨ps, t1, rfl⟩ := t
    exact .tup (sqT_H e h2) (dps_thc e hc h3 t1)
theorem dps_thc {W : Wd} {H : Hp} {c : Nat → D} (e : ∀ a o, W.F a = some o → H a = some o) (hc : ∀ i v p, Rep Γ W (.cell i) v → toP (c i) = some p → Dp Γ.K H v p) : ∀ {ds : List D} {vs : List V} {ps : List PyData}, Reps Γ W ds vs → toPs (thcs c ds) = some ps → DpAll Γ.K H vs ps
  | [], vs, ps, h, t => by simp only [Reps] at h; simp only [thcs, toPs, Option.some.injEq] at t; subst h t; exact .nil
  | d :: ds, vs, ps, h, t => by
    simp only [Reps] at h
    obtain ⟨v, vs', rfl, h2, h3⟩ := h
    simp only [thcs, toPs, Option.bind_eq_some_iff, Option.map_eq_some_iff] at t
    obtain ⟨p, t1, ps', t2, rfl⟩ := t
    exact .cons (dp_thc e hc h2 t1) (dps_thc e hc h3 t2)
end
theorem dp_cell {W : Wd} {S : Store} {H : Hp} (ok : Ok Γ W S H) : ∀ (n : Nat) (i : Nat) (v : V) (p : PyData), Rep Γ W (.cell i) v → toP (cellD S n i) = some p → Dp Γ.K H v p
  | 0, i, v, p, r, h => by simp [cellD, toP] at h
  | n + 1, i, v, p, r, h => by
    simp only [Rep] at r
    obtain ⟨a, rfl, h2⟩ := r
    obtain ⟨ds, vs, h3, h4, h5⟩ := ok.cell h2
    simp only [cellD, h3, toP, Option.map_eq_some_iff] at h
    obtain ⟨ps, t1, rfl⟩ := h
    exact .lst (.inl (.inl h4)) (dps_thc ok.f (dp_cell ok n) h5 t1)
theorem dp_deref {W : Wd} {S : Store} {H : Hp} (ok : Ok Γ W S H) {d : D} {v : V} {p : PyData} (h : Rep Γ W d v) (t : toP (thw S d) = some p) : Dp Γ.K H v p := dp_thc ok.f (dp_cell ok 6) h t
theorem op_gEq (hK : X.K = Γ.K) (hu : X.A.units + 64 < cLine) : OpR X (compareOp .Eq) (rD Γ gEq) := by
  intro pins s σ H x y v u Q I rx ry ⟨W, S, a, b, ok, ra, rb, h⟩
  unfold gEq eqB at h
  split at h
  · rename_i r hr
    split at hr
    · rename_i p q hp hq
      split at hr
      · rename_i hs
        cases hr
        have hs := Bool.and_eq_true_iff.mp hs
        exact op_eqD hu pins s σ H x y v u Q I rx ry ⟨p, q, by rw [hK]; exact dp_deref ok ra hp, by rw [hK]; exact dp_deref ok rb hq, hs.1, hs.2, h W _ H (Le.refl W) ok (by simp only [Rep])⟩
      · cases hr
    · cases hr
  · exact h.elim
theorem op_gNe (hK : X.K = Γ.K) (hu : X.A.units + 64 < cLine) : OpR X (compareOp .NotEq) (rD Γ gNe) := by
  intro pins s σ H x y v u Q I rx ry ⟨W, S, a, b, ok, ra, rb, h⟩
  unfold gNe eqB at h
  split at h
  · rename_i r hr
    split at hr
    · rename_i p q hp hq
      split at hr
      · rename_i hs
        cases hr
        have hs := Bool.and_eq_true_iff.mp hs
        exact op_neD hu pins s σ H x y v u Q I rx ry ⟨p, q, by rw [hK]; exact dp_deref ok ra hp, by rw [hK]; exact dp_deref ok rb hq, hs.1, hs.2, h W _ H (Le.refl W) ok (by simp only [Rep])⟩
      · cases hr
    · cases hr
  · exact h.elim

/-! ### one operand -/
def eOp1 (g : D → Store → Res) (a : EF) : EF := fun es S => (a es S).bind fun x S1 => (g x S1).nox
def rU1 (Γ : Pg) (g : D → Store → Res) : V → Hp → VK → Prop := fun x H Q => ∃ W S a, Ok Γ W S H ∧ Rep Γ W a x ∧ Cont Γ (g a S) W Q (fun _ _ _ => False)
theorem de_un {op : UnaryOp} {a : Expr} {fa : EF} {g : D → Store → Res} {pos : Pos} (ho : UnR X (unaryOp op) (rU1 Γ g)) (ha : PE X a (dE Γ ξ fa E)) : PE X (.UnaryOp op a pos) (dE Γ ξ (eOp1 g fa) E) :=
  (pe_un ho ha).imp fun σ H Q ⟨W, es, S, P0, ok, fr, h⟩ => ⟨W, es, S, P0, ok, fr, h.bind fun d S1 W1 v H1 le ok1 rv h1 => ⟨W1, S1, d, ok1, rv, h1.nox⟩⟩
def iNeg : D → Store → Res := fun x S => match x with
  | .int i => .ok (.int (-i)) S
  | _ => .bad
theorem un_iNeg : UnR X (unaryOp .USub) (rU1 Γ iNeg) := by
  intro pins s σ H x v Q I rx ⟨W, S, a, ok, ra, h⟩
  unfold iNeg at h
  split at h
  · simp only [Rep] at ra
    subst ra
    exact un_neg pins s σ H _ v Q I rx ⟨_, rfl, h W _ H (Le.refl W) ok (by simp only [Rep])⟩
  · exact h.elim
def gOr1 (g1 g2 : D → Store → Res) : D → Store → Res := fun x S => match g1 x S with
  | .bad => g2 x S
  | r => r
theorem un_or {F : Value → Sem Value} {g1 g2 : D → Store → Res} (h1 : UnR X F (rU1 Γ g1)) (h2 : UnR X F (rU1 Γ g2)) : UnR X F (rU1 Γ (gOr1 g1 g2)) := by
  intro pins s σ H x v Q I rx ⟨W, S, a, ok, ra, h⟩
  unfold gOr1 at h
  cases e : g1 a S with
  | bad =>
    rw [e] at h
    exact h2 pins s σ H x v Q I rx ⟨W, S, a, ok, ra, h⟩
  | ok d S' =>
    rw [e] at h
    exact h1 pins s σ H x v Q I rx ⟨W, S, a, ok, ra, by rw [e]; exact h⟩
  | exc k fs S' =>
    rw [e] at h
    exact h1 pins s σ H x v Q I rx ⟨W, S, a, ok, ra, by rw [e]; exact h⟩

/-! ### tests -/
def ContB (Γ : Pg) (r : Res) (W : Wd) (Q : Bool → Hp → Prop) (E : XK) : Prop := match r with
  | .ok (.bl b) S => ∀ W' H', Le W W' → Ok Γ W' S H' → Q b H'
  | .exc k fs S => ∀ W' d H', Le W W' → Ok Γ W' S H' → RepX (Γ := Γ) W' fs d → E (.ref (Γ.cl k)) d H'
  | _ => False
theorem ContB.le {r : Res} {W W' : Wd} {Q : Bool → Hp → Prop} {E : XK} (h : ContB Γ r W Q E) (e : Le W W') : ContB Γ r W' Q E := by
  unfold ContB at h ⊢
  split at h
  · exact fun W2 H2 l => h W2 H2 (e.trans l)
  · exact fun W2 d H2 l => h W2 d H2 (e.trans l)
  · exact h
def dT (Γ : Pg) (ξ : Xx) (f : EF) (E : WX) : TT := fun σ H Q => ∃ W es S P0, Ok Γ W S H ∧ Frame Γ ξ W es σ P0 ∧ ContB Γ (f es S) W Q (at_ E σ)
/-- from a test's end to a value's -/
theorem ContB.val {r : Res} {W : Wd} {Q : Bool → Hp → Prop} {E : XK} (h : ContB Γ r W Q E) : Cont Γ r W (fun x H1 => ∃ c, x = .bl c ∧ Q c H1) E := by
  unfold ContB at h
  split at h
  · rename_i b S
    intro W' v H' l o r
    simp only [Rep] at r
    exact ⟨b, r, h W' H' l o⟩
  · exact h
  · exact h.elim
theorem dt_val {e : Expr} {f : EF} (h : PE X e (dE Γ ξ f E)) (he : ∀ whole, isTrue e X.env whole = (do let v ← whole; standAt e.pos; holding [v] (truthy v)) := by intro _; rfl) : PT X e (dT Γ ξ f E) :=
  (pt_val h he).imp fun σ H Q ⟨W, es, S, P0, ok, fr, h⟩ => ⟨W, es, S, P0, ok, fr, h.val⟩
theorem dt_cmp {op : CmpOp} {a b : Expr} {fa fb : EF} {g : D → D → Store → Res} {pos : Pos} (ho : OpR X (compareOp op) (rD Γ g)) (ha : PE X a (dE Γ ξ fa E)) (hb : PE X b (dE Γ ξ fb E)) (hm : behindInMarks op b = false := by rfl) : PT X (.Compare a [op] [b] pos) (dT Γ ξ (eOp2 g fa fb) E) :=
  (pt_cmpR ho ha hb hm).imp fun σ H Q ⟨W, es, S, P0, ok, fr, h⟩ => tOp_of ⟨W, es, S, P0, ok, fr, h.val⟩
def nB : D → Store → Res := fun d S => match d with
  | .bl b => .ok (.bl (!b)) S
  | _ => .bad
def eNot (f : EF) : EF := fun es S => (f es S).bind nB
theorem dt_not {a : Expr} {f : EF} {pos : Pos} (h : PT X a (dT Γ ξ f E)) : PT X (.UnaryOp .Not a pos) (dT Γ ξ (eNot f) E) := (pt_not h).imp fun σ H Q ⟨W, es, S, P0, ok, fr, h⟩ => ⟨W, es, S, P0, ok, fr, by
  unfold eNot at h
  cases e : f es S with
  | bad => rw [e] at h; exact h.elim
  | exc k fs S' => rw [e] at h; exact h
  | ok d S' =>
    rw [e] at h
    cases d with
    | bl b => exact h
    | _ => exact h.elim⟩
def eAnd (a b : EF) : EF := fun es S => (a es S).bind fun d S1 => match d with
  | .bl true => b es S1
  | .bl false => .ok (.bl false) S1
  | _ => .bad
def eOr (a b : EF) : EF := fun es S => (a es S).bind fun d S1 => match d with
  | .bl false => b es S1
  | .bl true => .ok (.bl true) S1
  | _ => .bad
theorem _root_.L2.PW.imp {X : Cx} {e : Expr} {t t' : TT} (h : PW X e t) (q : ∀ σ H Q, t' σ H Q → t σ H Q) : PW X e t' := ⟨fun wh pins s σ H Q I z => h.run wh pins s σ H Q I (q σ H Q z)⟩
theorem tAnd_of {fa fb : EF} {σ : L2.St} {H : Hp} {Q : Bool → Hp → Prop} (h : dT Γ ξ (eAnd fa fb) E σ H Q) : tAnd (dT Γ ξ fa E) (dT Γ ξ fb E) σ H Q := by
  obtain ⟨W, es, S, P0, ok, fr, h⟩ := h
  refine ⟨W, es, S, P0, ok, fr, ?_⟩
  unfold eAnd at h
  cases e : fa es S with
  | bad => rw [e] at h; exact h.elim
  | exc k fs S' => rw [e] at h; exact h
  | ok d S' =>
    rw [e] at h
    cases d with
    | bl b =>
      intro W1 H1 l o
      cases b with
      | true => exact ⟨W1, es, S', P0, o, fr.le l, h.le l⟩
      | false => exact h W1 H1 l o
    | _ => exact h.elim
theorem tOr_of {fa fb : EF} {σ : L2.St} {H : Hp} {Q : Bool → Hp → Prop} (h : dT Γ ξ (eOr fa fb) E σ H Q) : tOr (dT Γ ξ fa E) (dT Γ ξ fb E) σ H Q := by
  obtain ⟨W, es, S, P0, ok, fr, h⟩ := h
  refine ⟨W, es, S, P0, ok, fr, ?_⟩
  unfold eOr at h
  cases e : fa es S with
  | bad => rw [e] at h; exact h.elim
  | exc k fs S' => rw [e] at h; exact h
  | ok d S' =>
    rw [e] at h
    cases d with
    | bl b =>
      intro W1 H1 l o
      cases b with
      | false => exact ⟨W1, es, S', P0, o, fr.le l, h.le l⟩
      | true => exact h W1 H1 l o
    | _ => exact h.elim
section
variable {a b c : Expr} {rest : List Expr} {fa fb fc : EF} {pos : Pos}
theorem dw_and (ha : PT X a (dT Γ ξ fa E)) (hb : PW X (.BoolOp .And (b :: rest) pos) (dT Γ ξ fb E)) : PW X (.BoolOp .And (a :: b :: rest) pos) (dT Γ ξ (eAnd fa fb) E) := (pw_and ha hb).imp fun σ H Q h => tAnd_of h
theorem dw_or (ha : PT X a (dT Γ ξ fa E)) (hb : PW X (.BoolOp .Or (b :: rest) pos) (dT Γ ξ fb E)) : PW X (.BoolOp .Or (a :: b :: rest) pos) (dT Γ ξ (eOr fa fb) E) := (pw_or ha hb).imp fun σ H Q h => tOr_of h
theorem dw_and1 (ha : PT X a (dT Γ ξ fa E)) : PW X (.BoolOp .And [a] pos) (dT Γ ξ fa E) := pw_and1 ha
theorem dw_or1 (ha : PT X a (dT Γ ξ fa E)) : PW X (.BoolOp .Or [a] pos) (dT Γ ξ fa E) := pw_or1 ha
/-- truths as values -/
theorem Cont.bl {r : Res} {k : D → Store → Res} {W : Wd} {Q Q1 : VK} {E : XK} (h : Cont Γ (r.bind k) W Q E) (hk : ∀ d S, (∀ b, d ≠ .bl b) → k d S = .bad)
    (q : ∀ b S1 W1 H1, Le W W1 → Ok Γ W1 S1 H1 → Cont Γ (k (.bl b) S1) W1 Q E → Q1 (.bl b) H1) : Cont Γ r W Q1 E := h.bind fun d S1 W1 v H1 le ok1 rv h1 => by
  cases d with
  | bl b => simp only [Rep] at rv; subst rv; exact q b S1 W1 H1 le ok1 h1
  | _ => rw [hk _ _ (fun b => by simp)] at h1; exact h1.elim
theorem de_and (ha : PE X a (dE Γ ξ fa E)) (hb : PE X (.BoolOp .And (b :: rest) pos) (dE Γ ξ fb E)) : PE X (.BoolOp .And (a :: b :: rest) pos) (dE Γ ξ (eAnd fa fb) E) := (pe_and ha hb).imp fun σ H Q ⟨W, es, S, P0, ok, fr, h⟩ =>
  ⟨W, es, S, P0, ok, fr, Cont.bl h (fun d S hd => by cases d <;> first | rfl | exact absurd rfl (hd _)) fun b S1 W1 H1 le ok1 h1 => ⟨b, rfl, by
    cases b with
    | true => rw [if_pos rfl]; exact ⟨W1, es, S1, P0, ok1, fr.le le, h1⟩
    | false => rw [if_neg Bool.false_ne_true]; exact h1 W1 _ H1 (Le.refl W1) ok1 (by simp only [Rep])⟩⟩
theorem de_or (ha : PE X a (dE Γ ξ fa E)) (hb : PE X (.BoolOp .Or (b :: rest) pos) (dE Γ ξ fb E)) : PE X (.BoolOp .Or (a :: b :: rest) pos) (dE Γ ξ (eOr fa fb) E) := (pe_or ha hb).imp fun σ H Q ⟨W, es, S, P0, ok, fr, h⟩ =>
  ⟨W, es, S, P0, ok, fr, Cont.bl h (fun d S hd => by cases d <;> first | rfl | exact absurd rfl (hd _)) fun b S1 W1 H1 le ok1 h1 => ⟨b, rfl, by
    cases b with
    | false => rw [if_neg Bool.false_ne_true]; exact ⟨W1, es, S1, P0, ok1, fr.le le, h1⟩
    | true => rw [if_pos rfl]; exact h1 W1 _ H1 (Le.refl W1) ok1 (by simp only [Rep])⟩⟩
theorem de_not (ha : PE X a (dE Γ ξ fa E)) : PE X (.UnaryOp .Not a pos) (dE Γ ξ (eNot fa) E) := (pe_not ha).imp fun σ H Q ⟨W, es, S, P0, ok, fr, h⟩ =>
  ⟨W, es, S, P0, ok, fr, Cont.bl h (fun d S hd => by cases d <;> first | rfl | exact absurd rfl (hd _)) fun b S1 W1 H1 le ok1 h1 => ⟨b, rfl, h1 W1 _ H1 (Le.refl W1) ok1 (by simp only [Rep])⟩⟩
theorem de_one {op : BoolOp} (ha : PE X a (dE Γ ξ fa E)) : PE X (.BoolOp op [a] pos) (dE Γ ξ fa E) := pe_one ha
def eIf (c a b : EF) : EF := fun es S => (c es S).bind fun d S1 => match d with
  | .bl true => a es S1
  | .bl false => b es S1
  | _ => .bad
theorem de_if (hc : PT X c (dT Γ ξ fc E)) (ha : PE X a (dE Γ ξ fa E)) (hb : PE X b (dE Γ ξ fb E)) : PE X (.IfExp c a b pos) (dE Γ ξ (eIf fc fa fb) E) := (pe_ifExp hc ha hb).imp fun σ H Q ⟨W, es, S, P0, ok, fr, h⟩ => by
  refine ⟨W, es, S, P0, ok, fr, ?_⟩
  unfold eIf at h
  cases e : fc es S with
  | bad => rw [e] at h; exact h.elim
  | exc k fs S' => rw [e] at h; exact h
  | ok d S' =>
    rw [e] at h
    cases d with
    | bl b =>
      intro W1 H1 l o
      cases b with
      | true => rw [if_pos rfl]; exact ⟨W1, es, S', P0, o, fr.le l, Cont.le h l⟩
      | false => rw [if_neg Bool.false_ne_true]; exact ⟨W1, es, S', P0, o, fr.le l, Cont.le h l⟩
    | _ => exact h.elim
end

/-! ### arguments and calls -/
def ResA.bindL (r : ResA) (k : List D → Store → ResA) : ResA := match r with
  | .ok d S => k d S
  | .exc c fs S => .exc c fs S
  | .bad => .bad
def aNil : AF := fun _ S => .ok [] S
def aCons (f : EF) (g : AF) : AF := fun es S => (f es S).bindA fun d S1 => (g es S1).bindL fun ds S2 => .ok (d :: ds) S2
theorem da_nil : PA X [] (dA Γ ξ aNil E) := pa_nil.imp fun σ H Q ⟨W, es, S, P0, ok, fr, h⟩ => h W _ H (Le.refl W) ok Reps.nil
theorem da_cons {e : Expr} {es : List Expr} {f : EF} {g : AF} (he : PE X e (dE Γ ξ f E)) (hr : PA X es (dA Γ ξ g E)) (hs : starEach (e :: es) X.env = (false, eval e X.env) :: starEach es X.env := by rfl) : PA X (e :: es) (dA Γ ξ (aCons f g) E) :=
  (pa_cons he hr hs).imp fun σ H Q ⟨W, es, S, P0, ok, fr, h⟩ => ⟨W, es, S, P0, ok, fr, Cont.bindA h fun d S1 W1 v H1 le ok1 rv h1 => ⟨W1, es, S1, P0, ok1, fr.le le, by
    cases e : g es S1 with
    | bad => rw [e] at h1; exact h1.elim
    | exc k fs S' => rw [e] at h1; exact h1
    | ok ds S' =>
      rw [e] at h1
      intro W2 vs H2 l2 ok2 rs
      exact h1 W2 _ H2 l2 ok2 (Reps.cons (rv.mono l2.s) rs)⟩⟩
/-- a def's promise by its plain function -/
def spD (Γ : Pg) (n : Nat) (f : List D → Store → Res) : Sp := fun vs H Q E => ∃ W S ds, Ok Γ W S H ∧ Reps Γ W ds vs ∧ ds.length = n ∧ Cont Γ (f ds S) W Q E
theorem spD_len {n : Nat} {f : List D → Store → Res} {ps : List Str} (hn : ps.length = n) : ∀ vs H Q E, spD Γ n f vs H Q E → vs.length = ps.length := fun vs H Q E ⟨W, S, ds, ok, r, hl, _⟩ => by rw [r.length, hl, hn]
def chk (n : Nat) (f : List D → Store → Res) : List D → Store → Res := fun ds S => if ds.length = n then f ds S else .bad
def eCall (n : Nat) (den : List D → Store → Res) (a : AF) : EF := fun es S => (a es S).bind (chk n den)
theorem spD_of {n : Nat} {f : List D → Store → Res} {W : Wd} {S : Store} {ds : List D} {vs : List V} {H : Hp} {Q : VK} {E : XK} (ok : Ok Γ W S H) (r : Reps Γ W ds vs) (h : Cont Γ (chk n f ds S) W Q E) : spD Γ n f vs H Q E := by
  unfold chk at h
  split at h
  · rename_i hl
    exact ⟨W, S, ds, ok, r, hl, h⟩
  · exact h.elim
/-- what a caller wants of a def -/
structure Cal (Γ : Pg) (P : Program) (w : World) (mg : Str → Option Value) (base : Heap) (k : Nat) (x : Str) (n : Nat) (den : List D → Store → Res) : Prop where
  ex : ∃ (fa : Addr) (fd : FuncData) (ps : List Str), FnOk P w Γ.K mg base (L2.CX P w) k fa fd ps (spD Γ n den) ∧ mg x = some (.ref fa) ∧ PySem.W.keepIn Γ.K (.ref fa) = true ∧ Binds Γ.K fd ps []
theorem Cal.mono {P : Program} {w : World} {mg : Str → Option Value} {base : Heap} {j k : Nat} {x : Str} {n : Nat} {den : List D → Store → Res} (c : Cal Γ P w mg base j x n den) (h : j ≤ k) : Cal Γ P w mg base k x n den := by
  obtain ⟨fa, fd, ps, F, h1, h2, h3⟩ := c.ex
  exact ⟨fa, fd, ps, F.mono h, h1, h2, h3⟩
/-- the context of a body stands for the program -/
structure Here (Γ : Pg) (P : Program) (w : World) (mg : Str → Option Value) (base : Heap) (k : Nat) (X : Cx) (E : WX) : Prop where
  p : X.prog = P
  w : X.w = w
  K : X.K = Γ.K
  mg : X.mg = mg
  base : X.base = base
  room : Room k X.A
  tk : Takes X E
theorem pass_of (tk : Takes X E) (σ : L2.St) : PassesAt (L2.CX X.prog X.w) X σ (at_ E σ) := L2.passAt tk σ
section
variable {P : Program} {w : World} {mg : Str → Option Value} {base : Heap} {k j n : Nat} {x : Str} {den : List D → Store → Res} {p pos : Pos} {e : Expr} {es : List Expr} {fs : AF}
theorem de_call (hh : Here Γ P w mg base k X E) (c : Cal Γ P w mg base j x n den) (ha : PA X (e :: es) (dA Γ ξ fs E)) (hj : j ≤ k := by decide) (hg : Gl X x := by rfl) (hdb : (x == ("__debug__" : Str)) = false := by decide) (he : starEach (e :: es) X.env = (false, eval e X.env) :: starEach es X.env := by rfl)
    (hpl : (backTo pos (starEach es X.env)).any (·.1) = false := by rfl) : PE X (.Call (.Name x p) (e :: es) [] pos) (dE Γ ξ (eCall n den fs) E) := by
  obtain ⟨h1, h2, h3, h4, h5, h6, h7⟩ := hh
  subst h1 h2 h4 h5
  obtain ⟨fa, fd, ps, F, hm, hk, hb⟩ := c.ex
  refine (pe_callSD (E := fun σ => at_ E σ) (dvs := []) (ds := []) (by rw [h3]; exact F) (h6.mono hj) hg hm (by rw [h3]; exact hk) (by rw [h3]; exact hb) .nil (fun σ => pass_of h7 σ) ha hdb he hpl).imp fun σ H Q ⟨W, es, S, P0, ok, fr, h⟩ => ?_
  refine ⟨W, es, S, P0, ok, fr, ContA.bind h fun ds S1 W1 vs H1 le ok1 rs h1 => ?_⟩
  rw [List.append_nil]
  exact spD_of ok1 rs h1
end

/-! ### a def's body -/
inductive Fl where
  | next (es : List SD) (S : Store)
  | ret (d : D) (S : Store)
  | brk (es : List SD) (S : Store)
  | ct (es : List SD) (S : Store)
  | exc (k : Nat) (fs : List (Str × D)) (es : List SD) (S : Store)
  | bad
abbrev SF := List SD → Store → Fl
def Fl.bind (r : Fl) (k : SF) : Fl := match r with
  | .next es S => k es S
  | r => r
def ContS (Γ : Pg) (ξ : Xx) (r : Fl) (W : Wd) (P0 : Hp) (Dn : Ends) (E : WX) : Prop := match r with
  | .next es S => ∀ W' σ' H', LeS W W' → Ok Γ W' S H' → Frame Γ ξ W' es σ' P0 → Dn.nx σ' H'
  | .brk es S => ∀ W' σ' H', LeS W W' → Ok Γ W' S H' → Frame Γ ξ W' es σ' P0 → Dn.bk σ' H'
  | .ct es S => ∀ W' σ' H', LeS W W' → Ok Γ W' S H' → Frame Γ ξ W' es σ' P0 → Dn.ct σ' H'
  | .ret d S => ∀ W' v H', LeS W W' → W'.P = P0 → Ok Γ W' S H' → Rep Γ W' d v → Dn.rt v H'
  | .exc k fs es S => ∀ W' σ' d H', LeS W W' → Ok Γ W' S H' → Frame Γ ξ W' es σ' P0 → RepX (Γ := Γ) W' fs d → E (.ref (Γ.cl k)) d σ' H'
  | .bad => False
theorem ContS.le {r : Fl} {W W' : Wd} {P0 : Hp} {Dn : Ends} {E : WX} (h : ContS Γ ξ r W P0 Dn E) (e : LeS W W') : ContS Γ ξ r W' P0 Dn E := by
  cases r with
  | next es S => exact fun W2 a b l => h W2 a b (e.trans l)
  | brk es S => exact fun W2 a b l => h W2 a b (e.trans l)
  | ct es S => exact fun W2 a b l => h W2 a b (e.trans l)
  | ret d S => exact fun W2 a b l => h W2 a b (e.trans l)
  | exc k fs es S => exact fun W2 a b c l => h W2 a b c (e.trans l)
  | bad => exact h
def dS (Γ : Pg) (ξ : Xx) (f : SF) (E : WX) : TS := fun Dn σ H => ∃ W es S P0, Ok Γ W S H ∧ Frame Γ ξ W es σ P0 ∧ ContS Γ ξ (f es S) W P0 Dn E
/-- a def's function, of its body's; N: how many names -/
def startD (N : Nat) (ds : List D) : List SD := ds.map .val ++ List.replicate (N - ds.length) .no
def fnD (N : Nat) (body : SF) : List D → Store → Res := fun ds S => match body (startD N ds) S with
  | .next _ S' => .ok .non S'
  | .ret d S' => .ok d S'
  | .exc k fs _ S' => .exc k fs S'
  | _ => .bad
theorem slots_start {W : Wd} : ∀ {ds : List D} {vs : List V} (m : Nat), Reps Γ W ds vs → SlotsR Γ ξ W (ds.map .val ++ List.replicate m .no) (vs.map some ++ List.replicate m none) []
  | [], vs, m, h => by
    simp only [Reps] at h
    subst h
    simp only [List.map_nil, List.nil_append]
    induction m with
    | zero => exact ⟨rfl, rfl⟩
    | succ m ih => exact ⟨none, _, rfl, ih⟩
  | d :: ds, vs, m, h => by
    simp only [Reps] at h
    obtain ⟨v, vs', rfl, h1, h2⟩ := h
    exact ⟨v, _, rfl, h1, slots_start m h2⟩
/-- the frame's own lists are let go -/
theorem Ok.leave {W : Wd} {S : Store} {H : Hp} {own : List (Addr × HO)} {P0 : Hp} (ok : Ok Γ W S H) (o : OwnP W own P0) : Ok Γ { W with P := P0 } S H where
  f := ok.f
  p := fun a u e => by
    refine ok.p a u ?_
    rw [o.rest a ?_]
    · exact e
    · intro ha
      obtain ⟨p, hp, rfl⟩ := List.mem_map.mp ha
      exact absurd ((o.at_ p hp).1.symm.trans e) (by simp)
  m := fun i a h => by
    refine ⟨(ok.m i a h).1, ?_⟩
    show P0 a = none
    by_cases ha : a ∈ own.map (·.1)
    · obtain ⟨p, hp, rfl⟩ := List.mem_map.mp ha
      exact (o.at_ p hp).1
    · rw [← o.rest a ha]
      exact (ok.m i a h).2
  nd := ok.nd
  len := ok.len
  c := fun i a ds h1 h2 => by
    obtain ⟨vs, h3, h4⟩ := ok.c i a ds h1 h2
    exact ⟨vs, h3, Reps.mono (W := W) (W' := { W with P := P0 }) ⟨fun _ _ h => h, fun _ _ h => h⟩ h4⟩
theorem enter {N : Nat} {body : SF} {vs : List V} {H : Hp} {Q : VK} {E : XK} {names : List Str} {n : Nat} (hN : names.length = N) (h : spD Γ n (fnD N body) vs H Q E) :
    dS Γ ξ body (fun c d _ H => E c d H) { nx := fun _ H' => Q .non H', rt := Q } (L2.start names vs) H := by
  obtain ⟨W, S, ds, ok, r, hl, h⟩ := h
  refine ⟨W, startD N ds, S, W.P, ok, ⟨[], ?_, ⟨List.nodup_nil, fun p hp => absurd hp (by simp), fun a _ => rfl⟩⟩, ?_⟩
  · unfold startD L2.start
    rw [r.length, hN]
    exact slots_start _ r
  · unfold fnD at h
    have back : ∀ {W' : Wd} {H' : Hp} {S' : Store} {es' : List SD} {σ' : L2.St}, LeS W W' → Ok Γ W' S' H' → Frame Γ ξ W' es' σ' W.P → Le W { W' with P := W.P } ∧ Ok Γ { W' with P := W.P } S' H' := fun l o ⟨own, _, p⟩ =>
      ⟨⟨l.f, rfl, l.m⟩, o.leave p⟩
    cases e : body (startD N ds) S with
    | next es S' =>
      rw [e] at h
      intro W' σ' H' l o fr
      obtain ⟨l2, o2⟩ := back l o fr
      exact h _ _ H' l2 o2 (by simp only [Rep])
    | ret d S' =>
      rw [e] at h
      intro W' v H' l hp o r
      exact h W' v H' ⟨l.f, hp, l.m⟩ o r
    | exc k fs es S' =>
      rw [e] at h
      intro W' σ' d H' l o fr rx
      obtain ⟨l2, o2⟩ := back l o fr
      exact h _ d H' l2 o2 (repX_le rx ⟨fun _ _ h => h, fun _ _ h => h⟩)
    | brk es S' => rw [e] at h; exact h.elim
    | ct es S' => rw [e] at h; exact h.elim
    | bad => rw [e] at h; exact h.elim

/-! ### statements -/
theorem dss_nil : PSs X [] (dS Γ ξ (fun es S => .next es S) E) := pss_nil.imp fun Dn σ H ⟨W, es, S, P0, ok, fr, h⟩ => h W σ H (LeS.refl W) ok fr
def sSeq (f g : SF) : SF := fun es S => (f es S).bind g
theorem tSeq_of {f g : SF} {Dn : Ends} {σ : L2.St} {H : Hp} (h : dS Γ ξ (sSeq f g) E Dn σ H) : tSeq (dS Γ ξ f E) (dS Γ ξ g E) Dn σ H := by
  obtain ⟨W, es, S, P0, ok, fr, h⟩ := h
  refine ⟨W, es, S, P0, ok, fr, ?_⟩
  unfold sSeq at h
  cases e : f es S with
  | next es' S' =>
    rw [e] at h
    exact fun W' σ' H' l o fr' => ⟨W', es', S', P0, o, fr', ContS.le h l⟩
  | brk es' S' => rw [e] at h; exact h
  | ct es' S' => rw [e] at h; exact h
  | ret d S' => rw [e] at h; exact h
  | exc k fs es' S' => rw [e] at h; exact h
  | bad => rw [e] at h; exact h.elim
theorem dss_cons {st : Stmt} {rest : List Stmt} {f g : SF} (h1 : PS X st (dS Γ ξ f E)) (h2 : PSs X rest (dS Γ ξ g E)) : PSs X (st :: rest) (dS Γ ξ (sSeq f g) E) := (pss_cons h1 h2).imp fun Dn σ H h => tSeq_of h
theorem dss_one {st : Stmt} {f : SF} (h1 : PS X st (dS Γ ξ f E)) : PSs X [st] (dS Γ ξ f E) := pss_one h1
def sPass : SF := fun es S => .next es S
theorem ds_pass {pos : Pos} : PS X (.Pass pos) (dS Γ ξ sPass E) := ps_pass.imp fun Dn σ H ⟨W, es, S, P0, ok, fr, h⟩ => h W σ H (LeS.refl W) ok fr
def sBrk : SF := fun es S => .brk es S
theorem ds_break {pos : Pos} : PS X (.Break pos) (dS Γ ξ sBrk E) := ps_break.imp fun Dn σ H ⟨W, es, S, P0, ok, fr, h⟩ => h W σ H (LeS.refl W) ok fr
/-- an expression's result goes on as a statement's -/
def Res.toS (r : Res) (es : List SD) (k : D → Store → Fl) : Fl := match r with
  | .ok d S => k d S
  | .exc c fs S => .exc c fs es S
  | .bad => .bad
theorem ContS.toS {r : Res} {es : List SD} {σ : L2.St} {k : D → Store → Fl} {W : Wd} {P0 : Hp} {Dn : Ends} {Q : VK} (fr : Frame Γ ξ W es σ P0) (h : ContS Γ ξ (r.toS es k) W P0 Dn E)
    (q : ∀ d S1 W1 v H1, Le W W1 → Ok Γ W1 S1 H1 → Rep Γ W1 d v → ContS Γ ξ (k d S1) W1 P0 Dn E → Q v H1) : Cont Γ r W Q (at_ E σ) := by
  cases r with
  | ok d S => exact fun W1 v H1 l o r => q d S W1 v H1 l o r (ContS.le h l.s)
  | exc c fs S => exact fun W1 d H1 l o rx => h W1 σ d H1 l.s o (fr.le l) rx
  | bad => exact h.elim
def sExpr (f : EF) : SF := fun es S => (f es S).toS es fun _ S' => .next es S'
theorem ds_expr {e : Expr} {f : EF} {pos : Pos} (he : PE X e (dE Γ ξ f E)) (hs : swapsWith e none pos.line X.env = pure false := by rfl) : PS X (.Expr e pos) (dS Γ ξ (sExpr f) E) := (ps_expr he hs).imp fun Dn σ H ⟨W, es, S, P0, ok, fr, h⟩ =>
  ⟨W, es, S, P0, ok, fr, ContS.toS fr h fun d S1 W1 v H1 le ok1 rv h1 => h1 W1 σ H1 (LeS.refl W1) ok1 (fr.le le)⟩
def sIf (c : EF) (a b : SF) : SF := fun es S => (c es S).toS es fun d S1 => match d with
  | .bl true => a es S1
  | .bl false => b es S1
  | _ => .bad
theorem ds_if {c : Expr} {a b : List Stmt} {fc : EF} {fa fb : SF} {pos : Pos} (hc : PT X c (dT Γ ξ fc E)) (ha : PSs X a (dS Γ ξ fa E)) (hb : PSs X b (dS Γ ξ fb E)) : PS X (.If c a b pos) (dS Γ ξ (sIf fc fa fb) E) := (ps_if hc ha hb).imp fun Dn σ H ⟨W, es, S, P0, ok, fr, h⟩ => by
  refine ⟨W, es, S, P0, ok, fr, ?_⟩
  unfold sIf at h
  cases e : fc es S with
  | bad => rw [e] at h; exact h.elim
  | exc k fs S' => rw [e] at h; exact fun W1 d H1 l o rx => h W1 σ d H1 l.s o (fr.le l) rx
  | ok d S' =>
    rw [e] at h
    cases d with
    | bl b =>
      intro W1 H1 l o
      cases b with
      | true => rw [if_pos rfl]; exact ⟨W1, es, S', P0, o, fr.le l, ContS.le h l.s⟩
      | false => rw [if_neg Bool.false_ne_true]; exact ⟨W1, es, S', P0, o, fr.le l, ContS.le h l.s⟩
    | _ => exact h.elim
end
end DL
set_option Elab.async false
set_option linter.all false
set_option maxRecDepth 100000
set_option maxHeartbeats 2000000
set_option autoImplicit false
/-! The data layer, 3: displays, stores to names, loops. -/
namespace DL
open PySem L2

section
variable {Γ : Pg} {ξ : Xx} {X : Cx} {E : WX}
/-! ### a new object -/
theorem Ok.fresh {W : Wd} {S : Store} {H : Hp} (ok : Ok Γ W S H) {p : Addr} (hp : H p = none) : W.F p = none ∧ W.P p = none ∧ ∀ (i : Nat) (a : Addr), W.m[i]? = some a → a ≠ p := by
  refine ⟨?_, ?_, fun i a h z => ?_⟩
  · cases e : W.F p with
    | none => rfl
    | some o => rw [ok.f p o e] at hp; cases hp
  · cases e : W.P p with
    | none => rfl
    | some o => rw [(ok.p p o e).1] at hp; cases hp
  · obtain ⟨ds, vs, _, h4, _⟩ := ok.cell h
    rw [z, hp] at h4
    cases h4
abbrev Wd.lay (W : Wd) (p : Addr) (o : HO) : Wd := { W with F := upd W.F p o }
theorem Le.lay {W : Wd} {p : Addr} {o : HO} (hp : W.F p = none) : Le W (W.lay p o) := ⟨fun a u e => by
  show upd W.F p o a = some u
  rw [upd_ne (ne_of_none e hp)]
  exact e, rfl, fun _ _ h => h⟩
theorem Ok.lay {W : Wd} {S : Store} {H : Hp} (ok : Ok Γ W S H) {p : Addr} (hp : H p = none) (o : HO) : Ok Γ (W.lay p o) S (upd H p o) := by
  obtain ⟨hF, hP, hm⟩ := ok.fresh hp
  refine ⟨fun a u e => ?_, fun a u e => ?_, fun i a h => ?_, ok.nd, ok.len, fun i a ds h1 h2 => ?_⟩
  · by_cases z : a = p
    · subst z
      have e : upd W.F a o a = some u := e
      rw [upd_same] at e ⊢
      exact e
    · have e : upd W.F p o a = some u := e
      rw [upd_ne z] at e ⊢
      exact ok.f a u e
  · have n : a ≠ p := ne_of_none (show W.P a = some u from e) hP
    refine ⟨by rw [upd_ne n]; exact (ok.p a u e).1, ?_⟩
    show upd W.F p o a = none
    rw [upd_ne n]
    exact (ok.p a u e).2
  · have n := hm i a h
    refine ⟨?_, (ok.m i a h).2⟩
    show upd W.F p o a = none
    rw [upd_ne n]
    exact (ok.m i a h).1
  · obtain ⟨vs, h3, h4⟩ := ok.c i a ds h1 h2
    exact ⟨vs, by rw [upd_ne (hm i a h1)]; exact h3, h4.mono (Le.lay hF).s⟩
theorem rep_tup {W : Wd} {p : Addr} {vs : List V} {ds : List D} (h : Reps Γ (W.lay p (.tup vs)) ds vs) : Rep Γ (W.lay p (.tup vs)) (.tup ds) (.ref p) := by
  simp only [Rep]
  exact ⟨p, vs, rfl, .inl (.inl upd_same), h⟩
theorem rep_lst {W : Wd} {p : Addr} {vs : List V} {ds : List D} (h : Reps Γ (W.lay p (.lst vs)) ds vs) : Rep Γ (W.lay p (.lst vs)) (.lst ds) (.ref p) := by
  simp only [Rep]
  exact ⟨p, vs, rfl, .inl (.inl upd_same), h⟩

/-! ### displays -/
def eTup (a : AF) : EF := fun es S => (a es S).bind fun ds S1 => if ds.length ≤ 16777216 then .ok (.tup ds) S1 else .bad
def eLst (a : AF) : EF := fun es S => (a es S).bind fun ds S1 => if ds.length ≤ 16777216 then .ok (.lst ds) S1 else .bad
theorem de_tup {es : List Expr} {a : AF} {x1} {pos : Pos} (h : PA X es (dA Γ ξ a E)) : PE X (.Tuple es x1 pos) (dE Γ ξ (eTup a) E) := (pe_tup h).imp fun σ H Q ⟨W, es, S, P0, ok, fr, h⟩ =>
  ⟨W, es, S, P0, ok, fr, ContA.bind h fun ds S1 W1 vs H1 le ok1 rs h1 => by
    split at h1
    · rename_i hz
      refine ⟨by rw [rs.length, sizeLine_eq]; exact hz, fun p hp => ?_⟩
      have l := Le.lay (o := .tup vs) (ok1.fresh hp).1
      exact h1 _ _ _ l (ok1.lay hp _) (rep_tup (rs.mono l.s))
    · exact h1.elim⟩
theorem de_lst {es : List Expr} {a : AF} {pos : Pos} (h : PA X es (dA Γ ξ a E)) : PE X (.List es pos) (dE Γ ξ (eLst a) E) := (pe_lst h).imp fun σ H Q ⟨W, es, S, P0, ok, fr, h⟩ =>
  ⟨W, es, S, P0, ok, fr, ContA.bind h fun ds S1 W1 vs H1 le ok1 rs h1 => by
    split at h1
    · rename_i hz
      refine ⟨by rw [rs.length, sizeLine_eq]; exact hz, fun p hp => ?_⟩
      have l := Le.lay (o := .lst vs) (ok1.fresh hp).1
      exact h1 _ _ _ l (ok1.lay hp _) (rep_lst (rs.mono l.s))
    · exact h1.elim⟩
/-- a list that may be changed later -/
def eCell (a : AF) : EF := fun es S => (a es S).bind fun ds S1 => if ds.length ≤ 16777216 then .ok (.cell S1.length) (S1 ++ [ds]) else .bad
abbrev Wd.cell (W : Wd) (p : Addr) : Wd := { W with m := W.m ++ [p] }
theorem Le.cell {W : Wd} {p : Addr} : Le W (W.cell p) := ⟨fun _ _ e => e, rfl, fun i a h => by
  show (W.m ++ [p])[i]? = some a
  rw [List.getElem?_append_left (List.getElem?_eq_some_iff.mp h).1]
  exact h⟩
theorem Ok.cellNew {W : Wd} {S : Store} {H : Hp} (ok : Ok Γ W S H) {p : Addr} (hp : H p = none) {vs : List V} {ds : List D} (r : Reps Γ W ds vs) : Ok Γ (W.cell p) (S ++ [ds]) (upd H p (.lst vs)) := by
  obtain ⟨hF, hP, hm⟩ := ok.fresh hp
  have at1 : ∀ (i : Nat) (a : Addr), (W.m ++ [p])[i]? = some a → (W.m[i]? = some a) ∨ (i = W.m.length ∧ a = p) := fun i a h => by
    by_cases hi : i < W.m.length
    · rw [List.getElem?_append_left hi] at h
      exact .inl h
    · rw [List.getElem?_append_right (Nat.le_of_not_lt hi)] at h
      have e : i - W.m.length = 0 := by
        have := (List.getElem?_eq_some_iff.mp h).1
        simp at this
        omega
      rw [e] at h
      simp at h
      exact .inr ⟨by omega, h.symm⟩
  refine ⟨fun a u e => ?_, fun a u e => ?_, fun i a h => ?_, ?_, ?_, fun i a es h1 h2 => ?_⟩
  · rw [upd_ne (ne_of_none (show W.F a = some u from e) hF)]
    exact ok.f a u e
  · rw [upd_ne (ne_of_none (show W.P a = some u from e) hP)]
    exact ok.p a u e
  · rcases at1 i a h with h | ⟨_, rfl⟩
    · exact ok.m i a h
    · exact ⟨hF, hP⟩
  · show (W.m ++ [p]).Nodup
    refine List.nodup_append.mpr ⟨ok.nd, by simp, fun a ha b hb => ?_⟩
    have hb : b = p := by simpa using hb
    subst hb
    obtain ⟨i, hi⟩ := List.getElem?_of_mem ha
    exact hm i a hi
  · show (W.m ++ [p]).length = _
    simp [ok.len]
  · rcases at1 i a h1 with h | ⟨hi, rfl⟩
    · have hl : i < S.length := by rw [← ok.len]; exact (List.getElem?_eq_some_iff.mp h).1
      rw [List.getElem?_append_left hl] at h2
      obtain ⟨us, h3, h4⟩ := ok.c i a es h h2
      exact ⟨us, by rw [upd_ne (hm i a h)]; exact h3, h4.mono Le.cell.s⟩
    · rw [List.getElem?_append_right (by rw [← ok.len, hi]; exact Nat.le_refl _)] at h2
      have e0 : i - S.length = 0 := by rw [← ok.len, hi]; exact Nat.sub_self _
      rw [e0] at h2
      simp at h2
      subst h2
      exact ⟨vs, upd_same, r.mono Le.cell.s⟩
theorem de_cell {es : List Expr} {a : AF} {pos : Pos} (h : PA X es (dA Γ ξ a E)) : PE X (.List es pos) (dE Γ ξ (eCell a) E) := (pe_lst h).imp fun σ H Q ⟨W, es, S, P0, ok, fr, h⟩ =>
  ⟨W, es, S, P0, ok, fr, ContA.bind h fun ds S1 W1 vs H1 le ok1 rs h1 => by
    split at h1
    · rename_i hz
      refine ⟨by rw [rs.length, sizeLine_eq]; exact hz, fun p hp => ?_⟩
      refine h1 _ _ _ Le.cell (ok1.cellNew hp rs) ?_
      simp only [Rep]
      refine ⟨p, rfl, ?_⟩
      show (W1.m ++ [p])[S1.length]? = some p
      rw [← ok1.len, List.getElem?_append_right (Nat.le_refl _)]
      simp
    · exact h1.elim⟩

/-! ### slots are set -/
theorem SlotsR.set {W : Wd} {d : D} {v : V} (r : Rep Γ W d v) : ∀ {es : List SD} {σ : L2.St} {own : List (Addr × HO)} (i : Nat), SlotsR Γ ξ W es σ own → ∃ own', SlotsR Γ ξ W (es.set i (.val d)) (σ.set i (some v)) own' ∧ own'.Sublist own
  | [], σ, own, i, h => ⟨own, by obtain ⟨rfl, rfl⟩ := h; exact ⟨rfl, rfl⟩, List.Sublist.refl _⟩
  | .no :: es, σ, own, i, h => by
    obtain ⟨o, σ', rfl, h2⟩ := h
    cases i with
    | zero => exact ⟨own, ⟨v, σ', rfl, r, h2⟩, List.Sublist.refl _⟩
    | succ i =>
      obtain ⟨own', h3, h4⟩ := SlotsR.set r i h2
      exact ⟨own', ⟨o, _, rfl, h3⟩, h4⟩
  | .val d0 :: es, σ, own, i, h => by
    obtain ⟨v0, σ', rfl, h2, h3⟩ := h
    cases i with
    | zero => exact ⟨own, ⟨v, σ', rfl, r, h3⟩, List.Sublist.refl _⟩
    | succ i =>
      obtain ⟨own', h4, h5⟩ := SlotsR.set r i h3
      exact ⟨own', ⟨v0, _, rfl, h2, h4⟩, h5⟩
  | .acc ds :: es, σ, own, i, h => by
    obtain ⟨a, vs, σ', own0, rfl, rfl, h3, h4⟩ := h
    cases i with
    | zero => exact ⟨own0, ⟨v, σ', rfl, r, h4⟩, List.sublist_cons_self _ _⟩
    | succ i =>
      obtain ⟨own', h5, h6⟩ := SlotsR.set r i h4
      exact ⟨(a, .lst vs) :: own', ⟨a, vs, _, own', rfl, rfl, h3, h5⟩, h6.cons_cons _⟩
  | .exn k fs :: es, σ, own, i, h => by
    obtain ⟨σ', rfl, h2, h3, h4⟩ := h
    cases i with
    | zero => exact ⟨own, ⟨v, σ', rfl, r, h4⟩, List.Sublist.refl _⟩
    | succ i =>
      obtain ⟨own', h5, h6⟩ := SlotsR.set r i h4
      exact ⟨own', ⟨_, rfl, h2, h3, h5⟩, h6⟩
  | .slf :: es, σ, own, i, h => by
    obtain ⟨σ', rfl, h4⟩ := h
    cases i with
    | zero => exact ⟨own, ⟨v, σ', rfl, r, h4⟩, List.Sublist.refl _⟩
    | succ i =>
      obtain ⟨own', h5, h6⟩ := SlotsR.set r i h4
      exact ⟨own', ⟨_, rfl, h5⟩, h6⟩
/-- some of the frame's own lists are let go -/
noncomputable def Wd.shrink (W : Wd) (own : List (Addr × HO)) (P0 : Hp) : Wd := { W with P := fun a => open Classical in if a ∈ own.map (·.1) then W.P a else P0 a }
theorem Wd.shrink_le {W : Wd} {own : List (Addr × HO)} {P0 : Hp} : LeS W (W.shrink own P0) := ⟨fun _ _ h => h, fun _ _ h => h⟩
theorem Ok.shrink {W : Wd} {S : Store} {H : Hp} {own own' : List (Addr × HO)} {P0 : Hp} (ok : Ok Γ W S H) (o : OwnP W own P0) (sb : own'.Sublist own) : Ok Γ (W.shrink own' P0) S H ∧ OwnP (W.shrink own' P0) own' P0 := by
  have out : ∀ a, a ∈ own.map (·.1) → P0 a = none := fun a ha => by
    obtain ⟨p, hp, rfl⟩ := List.mem_map.mp ha
    exact (o.at_ p hp).1
  have get : ∀ a u, (W.shrink own' P0).P a = some u → W.P a = some u := fun a u e => by
    unfold Wd.shrink at e
    simp only at e
    split at e
    · exact e
    · rw [o.rest a ?_]
      · exact e
      · intro ha
        rw [out a ha] at e
        cases e
  refine ⟨⟨ok.f, fun a u e => ok.p a u (get a u e), fun i a h => ⟨(ok.m i a h).1, ?_⟩, ok.nd, ok.len, fun i a ds h1 h2 => ?_⟩, ⟨o.nd.sublist (sb.map _), fun p hp => ⟨(o.at_ p (sb.subset hp)).1, ?_⟩, fun a ha => ?_⟩⟩
  · cases e : (W.shrink own' P0).P a with
    | none => rfl
    | some u =>
      have := get a u e
      rw [(ok.m i a h).2] at this
      cases this
  · obtain ⟨vs, h3, h4⟩ := ok.c i a ds h1 h2
    exact ⟨vs, h3, h4.mono Wd.shrink_le⟩
  · unfold Wd.shrink
    simp only
    rw [if_pos (List.mem_map.mpr ⟨p, hp, rfl⟩)]
    exact (o.at_ p (sb.subset hp)).2
  · unfold Wd.shrink
    simp only
    rw [if_neg ha]
/-- same but for the frame's own -/
structure Eqv (W W' : Wd) : Prop where
  f : W'.F = W.F
  m : W'.m = W.m
theorem Eqv.le {W W' : Wd} (e : Eqv W W') : LeS W W' := ⟨fun a o h => by rw [e.f]; exact h, fun i a h => by rw [e.m]; exact h⟩
theorem Eqv.refl (W : Wd) : Eqv W W := ⟨rfl, rfl⟩
theorem Eqv.trans {W W1 W2 : Wd} (a : Eqv W W1) (b : Eqv W1 W2) : Eqv W W2 := ⟨b.f.trans a.f, b.m.trans a.m⟩
theorem Frame.set {W : Wd} {S : Store} {H : Hp} {es : List SD} {σ : L2.St} {P0 : Hp} {d : D} {v : V} (ok : Ok Γ W S H) (fr : Frame Γ ξ W es σ P0) (r : Rep Γ W d v) (i : Nat) :
    ∃ W', Eqv W W' ∧ Ok Γ W' S H ∧ Frame Γ ξ W' (es.set i (.val d)) (σ.set i (some v)) P0 := by
  obtain ⟨own, h1, h2⟩ := fr
  obtain ⟨own', h3, sb⟩ := h1.set r i
  obtain ⟨o1, o2⟩ := ok.shrink h2 sb
  exact ⟨W.shrink own' P0, ⟨rfl, rfl⟩, o1, own', h3.mono Wd.shrink_le, o2⟩

/-! ### targets -/
def noAcc (es : List SD) (ix : List Nat) : Bool := ix.all fun j => match es[j]? with
  | some (.acc _) => false
  | _ => true
theorem noAcc_at {es : List SD} {ix : List Nat} (h : noAcc es ix = true) {j : Nat} (hj : j ∈ ix) (ds : List D) : es[j]? ≠ some (.acc ds) := fun e => by
  have := List.all_eq_true.mp h j hj
  rw [e] at this
  cases this
theorem noAcc_of {es : List SD} {ix : List Nat} (h : ∀ j ∈ ix, ∀ ds, es[j]? ≠ some (.acc ds)) : noAcc es ix = true := List.all_eq_true.mpr fun j hj => by
  split
  · rename_i ds e
    exact absurd e (h j hj ds)
  · rfl
/-- what a target's store does: ix: the slots that it may set -/
structure Step (ix : List Nat) (W W' : Wd) (es es' : List SD) (σ σ' : L2.St) : Prop where
  eqv : Eqv W W'
  len : σ'.length = σ.length
  out : ∀ j, j ∉ ix → σ'[j]? = σ[j]?
  acc : ∀ (j : Nat) (ds : List D), es'[j]? = some (.acc ds) → es[j]? = some (.acc ds)
  same : noAcc es ix = true → W' = W
theorem Step.refl (W : Wd) (es : List SD) (σ : L2.St) : Step [] W W es es σ σ := ⟨Eqv.refl W, rfl, fun _ _ => rfl, fun _ _ h => h, fun _ => rfl⟩
theorem Step.trans {ix iy : List Nat} {W W1 W2 : Wd} {es es1 es2 : List SD} {σ σ1 σ2 : L2.St} (a : Step ix W W1 es es1 σ σ1) (b : Step iy W1 W2 es1 es2 σ1 σ2) : Step (ix ++ iy) W W2 es es2 σ σ2 where
  eqv := a.eqv.trans b.eqv
  len := b.len.trans a.len
  out := fun j hj => (b.out j fun h => hj (List.mem_append_right _ h)).trans (a.out j fun h => hj (List.mem_append_left _ h))
  acc := fun j ds h => a.acc j ds (b.acc j ds h)
  same := fun h => by
    have h1 : noAcc es ix = true := noAcc_of fun j hj => noAcc_at h (List.mem_append_left _ hj)
    have h2 : noAcc es1 iy = true := noAcc_of fun j hj ds e => noAcc_at h (List.mem_append_right _ hj) ds (a.acc j ds e)
    exact (b.same h2).trans (a.same h1)
theorem SlotsR.setVal {W : Wd} {d : D} {v : V} (r : Rep Γ W d v) : ∀ {es : List SD} {σ : L2.St} {own : List (Addr × HO)} (i : Nat), SlotsR Γ ξ W es σ own → (∀ ds, es[i]? ≠ some (.acc ds)) → SlotsR Γ ξ W (es.set i (.val d)) (σ.set i (some v)) own
  | [], σ, own, i, h, _ => by obtain ⟨rfl, rfl⟩ := h; exact ⟨rfl, rfl⟩
  | .no :: es, σ, own, i, h, hn => by
    obtain ⟨o, σ', rfl, h2⟩ := h
    cases i with
    | zero => exact ⟨v, σ', rfl, r, h2⟩
    | succ i => exact ⟨o, _, rfl, SlotsR.setVal r i h2 (by simpa using hn)⟩
  | .val d0 :: es, σ, own, i, h, hn => by
    obtain ⟨v0, σ', rfl, h2, h3⟩ := h
    cases i with
    | zero => exact ⟨v, σ', rfl, r, h3⟩
    | succ i => exact ⟨v0, _, rfl, h2, SlotsR.setVal r i h3 (by simpa using hn)⟩
  | .acc ds :: es, σ, own, i, h, hn => by
    obtain ⟨a, vs, σ', own0, rfl, rfl, h3, h4⟩ := h
    cases i with
    | zero => exact absurd rfl (hn ds)
    | succ i => exact ⟨a, vs, _, own0, rfl, rfl, h3, SlotsR.setVal r i h4 (by simpa using hn)⟩
  | .exn k fs :: es, σ, own, i, h, hn => by
    obtain ⟨σ', rfl, h2, h3, h4⟩ := h
    cases i with
    | zero => exact ⟨v, σ', rfl, r, h4⟩
    | succ i => exact ⟨_, rfl, h2, h3, SlotsR.setVal r i h4 (by simpa using hn)⟩
  | .slf :: es, σ, own, i, h, hn => by
    obtain ⟨σ', rfl, h4⟩ := h
    cases i with
    | zero => exact ⟨v, σ', rfl, r, h4⟩
    | succ i => exact ⟨_, rfl, SlotsR.setVal r i h4 (by simpa using hn)⟩
theorem get_set_acc {es : List SD} {i j : Nat} {d : D} {ds : List D} (h : (es.set i (.val d))[j]? = some (.acc ds)) : es[j]? = some (.acc ds) := by
  by_cases e : i = j
  · subst e
    rw [List.getElem?_set] at h
    simp at h
  · rwa [List.getElem?_set_ne e] at h
theorem Frame.step {W : Wd} {S : Store} {H : Hp} {es : List SD} {σ : L2.St} {P0 : Hp} {d : D} {v : V} (ok : Ok Γ W S H) (fr : Frame Γ ξ W es σ P0) (r : Rep Γ W d v) (i : Nat) :
    ∃ W', Step [i] W W' es (es.set i (.val d)) σ (σ.set i (some v)) ∧ Ok Γ W' S H ∧ Frame Γ ξ W' (es.set i (.val d)) (σ.set i (some v)) P0 := by
  have out : ∀ j, j ∉ [i] → (σ.set i (some v))[j]? = σ[j]? := fun j hj => List.getElem?_set_ne fun e => hj (by simp [e])
  by_cases hn : noAcc es [i] = true
  · obtain ⟨own, h1, h2⟩ := fr
    exact ⟨W, ⟨Eqv.refl W, by simp, out, fun j ds h => get_set_acc h, fun _ => rfl⟩, ok, own, h1.setVal r i (noAcc_at hn (by simp)), h2⟩
  · obtain ⟨W', e, o, f⟩ := Frame.set ok fr r i
    exact ⟨W', ⟨e, by simp, out, fun j ds h => get_set_acc h, fun h => absurd h hn⟩, o, f⟩
abbrev TF := D → List SD → Store → Option (List SD)
abbrev TFs := List D → List SD → Store → Option (List SD)
def dG (Γ : Pg) (ξ : Xx) (t : TF) (ix : List Nat) : TG := fun v σ H Q => ∃ W es S P0 d es', Ok Γ W S H ∧ Frame Γ ξ W es σ P0 ∧ Rep Γ W d v ∧ t d es S = some es' ∧ ∀ W' σ', Step ix W W' es es' σ σ' → Ok Γ W' S H → Frame Γ ξ W' es' σ' P0 → Q σ' H
def dGs (Γ : Pg) (ξ : Xx) (t : TFs) (ix : List Nat) : TGs := fun vs σ H Q => ∃ W es S P0 ds es', Ok Γ W S H ∧ Frame Γ ξ W es σ P0 ∧ Reps Γ W ds vs ∧ t ds es S = some es' ∧ ∀ W' σ', Step ix W W' es es' σ σ' → Ok Γ W' S H → Frame Γ ξ W' es' σ' P0 → Q σ' H
theorem _root_.L2.PG.imp {X : Cx} {e : Expr} {t t' : TG} (h : PG X e t) (q : ∀ v σ H Q, t' v σ H Q → t v σ H Q) : PG X e t' := ⟨fun pins s σ H v u Q I r z => h.run pins s σ H v u Q I r (q v σ H Q z)⟩
theorem _root_.L2.PGs.imp {X : Cx} {es : List Expr} {t t' : TGs} (h : PGs X es t) (q : ∀ v σ H Q, t' v σ H Q → t v σ H Q) : PGs X es t' := ⟨fun pins s σ H v u Q I r z => h.run pins s σ H v u Q I r (q v σ H Q z)⟩
def tgN (i : Nat) : TF := fun d es _ => some (es.set i (.val d))
theorem dg_name {i : Nat} {x : Str} {pos : Pos} (hN : X.N.Nodup) (hi : X.N[i]? = some x := by rfl) (hx : Loc X.env.scope x := by first | exact Or.inl rfl | exact Or.inr rfl) (hf : X.fn x = true ∨ X.env.scope.names.lookup x = some .local := by first | exact .inl rfl | exact .inr rfl | assumption) : PG X (.Name x pos) (dG Γ ξ (tgN i) [i]) :=
  (pg_name hN hi hx hf).imp fun v σ H Q ⟨W, es, S, P0, d, es', ok, fr, r, ht, q⟩ => by
    obtain rfl : es.set i (.val d) = es' := Option.some.inj ht
    obtain ⟨W', e, ok', fr'⟩ := Frame.step ok fr r i
    exact q W' _ e ok' fr'
def tsNil : TFs := fun ds es _ => match ds with
  | [] => some es
  | _ => none
def tsCons (t : TF) (u : TFs) : TFs := fun ds es S => match ds with
  | d :: ds => (t d es S).bind fun es1 => u ds es1 S
  | [] => none
theorem dgs_nil : PGs X [] (dGs Γ ξ tsNil []) := pgs_nil.imp fun vs σ H Q ⟨W, es, S, P0, ds, es', ok, fr, r, ht, q⟩ => by
  cases ds with
  | nil =>
    simp only [Reps] at r
    subst r
    obtain rfl : es = es' := Option.some.inj ht
    exact ⟨rfl, q W σ (Step.refl W es σ) ok fr⟩
  | cons d ds => cases ht
theorem dgs_cons {e : Expr} {es : List Expr} {t : TF} {u : TFs} {ix iy : List Nat} (h1 : PG X e (dG Γ ξ t ix)) (h2 : PGs X es (dGs Γ ξ u iy)) (hs : (assignEach (e :: es) X.env).map (·.2) = assign e X.env :: (assignEach es X.env).map (·.2) := by rfl) : PGs X (e :: es) (dGs Γ ξ (tsCons t u) (ix ++ iy)) :=
  (pgs_cons h1 h2 hs).imp fun vs σ H Q ⟨W, es, S, P0, ds, es', ok, fr, r, ht, q⟩ => by
    cases ds with
    | nil => cases ht
    | cons d ds =>
      simp only [Reps] at r
      obtain ⟨v, vs', rfl, r1, r2⟩ := r
      simp only [tsCons, Option.bind_eq_some_iff] at ht
      obtain ⟨es1, ht1, ht2⟩ := ht
      refine ⟨v, vs', rfl, W, es, S, P0, d, es1, ok, fr, r1, ht1, fun W1 σ1 e1 ok1 fr1 => ?_⟩
      exact ⟨W1, es1, S, P0, ds, es', ok1, fr1, r2.mono e1.eqv.le, ht2, fun W2 σ2 e2 => q W2 σ2 (e1.trans e2)⟩
def tgT (n : Nat) (t : TFs) : TF := fun d es S => match d with
  | .tup ds => if ds.length = n then t ds es S else none
  | .lst ds => if ds.length = n then t ds es S else none
  | .cell c => match S[c]? with
    | some ds => if ds.length = n then t ds es S else none
    | none => none
  | _ => none
theorem _root_.L2.PG.or {X : Cx} {e : Expr} {t t' : TG} (h : PG X e t) (h' : PG X e t') : PG X e (fun v σ H Q => t v σ H Q ∨ t' v σ H Q) := ⟨fun pins s σ H v u Q I r z => z.elim (h.run pins s σ H v u Q I r) (h'.run pins s σ H v u Q I r)⟩
theorem dg_tup {es : List Expr} {k : Nat} {t : TFs} {ix : List Nat} {n : Nat} {pos : Pos} (hK : X.K = Γ.K) (hc : X.calm = true) (h : PGs X es (dGs Γ ξ t ix)) (hn : (assignEach es X.env).length = n := by rfl) (hst : (assignEach es X.env).findIdx? (·.1) = none := by rfl) : PG X (.Tuple es k pos) (dG Γ ξ (tgT n t) ix) :=
  ((pg_tup hc h hn hst).or (pg_unl hc h hn hst)).imp fun v σ H Q ⟨W, es, S, P0, d, es', ok, fr, r, ht, q⟩ => by
    cases d with
    | tup ds =>
      simp only [tgT] at ht
      split at ht
      · rename_i hl
        simp only [Rep] at r
        obtain ⟨a, vs, rfl, r1, r2⟩ := r
        exact .inl ⟨a, vs, rfl, by rw [hK]; exact sqT_H ok.f r1, by rw [r2.length, hl], W, es, S, P0, ds, es', ok, fr, r2, ht, q⟩
      · cases ht
    | lst ds =>
      simp only [tgT] at ht
      split at ht
      · rename_i hl
        simp only [Rep] at r
        obtain ⟨a, vs, rfl, r1, r2⟩ := r
        exact .inr ⟨a, vs, rfl, by rw [hK]; exact sqL_H ok.f r1, by rw [r2.length, hl], W, es, S, P0, ds, es', ok, fr, r2, ht, q⟩
      · cases ht
    | cell c =>
      simp only [Rep] at r
      obtain ⟨a, rfl, hm⟩ := r
      obtain ⟨ds, vs, h3, h4, h5⟩ := ok.cell hm
      simp only [tgT, h3] at ht
      split at ht
      · rename_i hl
        exact .inr ⟨a, vs, rfl, .inl (.inl h4), by rw [h5.length, hl], W, es, S, P0, ds, es', ok, fr, h5, ht, q⟩
      · cases ht
    | _ => cases ht

/-! ### assignments -/
def sAsg (t : TF) (f : EF) : SF := fun es S => (f es S).toS es fun d S1 => match t d es S1 with
  | some es' => .next es' S1
  | none => .bad
theorem tAsg_of {t : TF} {ix : List Nat} {f : EF} {Dn : Ends} {σ : L2.St} {H : Hp} (h : dS Γ ξ (sAsg t f) E Dn σ H) : tAsg (dE Γ ξ f E) (dG Γ ξ t ix) Dn σ H := by
  obtain ⟨W, es, S, P0, ok, fr, h⟩ := h
  refine ⟨W, es, S, P0, ok, fr, ContS.toS fr h fun d S1 W1 v H1 le ok1 rv h1 => ?_⟩
  split at h1
  · rename_i es' ht
    exact ⟨W1, es, S1, P0, d, es', ok1, fr.le le, rv, ht, fun W2 σ2 e2 ok2 fr2 => h1 W2 σ2 H1 e2.eqv.le ok2 fr2⟩
  · exact h1.elim
theorem ds_asg {tg e : Expr} {f : EF} {t : TF} {ix : List Nat} {pos : Pos} (he : PE X e (dE Γ ξ f E)) (hg : PG X tg (dG Γ ξ t ix)) (hs : swapsWithSole [tg] e pos.line X.env = pure false := by rfl) (hw : swappedStores [tg] e X.env = pure none := by rfl)
    (h1 : (assignEach [tg] X.env).map (·.2) = [assign tg X.env] := by rfl) : PS X (.Assign [tg] e pos) (dS Γ ξ (sAsg t f) E) := (ps_asg he hg hs hw h1).imp fun Dn σ H h => tAsg_of h
theorem ds_set {i : Nat} {x : Str} {e : Expr} {f : EF} {pos pos' : Pos} (hN : X.N.Nodup) (he : PE X e (dE Γ ξ f E)) (hi : X.N[i]? = some x := by rfl) (hx : Loc X.env.scope x := by first | exact Or.inl rfl | exact Or.inr rfl) (hs : swapsWith e (some (.Name x pos')) pos.line X.env = pure false := by rfl)
    (hf : X.fn x = true ∨ X.env.scope.names.lookup x = some .local := by first | exact .inl rfl | exact .inr rfl | assumption) : PS X (.Assign [.Name x pos'] e pos) (dS Γ ξ (sAsg (tgN i) f) E) :=
  (ps_set hN hi hx he hs hf).imp fun Dn σ H ⟨W, es, S, P0, ok, fr, h⟩ => ⟨W, es, S, P0, ok, fr, ContS.toS fr h fun d S1 W1 v H1 le ok1 rv h1 => by
    obtain ⟨W', e, ok', fr'⟩ := Frame.set ok1 (fr.le le) rv i
    exact h1 W' _ H1 e.le ok' fr'⟩
def sPar (i j : Nat) (a : AF) : SF := fun es S => match a es S with
  | .ok [d1, d2] S1 => .next ((es.set i (.val d1)).set j (.val d2)) S1
  | .exc k fs S1 => .exc k fs es S1
  | _ => .bad
theorem ds_par {i j : Nat} {x y : Str} {a b : Expr} {f : AF} {px py pt pos : Pos} {kt k2 pt2} (hc : X.calm = true) (hN : X.N.Nodup) (ha : PA X [a, b] (dA Γ ξ f E)) (hi : X.N[i]? = some x := by rfl) (hj : X.N[j]? = some y := by rfl) (hij : i ≠ j := by decide)
    (hx : X.env.scope.names.lookup x = some .local := by rfl) (hy : X.env.scope.names.lookup y = some .local := by rfl)
    (hw : swappedStores [.Tuple [.Name x px, .Name y py] kt pt] (.Tuple [a, b] k2 pt2) X.env = pure (some [x, y]) := by rfl)
    (hs : swapsWithSole [.Tuple [.Name x px, .Name y py] kt pt] (.Tuple [a, b] k2 pt2) pos.line X.env = pure false := by rfl) : PS X (.Assign [.Tuple [.Name x px, .Name y py] kt pt] (.Tuple [a, b] k2 pt2) pos) (dS Γ ξ (sPar i j f) E) :=
  (ps_par hc hN hi hj hij hx hy ha hw hs).imp fun Dn σ H ⟨W, es, S, P0, ok, fr, h⟩ => by
    refine ⟨W, es, S, P0, ok, fr, ?_⟩
    unfold sPar at h
    split at h
    · rename_i d1 d2 S1 e
      rw [e]
      intro W1 vs H1 le ok1 rs
      simp only [Reps] at rs
      obtain ⟨v1, _, rfl, r1, v2, _, rfl, r2, rfl⟩ := rs
      obtain ⟨W2, e2, ok2, fr2⟩ := Frame.set ok1 (fr.le le) r1 i
      obtain ⟨W3, e3, ok3, fr3⟩ := Frame.set ok2 fr2 (r2.mono e2.le) j
      exact ⟨v1, v2, rfl, h W3 _ H1 (le.s.trans (e2.le.trans e3.le)) ok3 fr3⟩
    · rename_i k fs S1 e
      rw [e]
      exact fun W1 d H1 l o rx => h W1 σ d H1 l.s o (fr.le l) rx
    · exact h.elim

/-! ### return: the frame's own lists become data -/
def frz1 : SD → SD
  | .acc ds => .val (.lst ds)
  | d => d
noncomputable def Wd.keep (W : Wd) (own : List (Addr × HO)) (P0 : Hp) : Wd := { W with F := fun a => open Classical in if a ∈ own.map (·.1) then W.P a else W.F a, P := P0 }
theorem keep_le {W : Wd} {S : Store} {H : Hp} {own : List (Addr × HO)} {P0 : Hp} (ok : Ok Γ W S H) (o : OwnP W own P0) : LeS W (W.keep own P0) := by
  refine ⟨fun a u h => ?_, fun _ _ h => h⟩
  unfold Wd.keep
  simp only
  rw [if_neg]
  · exact h
  · intro ha
    obtain ⟨p, hp, rfl⟩ := List.mem_map.mp ha
    exact absurd ((ok.p _ _ (o.at_ p hp).2).2.symm.trans h) (by simp)
theorem slots_frz {W W' : Wd} (l : LeS W W') : ∀ {es : List SD} {σ : L2.St} {own : List (Addr × HO)}, SlotsR Γ ξ W es σ own → (∀ p ∈ own, W'.F p.1 = some p.2) → SlotsR Γ ξ W' (es.map frz1) σ []
  | [], σ, own, h, _ => ⟨h.1, rfl⟩
  | .no :: es, σ, own, h, hp => by
    obtain ⟨o, σ', rfl, h2⟩ := h
    exact ⟨o, σ', rfl, slots_frz l h2 hp⟩
  | .val d :: es, σ, own, h, hp => by
    obtain ⟨v, σ', rfl, h2, h3⟩ := h
    exact ⟨v, σ', rfl, h2.mono l, slots_frz l h3 hp⟩
  | .acc ds :: es, σ, own, h, hp => by
    obtain ⟨a, vs, σ', own', rfl, rfl, h3, h4⟩ := h
    refine ⟨.ref a, σ', rfl, ?_, slots_frz l h4 fun p h => hp p (List.mem_cons_of_mem _ h)⟩
    simp only [Rep]
    exact ⟨a, vs, rfl, .inl (.inl (hp _ List.mem_cons_self)), h3.mono l⟩
  | .exn k fs :: es, σ, own, h, hp => by
    obtain ⟨σ', rfl, h2, h3, h4⟩ := h
    exact ⟨σ', rfl, h2, repX_le h3 l, slots_frz l h4 hp⟩
  | .slf :: es, σ, own, h, hp => by
    obtain ⟨σ', rfl, h4⟩ := h
    exact ⟨σ', rfl, slots_frz l h4 hp⟩
theorem Frame.frz {W : Wd} {S : Store} {H : Hp} {es : List SD} {σ : L2.St} {P0 : Hp} (ok : Ok Γ W S H) (fr : Frame Γ ξ W es σ P0) : ∃ W', LeS W W' ∧ W'.P = P0 ∧ Ok Γ W' S H ∧ Frame Γ ξ W' (es.map frz1) σ P0 := by
  obtain ⟨own, h1, o⟩ := fr
  have l := keep_le ok o
  have hP : ∀ a u, P0 a = some u → W.P a = some u ∧ a ∉ own.map (·.1) := fun a u e => by
    have na : a ∉ own.map (·.1) := fun ha => by
      obtain ⟨p, hp, rfl⟩ := List.mem_map.mp ha
      rw [(o.at_ p hp).1] at e
      cases e
    exact ⟨by rw [o.rest a na]; exact e, na⟩
  refine ⟨W.keep own P0, l, rfl, ⟨fun a u e => ?_, fun a u e => ?_, fun i a h => ?_, ok.nd, ok.len, fun i a ds h3 h4 => ?_⟩, [], slots_frz l h1 fun p hp => ?_, ⟨List.nodup_nil, fun p hp => absurd hp (by simp), fun a _ => rfl⟩⟩
  · unfold Wd.keep at e
    simp only at e
    split at e
    · exact (ok.p a u e).1
    · exact ok.f a u e
  · obtain ⟨e1, na⟩ := hP a u e
    refine ⟨(ok.p a u e1).1, ?_⟩
    unfold Wd.keep
    simp only
    rw [if_neg na]
    exact (ok.p a u e1).2
  · have hm := ok.m i a h
    have na : a ∉ own.map (·.1) := fun ha => by
      obtain ⟨p, hp, rfl⟩ := List.mem_map.mp ha
      rw [(o.at_ p hp).2] at hm
      cases hm.2
    refine ⟨?_, ?_⟩
    · unfold Wd.keep
      simp only
      rw [if_neg na]
      exact hm.1
    · show P0 a = none
      rw [← o.rest a na]
      exact hm.2
  · obtain ⟨vs, h5, h6⟩ := ok.c i a ds h3 h4
    exact ⟨vs, h5, h6.mono l⟩
  · unfold Wd.keep
    simp only
    rw [if_pos (List.mem_map.mpr ⟨p, hp, rfl⟩)]
    exact (o.at_ p hp).2
def sRet (f : EF) : SF := fun es S => match f (es.map frz1) S with
  | .ok d S1 => .ret d S1
  | .exc k fs S1 => .exc k fs (es.map frz1) S1
  | .bad => .bad
theorem ds_ret {e : Expr} {f : EF} {pos : Pos} (he : PE X e (dE Γ ξ f E)) : PS X (.Return (some e) pos) (dS Γ ξ (sRet f) E) := (ps_ret he).imp fun Dn σ H ⟨W, es, S, P0, ok, fr, h⟩ => by
  obtain ⟨W', l, hp, ok', fr'⟩ := fr.frz ok
  refine ⟨W', es.map frz1, S, P0, ok', fr', ?_⟩
  unfold sRet at h
  cases e : f (es.map frz1) S with
  | ok d S1 =>
    rw [e] at h
    exact fun W2 v H2 l2 ok2 r => h W2 v H2 (l.trans l2.s) (l2.p.trans hp) ok2 r
  | exc k fs S1 =>
    rw [e] at h
    exact fun W2 d H2 l2 ok2 rx => h W2 σ d H2 (l.trans l2.s) ok2 (fr'.le l2) rx
  | bad => rw [e] at h; exact h.elim
def sRetN : SF := fun es S => .ret .non S
theorem ds_retN {pos : Pos} : PS X (.Return none pos) (dS Γ ξ sRetN E) := ps_retN.imp fun Dn σ H ⟨W, es, S, P0, ok, fr, h⟩ => by
  obtain ⟨W', l, hp, ok', fr'⟩ := fr.frz ok
  exact h W' _ H l hp ok' (by simp only [Rep])

/-! ### while -/
def whileN (c : EF) (b : SF) : Nat → List SD → Store → Option Fl
  | 0, _, _ => none
  | n + 1, es, S => match c es S with
    | .ok (.bl true) S1 => match b es S1 with
      | .next es2 S2 => whileN c b n es2 S2
      | .ct es2 S2 => whileN c b n es2 S2
      | .brk es2 S2 => some (.next es2 S2)
      | r => some r
    | .ok (.bl false) S1 => some (.next es S1)
    | .exc k fs S1 => some (.exc k fs es S1)
    | _ => some .bad
theorem whileN_succ {c : EF} {b : SF} : ∀ {n : Nat} {es : List SD} {S : Store} {r : Fl}, whileN c b n es S = some r → whileN c b (n + 1) es S = some r
  | 0, es, S, r, h => by simp [whileN] at h
  | n + 1, es, S, r, h => by
    rw [whileN] at h ⊢
    cases hc : c es S with
    | bad => rw [hc] at h; exact h
    | exc k fs S1 => rw [hc] at h; exact h
    | ok d S1 =>
      rw [hc] at h
      cases d with
      | bl t =>
        cases t with
        | false => exact h
        | true =>
          simp only at h ⊢
          cases hb : b es S1 with
          | next es2 S2 => rw [hb] at h; exact whileN_succ h
          | ct es2 S2 => rw [hb] at h; exact whileN_succ h
          | brk es2 S2 => rw [hb] at h; exact h
          | ret d2 S2 => rw [hb] at h; exact h
          | exc k fs es2 S2 => rw [hb] at h; exact h
          | bad => rw [hb] at h; exact h
      | _ => exact h
theorem whileN_le {c : EF} {b : SF} {n m : Nat} {es : List SD} {S : Store} {r : Fl} (h : whileN c b n es S = some r) (hm : n ≤ m) : whileN c b m es S = some r := by
  induction hm with
  | refl => exact h
  | step _ ih => exact whileN_succ ih
open Classical in
noncomputable def sWhile (c : EF) (b : SF) : SF := fun es S => if h : ∃ n r, whileN c b n es S = some r then h.choose_spec.choose else .bad
theorem sWhile_eq {c : EF} {b : SF} {n : Nat} {es : List SD} {S : Store} {r : Fl} (h : whileN c b n es S = some r) : sWhile c b es S = r := by
  have hx : ∃ n r, whileN c b n es S = some r := ⟨n, r, h⟩
  unfold sWhile
  rw [dif_pos hx]
  have h2 := hx.choose_spec.choose_spec
  have h3 := whileN_le h (Nat.le_max_left n hx.choose)
  have h4 := whileN_le h2 (Nat.le_max_right n hx.choose)
  rw [h3] at h4
  exact (Option.some.inj h4).symm
theorem ds_while {c : Expr} {body : List Stmt} {fc : EF} {fb : SF} {pos : Pos} (hp : PassesOwn (model X.prog X.w) X.A X.env X.xe) (hc : PT X c (dT Γ ξ fc E)) (hb : PSs X body (dS Γ ξ fb E)) : PS X (.While c body [] pos) (dS Γ ξ (sWhile fc fb) E) :=
  (ps_while hp hc hb).imp fun Dn σ H ⟨W, es, S, P0, ok, fr, h⟩ => by
    by_cases hx : ∃ n r, whileN fc fb n es S = some r
    · obtain ⟨n, r, hr⟩ := hx
      rw [sWhile_eq hr] at h
      refine ⟨fun m σ H => ∃ W es S r, Ok Γ W S H ∧ Frame Γ ξ W es σ P0 ∧ whileN fc fb m es S = some r ∧ ContS Γ ξ r W P0 Dn E, ⟨n, W, es, S, r, ok, fr, hr, h⟩, ?_⟩
      rintro m σ H ⟨W, es, S, r, ok, fr, hr, h⟩
      refine ⟨W, es, S, P0, ok, fr, ?_⟩
      cases m with
      | zero => simp [whileN] at hr
      | succ m =>
        rw [whileN] at hr
        cases e : fc es S with
        | bad =>
          rw [e] at hr
          obtain rfl := Option.some.inj hr
          exact h.elim
        | exc k fs S1 =>
          rw [e] at hr
          obtain rfl := Option.some.inj hr
          exact fun W1 d H1 l o rx => h W1 σ d H1 l.s o (fr.le l) rx
        | ok d S1 =>
          rw [e] at hr
          cases d with
          | bl t =>
            intro W1 H1 l ok1
            cases t with
            | false =>
              obtain rfl := Option.some.inj hr
              rw [if_neg Bool.false_ne_true]
              exact h W1 σ H1 l.s ok1 (fr.le l)
            | true =>
              rw [if_pos rfl]
              refine ⟨fun σ' H' => ∃ W es S r, Ok Γ W S H' ∧ Frame Γ ξ W es σ' P0 ∧ whileN fc fb m es S = some r ∧ ContS Γ ξ r W P0 Dn E, fun σ' H' q => ⟨m, Nat.lt_succ_self m, q⟩, W1, es, S1, P0, ok1, fr.le l, ?_⟩
              simp only at hr
              cases eb : fb es S1 with
              | next es2 S2 =>
                rw [eb] at hr
                exact fun W2 σ2 H2 l2 ok2 fr2 => ⟨W2, es2, S2, r, ok2, fr2, hr, ContS.le h (l.s.trans l2)⟩
              | ct es2 S2 =>
                rw [eb] at hr
                exact fun W2 σ2 H2 l2 ok2 fr2 => ⟨W2, es2, S2, r, ok2, fr2, hr, ContS.le h (l.s.trans l2)⟩
              | brk es2 S2 =>
                rw [eb] at hr
                obtain rfl := Option.some.inj hr
                exact fun W2 σ2 H2 l2 ok2 fr2 => h W2 σ2 H2 (l.s.trans l2) ok2 fr2
              | ret d2 S2 =>
                rw [eb] at hr
                obtain rfl := Option.some.inj hr
                exact fun W2 v2 H2 l2 => h W2 v2 H2 (l.s.trans l2)
              | exc k fs es2 S2 =>
                rw [eb] at hr
                obtain rfl := Option.some.inj hr
                exact fun W2 σ2 d2 H2 l2 => h W2 σ2 d2 H2 (l.s.trans l2)
              | bad =>
                rw [eb] at hr
                obtain rfl := Option.some.inj hr
                exact h.elim
          | _ =>
            obtain rfl := Option.some.inj hr
            exact h.elim
    · unfold sWhile at h
      rw [dif_neg hx] at h
      exact h.elim

/-! ### what is walked -/
/-- what must stand while something is walked: cells and what they hold -/
abbrev Gd := List (Nat × List D)
def Gd.ok (g : Gd) (S : Store) : Prop := ∀ p ∈ g, S[p.1]? = some p.2
theorem Gd.ok_nil (S : Store) : Gd.ok [] S := fun p hp => absurd hp (by simp)
inductive ResI where
  | ok (ds : List D) (g : Gd) (S : Store)
  | exc (k : Nat) (fs : List (Str × D)) (S : Store)
  | bad
abbrev IF := List SD → Store → ResI
def Res.bindI (r : Res) (k : D → Store → ResI) : ResI := match r with
  | .ok d S => k d S
  | .exc c fs S => .exc c fs S
  | .bad => .bad
def ResA.bindI (r : ResA) (k : List D → Store → ResI) : ResI := match r with
  | .ok d S => k d S
  | .exc c fs S => .exc c fs S
  | .bad => .bad
/-- the world has grown, its private part, too -/
structure LeQ (W W' : Wd) : Prop where
  s : LeS W W'
  p : ∀ a o, W.P a = some o → W'.P a = some o
/-- the iterator J yields the data ds, one after the other, whatever else happens -/
def Yld (Γ : Pg) (W : Wd) (J : It) (ds : List D) (g : Gd) : Prop := ∀ W' S H, LeS W W' → Ok Γ W' S H → g.ok S → J.stop ds.length H ∧ ∀ i d, ds[i]? = some d → J.go i H ∧ ∀ x H', J.yld i H x H' → ∃ W'', Le W' W'' ∧ Ok Γ W'' S H' ∧ Rep Γ W'' d x
/-- the same where the private part stands, too -/
def YldQ (Γ : Pg) (W : Wd) (J : It) (ds : List D) (g : Gd) : Prop := ∀ W' S H, LeQ W W' → Ok Γ W' S H → g.ok S → J.stop ds.length H ∧ ∀ i d, ds[i]? = some d → J.go i H ∧ ∀ x H', J.yld i H x H' → ∃ W'', Le W' W'' ∧ Ok Γ W'' S H' ∧ Rep Γ W'' d x
theorem Yld.le {W W' : Wd} {J : It} {ds : List D} {g : Gd} (y : Yld Γ W J ds g) (l : LeS W W') : Yld Γ W' J ds g := fun W2 S H l2 => y W2 S H (l.trans l2)
theorem Yld.q {W : Wd} {J : It} {ds : List D} {g : Gd} (y : Yld Γ W J ds g) : YldQ Γ W J ds g := fun W2 S H l2 => y W2 S H l2.s
def ContI (Γ : Pg) (r : ResI) (W : Wd) (R : It → Hp → Prop) (E : XK) : Prop := match r with
  | .ok ds g S => ∀ W' J H', Le W W' → Ok Γ W' S H' → Yld Γ W' J ds g → R J H'
  | .exc k fs S => ∀ W' d H', Le W W' → Ok Γ W' S H' → RepX (Γ := Γ) W' fs d → E (.ref (Γ.cl k)) d H'
  | .bad => False
def ContIQ (Γ : Pg) (r : ResI) (W : Wd) (R : It → Hp → Prop) (E : XK) : Prop := match r with
  | .ok ds g S => ∀ W' J H', Le W W' → Ok Γ W' S H' → YldQ Γ W' J ds g → R J H'
  | .exc k fs S => ∀ W' d H', Le W W' → Ok Γ W' S H' → RepX (Γ := Γ) W' fs d → E (.ref (Γ.cl k)) d H'
  | .bad => False
def dI (Γ : Pg) (ξ : Xx) (f : IF) (E : WX) : TI := fun σ H R => ∃ W es S P0, Ok Γ W S H ∧ Frame Γ ξ W es σ P0 ∧ ContI Γ (f es S) W R (at_ E σ)
def dIQ (Γ : Pg) (ξ : Xx) (f : IF) (E : WX) : TI := fun σ H R => ∃ W es S P0, Ok Γ W S H ∧ Frame Γ ξ W es σ P0 ∧ ContIQ Γ (f es S) W R (at_ E σ)
theorem _root_.L2.PI.imp {X : Cx} {tg e : Expr} {t t' : TI} (h : PI X tg e t) (q : ∀ σ H R, t' σ H R → t σ H R) : PI X tg e t' := ⟨fun pins s σ H R I z => h.run pins s σ H R I (q σ H R z)⟩
theorem diq {tg e : Expr} {f : IF} (h : PI X tg e (dI Γ ξ f E)) : PI X tg e (dIQ Γ ξ f E) := h.imp fun σ H R ⟨W, es, S, P0, ok, fr, h⟩ => ⟨W, es, S, P0, ok, fr, by
  unfold ContIQ at h
  unfold ContI
  split
  · rename_i e
    rw [e] at h
    exact fun W' J H' l o y => h W' J H' l o y.q
  · rename_i e
    rw [e] at h
    exact h
  · rename_i e
    rw [e] at h
    exact h⟩
open Classical in
noncomputable def forL (g : Gd) (t : TF) (b : SF) : List D → SF
  | [], es, S => if g.ok S then .next es S else .bad
  | d :: ds, es, S => if g.ok S then match t d es S with
    | none => .bad
    | some es1 => match b es1 S with
      | .next es2 S2 => forL g t b ds es2 S2
      | .ct es2 S2 => forL g t b ds es2 S2
      | .brk es2 S2 => .next es2 S2
      | r => r
    else .bad
noncomputable def sFor (it : IF) (t : TF) (b : SF) : SF := fun es S => match it es S with
  | .ok ds g S1 => forL g t b ds es S1
  | .exc k fs S1 => .exc k fs es S1
  | .bad => .bad
theorem ds_for {tg iter : Expr} {body : List Stmt} {fi : IF} {t : TF} {ix : List Nat} {fb : SF} {pos : Pos} (hp : PassesOwn (model X.prog X.w) X.A X.env X.xe) (hc : X.calm = true) (hi : PI X tg iter (dI Γ ξ fi E)) (hg : PG X tg (dG Γ ξ t ix)) (hb : PSs X body (dS Γ ξ fb E))
    (hs : ∀ x, foldedSetIterable iter X.env x = pure x := by intro _; rfl) : PS X (.For tg iter body [] pos) (dS Γ ξ (sFor fi t fb) E) := (ps_for hp hc hi hg hb hs).imp fun Dn σ H ⟨W, es, S, P0, ok, fr, h⟩ => by
  refine ⟨W, es, S, P0, ok, fr, ?_⟩
  unfold sFor at h
  cases e : fi es S with
  | bad => rw [e] at h; exact h.elim
  | exc k fs S1 =>
    rw [e] at h
    exact fun W1 d H1 l o rx => h W1 σ d H1 l.s o (fr.le l) rx
  | ok ds g S1 =>
    rw [e] at h
    intro W1 J H1 l1 ok1 y
    refine ⟨fun i m σ H => m = ds.length - i ∧ i ≤ ds.length ∧ ∃ W es S, LeS W1 W ∧ Ok Γ W S H ∧ Frame Γ ξ W es σ P0 ∧ ContS Γ ξ (forL g t fb (ds.drop i) es S) W P0 Dn E,
      ⟨ds.length, by simp, Nat.zero_le _, W1, es, S1, LeS.refl _, ok1, fr.le l1, by rw [List.drop_zero]; exact ContS.le h l1.s⟩, ?_⟩
    rintro i m σ H ⟨rfl, hi, W2, es2, S2, l2, ok2, fr2, h2⟩
    by_cases hgd : g.ok S2
    case neg =>
      by_cases hlt : i < ds.length
      · rw [List.drop_eq_getElem_cons hlt, forL, if_neg hgd] at h2
        exact h2.elim
      · rw [List.drop_of_length_le (by omega), forL, if_neg hgd] at h2
        exact h2.elim
    obtain ⟨y1, y2⟩ := y W2 S2 H l2 ok2 hgd
    by_cases hlt : i < ds.length
    · right
      obtain ⟨g1, g2⟩ := y2 i ds[i] (List.getElem?_eq_getElem hlt)
      refine ⟨g1, fun σ' H' => i + 1 ≤ ds.length ∧ ∃ W es S, LeS W1 W ∧ Ok Γ W S H' ∧ Frame Γ ξ W es σ' P0 ∧ ContS Γ ξ (forL g t fb (ds.drop (i + 1)) es S) W P0 Dn E, fun σ' H' q => ⟨ds.length - (i + 1), by omega, rfl, q⟩, fun x H' yl => ?_⟩
      obtain ⟨W3, l3, ok3, r3⟩ := g2 x H' yl
      rw [List.drop_eq_getElem_cons hlt, forL, if_pos hgd] at h2
      cases ht : t ds[i] es2 S2 with
      | none => rw [ht] at h2; exact h2.elim
      | some es3 =>
        rw [ht] at h2
        simp only at h2
        refine ⟨W3, es2, S2, P0, ds[i], es3, ok3, fr2.le l3, r3, ht, fun W4 σ4 e4 ok4 fr4 => ?_⟩
        refine ⟨W4, es3, S2, P0, ok4, fr4, ?_⟩
        have l4 : LeS W2 W4 := l3.s.trans e4.eqv.le
        cases eb : fb es3 S2 with
        | next es5 S5 =>
          rw [eb] at h2
          exact fun W5 σ5 H5 l5 ok5 fr5 => ⟨hlt, W5, es5, S5, l2.trans (l4.trans l5), ok5, fr5, ContS.le h2 (l4.trans l5)⟩
        | ct es5 S5 =>
          rw [eb] at h2
          exact fun W5 σ5 H5 l5 ok5 fr5 => ⟨hlt, W5, es5, S5, l2.trans (l4.trans l5), ok5, fr5, ContS.le h2 (l4.trans l5)⟩
        | brk es5 S5 =>
          rw [eb] at h2
          exact fun W5 σ5 H5 l5 => h2 W5 σ5 H5 (l4.trans l5)
        | ret d5 S5 =>
          rw [eb] at h2
          exact fun W5 σ5 H5 l5 => h2 W5 σ5 H5 (l4.trans l5)
        | exc k fs es5 S5 =>
          rw [eb] at h2
          exact fun W5 σ5 d5 H5 l5 => h2 W5 σ5 d5 H5 (l4.trans l5)
        | bad => rw [eb] at h2; exact h2.elim
    · left
      have e2 : i = ds.length := by omega
      subst e2
      rw [List.drop_length, forL, if_pos hgd] at h2
      exact ⟨y1, h2 W2 σ H (LeS.refl _) ok2 fr2⟩
/-- range -/
theorem yld_range {W : Wd} {lo : Int} {n : Nat} : Yld Γ W (Itr lo n) ((List.range n).map fun (i : Nat) => D.int (lo + i)) [] := fun W' S H l ok _ => by
  refine ⟨by simp [Itr], fun i d hd => ?_⟩
  rw [List.getElem?_map] at hd
  by_cases hi : i < n
  · rw [List.getElem?_range hi] at hd
    obtain rfl := Option.some.inj hd
    exact ⟨hi, fun x H' ⟨e1, e2⟩ => ⟨W', Le.refl _, by rw [e1]; exact ok, by simp only [Rep]; exact e2⟩⟩
  · rw [List.getElem?_eq_none (by simp; omega)] at hd
    cases hd
/-- what a list, a tuple is walked by: q says that it stands -/
theorem yld_listG {W : Wd} {a : Addr} {vs : List V} {ds : List D} {g : Gd} (q : ∀ W' S H, LeS W W' → Ok Γ W' S H → g.ok S → ∃ vs, SqL Γ.K H a vs ∧ Reps Γ W' ds vs) : Yld Γ W (Itl Γ.K a) ds g := fun W' S H l ok hg => by
  obtain ⟨vs, q, r⟩ := q W' S H l ok hg
  refine ⟨⟨vs, q, by rw [r.length]; exact Nat.le_refl _⟩, fun i d hd => ?_⟩
  obtain ⟨v, hv, rv⟩ := r.get hd
  exact ⟨⟨vs, v, q, hv⟩, fun x H' ⟨e1, e2⟩ => ⟨W', Le.refl _, by rw [e1]; exact ok, by
    have := e2 vs q
    rw [hv] at this
    obtain rfl := Option.some.inj this
    exact rv⟩⟩
theorem yld_list {W : Wd} {a : Addr} {vs : List V} {ds : List D} (h : SqL Γ.K W.F a vs) (r : Reps Γ W ds vs) : Yld Γ W (Itl Γ.K a) ds [] := yld_listG (vs := vs) fun W' S H l ok _ => ⟨vs, sqL_H ok.f (sqL_le l h), r.mono l⟩
theorem yld_cell {W : Wd} {a : Addr} {c : Nat} {ds : List D} (h : W.m[c]? = some a) : Yld Γ W (Itl Γ.K a) ds [(c, ds)] := yld_listG (vs := []) fun W' S H l ok hg => by
  obtain ⟨ds', vs, h3, h4, h5⟩ := ok.cell (l.m _ _ h)
  have := hg _ (List.mem_singleton.mpr rfl)
  rw [h3] at this
  obtain rfl := Option.some.inj this
  exact ⟨vs, .inl (.inl h4), h5⟩
theorem yld_tup {W : Wd} {a : Addr} {vs : List V} {ds : List D} (h : SqT Γ.K W.F a vs) (r : Reps Γ W ds vs) : Yld Γ W (Itt Γ.K a) ds [] := fun W' S H l ok _ => by
  have q : SqT Γ.K H a vs := sqT_H ok.f (sqT_le l h)
  refine ⟨⟨vs, q, by rw [r.length]; exact Nat.le_refl _⟩, fun i d hd => ?_⟩
  obtain ⟨v, hv, rv⟩ := r.get hd
  exact ⟨⟨vs, v, q, hv⟩, fun x H' ⟨e1, e2⟩ => ⟨W', Le.refl _, by rw [e1]; exact ok, by
    have := e2 vs q
    rw [hv] at this
    obtain rfl := Option.some.inj this
    exact rv.mono l⟩⟩
def itRange1 (a : AF) : IF := fun es S => (a es S).bindI fun ds S1 => match ds with
  | [.int n] => if -(2 ^ 62) ≤ n ∧ n < 2 ^ 62 then .ok ((List.range n.toNat).map fun (i : Nat) => D.int i) [] S1 else .bad
  | _ => .bad
def itRange2 (a : AF) : IF := fun es S => (a es S).bindI fun ds S1 => match ds with
  | [.int m, .int n] => if (-(2 ^ 62) ≤ m ∧ m < 2 ^ 62) ∧ -(2 ^ 62) ≤ n ∧ n < 2 ^ 62 then .ok ((List.range (n - m).toNat).map fun (i : Nat) => D.int (m + i)) [] S1 else .bad
  | _ => .bad
theorem ContI.bindL {r : ResA} {k : List D → Store → ResI} {W : Wd} {R : It → Hp → Prop} {Q : List V → Hp → Prop} {E : XK} (h : ContI Γ (r.bindI k) W R E)
    (q : ∀ ds S1 W1 vs H1, Le W W1 → Ok Γ W1 S1 H1 → Reps Γ W1 ds vs → ContI Γ (k ds S1) W1 R E → Q vs H1) : ContA Γ r W Q E := by
  cases r with
  | ok ds S =>
    intro W1 vs H1 l o rs
    refine q ds S W1 vs H1 l o rs ?_
    have h : ContI Γ (k ds S) W R E := h
    unfold ContI at h ⊢
    split at h
    · exact fun W2 J H2 l2 => h W2 J H2 (l.trans l2)
    · exact fun W2 J H2 l2 => h W2 J H2 (l.trans l2)
    · exact h
  | exc c fs S => exact h
  | bad => exact h
theorem di_range1 {tg a : Expr} {fa : AF} {p pos : Pos} (ha : PA X [a] (dA Γ ξ fa E)) (hm : X.mg "range" = none) (hg : Gl X "range" := by rfl) (hs : starEach [a] X.env = [(false, eval a X.env)] := by rfl) : PI X tg (.Call (.Name "range" p) [a] [] pos) (dI Γ ξ (itRange1 fa) E) :=
  (pi_range1 hg hm ha hs).imp fun σ H R ⟨W, es, S, P0, ok, fr, h⟩ => ⟨W, es, S, P0, ok, fr, ContI.bindL h fun ds S1 W1 vs H1 l ok1 rs h1 => by
    split at h1
    · rename_i n
      simp only [Reps, Rep] at rs
      obtain ⟨_, _, rfl, rfl, rfl⟩ := rs
      split at h1
      · rename_i hn
        refine ⟨n, rfl, hn.1, hn.2, h1 W1 _ H1 (Le.refl _) ok1 ?_⟩
        have y := yld_range (Γ := Γ) (W := W1) (lo := 0) (n := n.toNat)
        simp only [Int.zero_add] at y
        exact y
      · exact h1.elim
    · exact h1.elim⟩
theorem di_range2 {tg a b : Expr} {fa : AF} {p pos : Pos} (ha : PA X [a, b] (dA Γ ξ fa E)) (hm : X.mg "range" = none) (hg : Gl X "range" := by rfl) (hs : starEach [a, b] X.env = [(false, eval a X.env), (false, eval b X.env)] := by rfl) (hs2 : starEach [b] X.env = [(false, eval b X.env)] := by rfl) :
    PI X tg (.Call (.Name "range" p) [a, b] [] pos) (dI Γ ξ (itRange2 fa) E) :=
  (pi_range2 hg hm ha hs hs2).imp fun σ H R ⟨W, es, S, P0, ok, fr, h⟩ => ⟨W, es, S, P0, ok, fr, ContI.bindL h fun ds S1 W1 vs H1 l ok1 rs h1 => by
    split at h1
    · rename_i m n
      simp only [Reps, Rep] at rs
      obtain ⟨_, _, rfl, rfl, _, _, rfl, rfl, rfl⟩ := rs
      split at h1
      · rename_i hn
        exact ⟨m, n, rfl, ⟨hn.1.1, hn.1.2, hn.2.1, hn.2.2⟩, h1 W1 _ H1 (Le.refl _) ok1 yld_range⟩
      · exact h1.elim
    · exact h1.elim⟩
end
end DL
set_option Elab.async false
set_option linter.all false
set_option maxRecDepth 100000
set_option maxHeartbeats 2000000
set_option autoImplicit false
/-! The data layer, 4: comprehensions, items, built-ins. -/
namespace DL
open PySem L2

section
variable {Γ : Pg} {ξ : Xx} {X : Cx} {E : WX}
/-! ### list comprehensions -/
theorem _root_.L2.PTs.imp {X : Cx} {ifs : List Expr} {t t' : TT} (h : PTs X ifs t) (q : ∀ σ H Q, t' σ H Q → t σ H Q) : PTs X ifs t' := ⟨fun pins s σ H Q I z => h.run pins s σ H Q I (q σ H Q z)⟩
def eYes : EF := fun _ S => .ok (.bl true) S
theorem dts_nil : PTs X [] (dT Γ ξ eYes E) := pts_nil.imp fun σ H Q ⟨W, es, S, P0, ok, fr, h⟩ => h W H (Le.refl W) ok
theorem dts_one {c : Expr} {f : EF} (h : PT X c (dT Γ ξ f E)) : PTs X [c] (dT Γ ξ f E) := pts_one h
def wipeD (es : List SD) : List Nat → List SD
  | [] => es
  | v :: vs => (wipeD es vs).set v .no
open Classical in
/-- q: the list may be changed later -/
noncomputable def lcL (q : Bool) (g : Gd) (t : TF) (c e : EF) (es : List SD) : List D → Store → List D → Res
  | [], S, acc => if g.ok S then if q = true then .ok (.cell S.length) (S ++ [acc]) else .ok (.lst acc) S else .bad
  | d :: ds, S, acc => if g.ok S then match t d es S with
    | none => .bad
    | some es1 => (c es1 S).nox.bind fun b S1 => match b with
      | .bl true => (e es1 S1).nox.bind fun y S2 => lcL q g t c e es ds S2 (acc ++ [y])
      | .bl false => lcL q g t c e es ds S1 acc
      | _ => .bad
    else .bad
noncomputable def eLc (q : Bool) (vs : List Nat) (it : IF) (t : TF) (c e : EF) : EF := fun es S => match it es S with
  | .ok ds g S1 => if ds.length < 1000000 ∧ noAcc es vs = true then lcL q g t c e (wipeD es vs) ds S1 [] else .bad
  | .exc k fs S1 => .exc k fs S1
  | .bad => .bad
/-- a list of the frame's own becomes a cell -/
theorem Ok.toCell {W : Wd} {S : Store} {H : Hp} {P1 : Hp} {A : Addr} {vs : List V} {ds : List D} (ok : Ok Γ W S H) (hA : W.P A = some (.lst vs)) (h1 : P1 A = none) (hP : ∀ a u, P1 a = some u → W.P a = some u) (r : Reps Γ W ds vs) : Ok Γ ⟨W.F, P1, W.m ++ [A]⟩ (S ++ [ds]) H ∧ LeS W ⟨W.F, P1, W.m ++ [A]⟩ ∧ Rep Γ ⟨W.F, P1, W.m ++ [A]⟩ (.cell S.length) (.ref A) := by
  have le : LeS W ⟨W.F, P1, W.m ++ [A]⟩ := ⟨fun _ _ h => h, fun i a h => by
    show (W.m ++ [A])[i]? = some a
    rw [List.getElem?_append_left (List.getElem?_eq_some_iff.mp h).1]
    exact h⟩
  have hm : ∀ (i : Nat) (a : Addr), W.m[i]? = some a → a ≠ A := fun i a h z => by
    have := (ok.m i a h).2
    rw [z, hA] at this
    cases this
  have at1 : ∀ (i : Nat) (a : Addr), (W.m ++ [A])[i]? = some a → (W.m[i]? = some a) ∨ (i = W.m.length ∧ a = A) := fun i a h => by
    by_cases hi : i < W.m.length
    · rw [List.getElem?_append_left hi] at h
      exact .inl h
    · rw [List.getElem?_append_right (Nat.le_of_not_lt hi)] at h
      have e : i - W.m.length = 0 := by
        have := (List.getElem?_eq_some_iff.mp h).1
        simp at this
        omega
      rw [e] at h
      simp at h
      exact .inr ⟨by omega, h.symm⟩
  have hHA := ok.p A _ hA
  refine ⟨⟨ok.f, fun a u e => ok.p a u (hP a u e), fun i a h => ?_, ?_, ?_, fun i a es q1 q2 => ?_⟩, le, ?_⟩
  · rcases at1 i a h with h | ⟨_, rfl⟩
    · refine ⟨(ok.m i a h).1, ?_⟩
      show P1 a = none
      cases e : P1 a with
      | none => rfl
      | some u =>
        have := hP a u e
        rw [(ok.m i a h).2] at this
        cases this
    · exact ⟨hHA.2, h1⟩
  · show (W.m ++ [A]).Nodup
    refine List.nodup_append.mpr ⟨ok.nd, by simp, fun a ha b hb => ?_⟩
    have hb : b = A := by simpa using hb
    subst hb
    obtain ⟨i, hi⟩ := List.getElem?_of_mem ha
    exact hm i a hi
  · show (W.m ++ [A]).length = _
    simp [ok.len]
  · rcases at1 i a q1 with h | ⟨hi, rfl⟩
    · have hl : i < S.length := by rw [← ok.len]; exact (List.getElem?_eq_some_iff.mp h).1
      rw [List.getElem?_append_left hl] at q2
      obtain ⟨us, h3, h4⟩ := ok.c i a es h q2
      exact ⟨us, h3, h4.mono le⟩
    · rw [List.getElem?_append_right (by rw [← ok.len, hi]; exact Nat.le_refl _)] at q2
      have e0 : i - S.length = 0 := by rw [← ok.len, hi]; exact Nat.sub_self _
      rw [e0] at q2
      simp at q2
      subst q2
      exact ⟨vs, hHA.1, r.mono le⟩
  · simp only [Rep]
    refine ⟨A, rfl, ?_⟩
    show (W.m ++ [A])[S.length]? = some A
    rw [← ok.len, List.getElem?_append_right (Nat.le_refl _)]
    simp
theorem SlotsR.setNo {W : Wd} : ∀ {es : List SD} {σ : L2.St} {own : List (Addr × HO)} (i : Nat), SlotsR Γ ξ W es σ own → (∀ ds, es[i]? ≠ some (.acc ds)) → SlotsR Γ ξ W (es.set i .no) (σ.set i none) own
  | [], σ, own, i, h, _ => by obtain ⟨rfl, rfl⟩ := h; exact ⟨rfl, rfl⟩
  | .no :: es, σ, own, i, h, hn => by
    obtain ⟨o, σ', rfl, h2⟩ := h
    cases i with
    | zero => exact ⟨none, σ', rfl, h2⟩
    | succ i => exact ⟨o, _, rfl, SlotsR.setNo i h2 (by simpa using hn)⟩
  | .val d0 :: es, σ, own, i, h, hn => by
    obtain ⟨v0, σ', rfl, h2, h3⟩ := h
    cases i with
    | zero => exact ⟨none, σ', rfl, h3⟩
    | succ i => exact ⟨v0, _, rfl, h2, SlotsR.setNo i h3 (by simpa using hn)⟩
  | .acc ds :: es, σ, own, i, h, hn => by
    obtain ⟨a, vs, σ', own0, rfl, rfl, h3, h4⟩ := h
    cases i with
    | zero => exact absurd rfl (hn ds)
    | succ i => exact ⟨a, vs, _, own0, rfl, rfl, h3, SlotsR.setNo i h4 (by simpa using hn)⟩
  | .exn k fs :: es, σ, own, i, h, hn => by
    obtain ⟨σ', rfl, h2, h3, h4⟩ := h
    cases i with
    | zero => exact ⟨none, σ', rfl, h4⟩
    | succ i => exact ⟨_, rfl, h2, h3, SlotsR.setNo i h4 (by simpa using hn)⟩
  | .slf :: es, σ, own, i, h, hn => by
    obtain ⟨σ', rfl, h4⟩ := h
    cases i with
    | zero => exact ⟨none, σ', rfl, h4⟩
    | succ i => exact ⟨_, rfl, SlotsR.setNo i h4 (by simpa using hn)⟩
theorem wipeD_acc {es : List SD} : ∀ {vs : List Nat} {j : Nat} {ds : List D}, (wipeD es vs)[j]? = some (.acc ds) → es[j]? = some (.acc ds)
  | [], j, ds, h => h
  | v :: vs, j, ds, h => by
    unfold wipeD at h
    by_cases e : v = j
    · subst e
      rw [List.getElem?_set] at h
      simp at h
    · rw [List.getElem?_set_ne e] at h
      exact wipeD_acc h
theorem SlotsR.wipe {W : Wd} {es : List SD} {σ : L2.St} {own : List (Addr × HO)} (h : SlotsR Γ ξ W es σ own) : ∀ {vs : List Nat}, (∀ j ∈ vs, ∀ ds, es[j]? ≠ some (.acc ds)) → SlotsR Γ ξ W (wipeD es vs) (L2.wipe σ vs) own
  | [], _ => h
  | v :: vs, hn => by
    unfold wipeD L2.wipe
    exact SlotsR.setNo v (SlotsR.wipe h fun j hj => hn j (List.mem_cons_of_mem _ hj)) fun ds e => hn v List.mem_cons_self ds (wipeD_acc e)
theorem wipe_get {σ : L2.St} {j : Nat} : ∀ {vs : List Nat}, (L2.wipe σ vs)[j]? = if j ∈ vs then (if j < σ.length then some none else none) else σ[j]?
  | [] => by simp [L2.wipe]
  | v :: vs => by
    unfold L2.wipe
    rw [List.getElem?_set, wipe_length]
    by_cases e : v = j
    · subst e
      simp
    · rw [if_neg e, wipe_get]
      have e' : ¬ j = v := fun z => e z.symm
      simp [e']
theorem wipe_eq {σ σ' : L2.St} {vs : List Nat} (hl : σ'.length = σ.length) (h : ∀ j, j ∉ vs → σ'[j]? = σ[j]?) : L2.wipe σ' vs = L2.wipe σ vs := by
  apply List.ext_getElem?
  intro j
  rw [wipe_get, wipe_get, hl]
  by_cases e : j ∈ vs
  · rw [if_pos e, if_pos e]
  · rw [if_neg e, if_neg e, h j e]
theorem wipe_wipe {σ : L2.St} {vs : List Nat} : L2.wipe (L2.wipe σ vs) vs = L2.wipe σ vs := by
  apply List.ext_getElem?
  intro j
  rw [wipe_get]
  by_cases e : j ∈ vs
  · rw [if_pos e, wipe_length, wipe_get, if_pos e]
  · rw [if_neg e]
theorem repsP (W : Wd) {P : Hp} {ds : List D} {vs : List V} (h : Reps Γ W ds vs) : Reps Γ { W with P := P } ds vs := Reps.mono (W := W) (W' := { W with P := P }) ⟨fun _ _ h => h, fun _ _ h => h⟩ h
abbrev E0 : WX := fun _ _ _ _ => False
theorem tLc_of {vs : List Nat} {q : Bool} {fi : IF} {t : TF} {ix : List Nat} {fc fe : EF} {σ : L2.St} {H : Hp} {Q : VK} (hix : ∀ j ∈ ix, j ∈ vs) (h : dE Γ ξ (eLc q vs fi t fc fe) E σ H Q) : tLc (dIQ Γ ξ fi E) (dG Γ ξ t ix) (dT Γ ξ fc E0) (dE Γ ξ fe E0) vs σ H Q := by
  obtain ⟨W, es, S, P0, ok, fr, h⟩ := h
  refine ⟨W, es, S, P0, ok, fr, ?_⟩
  unfold eLc at h
  cases e : fi es S with
  | bad => rw [e] at h; exact h.elim
  | exc k fs S1 => rw [e] at h; exact h
  | ok ds g S1 =>
    rw [e] at h
    simp only at h
    split at h
    case isFalse => exact h.elim
    rename_i hg
    obtain ⟨hsz, hna⟩ := hg
    have hn : ∀ j ∈ vs, ∀ ds, es[j]? ≠ some (.acc ds) := fun j hj => noAcc_at hna hj
    intro W1 J H1 l1 ok1 y A hA
    obtain ⟨hAF, hAP, hAm⟩ := ok1.fresh hA
    have h := Cont.le h l1
    refine ⟨fun i m H => m = ds.length - i ∧ i ≤ ds.length ∧ ∃ W' S' acc vs', LeS W1 W' ∧ W'.P = upd W1.P A (.lst vs') ∧ Ok Γ W' S' H ∧ Reps Γ W' acc vs' ∧ acc.length ≤ i ∧ Cont Γ (lcL q g t fc fe (wipeD es vs) (ds.drop i) S' acc) { W' with P := W1.P } Q (at_ E σ), ?_, ?_⟩
    · refine ⟨ds.length, by simp, Nat.zero_le _, { W1 with P := upd W1.P A (.lst []) }, S1, [], [], ⟨fun _ _ h => h, fun _ _ h => h⟩, rfl, ?_, Reps.nil, Nat.le_refl _, by rw [List.drop_zero]; exact h⟩
      refine ⟨fun a u q => ?_, fun a u q => ?_, fun i a q => ⟨(ok1.m i a q).1, ?_⟩, ok1.nd, ok1.len, fun i a es q1 q2 => ?_⟩
      · rw [upd_ne (ne_of_none (show W1.F a = some u from q) hAF)]
        exact ok1.f a u q
      · by_cases z : a = A
        · subst z
          have q : upd W1.P a (.lst []) a = some u := q
          rw [upd_same] at q ⊢
          exact ⟨q, hAF⟩
        · have q : upd W1.P A (.lst []) a = some u := q
          rw [upd_ne z] at q ⊢
          exact ok1.p a u q
      · show upd W1.P A (.lst []) a = none
        rw [upd_ne (hAm i a q)]
        exact (ok1.m i a q).2
      · obtain ⟨us, q3, q4⟩ := ok1.c i a es q1 q2
        exact ⟨us, by rw [upd_ne (hAm i a q1)]; exact q3, repsP W1 q4⟩
    rintro i m H ⟨rfl, hi, W2, S2, acc, vs', l2, hP2, ok2, ra, hac, h2⟩
    have lQ : LeQ W1 W2 := ⟨l2, fun a u e => by
      rw [hP2, upd_ne (ne_of_none e hAP)]
      exact e⟩
    by_cases hgd : g.ok S2
    case neg =>
      by_cases hlt : i < ds.length
      · rw [List.drop_eq_getElem_cons hlt, lcL, if_neg hgd] at h2
        exact h2.elim
      · rw [List.drop_of_length_le (by omega), lcL, if_neg hgd] at h2
        exact h2.elim
    obtain ⟨y1, y2⟩ := y W2 S2 H lQ ok2 hgd
    have hH : H A = some (.lst vs') := (ok2.p A _ (by rw [hP2]; exact upd_same)).1
    by_cases hlt : i < ds.length
    · right
      obtain ⟨g1, g2⟩ := y2 i ds[i] (List.getElem?_eq_getElem hlt)
      refine ⟨g1, fun H => i + 1 ≤ ds.length ∧ ∃ W' S' acc vs', LeS W1 W' ∧ W'.P = upd W1.P A (.lst vs') ∧ Ok Γ W' S' H ∧ Reps Γ W' acc vs' ∧ acc.length ≤ i + 1 ∧ Cont Γ (lcL q g t fc fe (wipeD es vs) (ds.drop (i + 1)) S' acc) { W' with P := W1.P } Q (at_ E σ),
        fun H' q => ⟨ds.length - (i + 1), by omega, rfl, q⟩, fun x H' yl => ?_⟩
      obtain ⟨W3, l3, ok3, r3⟩ := g2 x H' yl
      rw [List.drop_eq_getElem_cons hlt, lcL, if_pos hgd] at h2
      cases ht : t ds[i] (wipeD es vs) S2 with
      | none => rw [ht] at h2; exact h2.elim
      | some es3 =>
        rw [ht] at h2
        simp only at h2
        obtain ⟨own, fr1, fr2⟩ := fr
        have fr3 : Frame Γ ξ W3 (wipeD es vs) (L2.wipe σ vs) (upd P0 A (.lst vs')) := by
          refine ⟨own, SlotsR.mono ((l1.s.trans l2).trans l3.s) (SlotsR.wipe fr1 hn), fr2.nd, fun p hp => ?_, fun a ha => ?_⟩
          · obtain ⟨q1, q2⟩ := fr2.at_ p hp
            have nA : p.1 ≠ A := fun z => by
              have q3 : W1.P p.1 = some p.2 := by rw [l1.p]; exact q2
              rw [z, hAP] at q3
              cases q3
            refine ⟨by rw [upd_ne nA]; exact q1, ?_⟩
            rw [l3.p, hP2, upd_ne nA, l1.p]
            exact q2
          · rw [l3.p, hP2]
            by_cases z : a = A
            · rw [z, upd_same, upd_same]
            · rw [upd_ne z, upd_ne z, l1.p]
              exact fr2.rest a ha
        refine ⟨W3, wipeD es vs, S2, upd P0 A (.lst vs'), ds[i], es3, ok3, fr3, r3, ht, fun W4 σ4 st ok4 fr4 => ?_⟩
        have hna' : noAcc (wipeD es vs) ix = true := noAcc_of fun j hj ds q => hn j (hix j hj) ds (wipeD_acc q)
        obtain rfl := st.same hna'
        refine ⟨?_, ?_⟩
        · rw [wipe_eq st.len fun j hj => st.out j fun q => hj (hix j q), wipe_wipe]
        refine ⟨W4, es3, S2, _, ok4, fr4, ?_⟩
        have l23 : Le { W2 with P := W1.P } { W4 with P := W1.P } := ⟨l3.f, rfl, l3.m⟩
        cases ec : fc es3 S2 with
        | bad => rw [ec] at h2; exact h2.elim
        | exc k fs S' => rw [ec] at h2; exact h2.elim
        | ok b S5 =>
          rw [ec] at h2
          simp only [Res.nox, Res.bind] at h2
          cases b with
          | bl b =>
            intro W5 H5 l5 ok5
            have l25 : Le { W2 with P := W1.P } { W5 with P := W1.P } := l23.trans ⟨l5.f, rfl, l5.m⟩
            have hP5 : W5.P = upd W1.P A (.lst vs') := by rw [l5.p, l3.p, hP2]
            cases b with
            | false =>
              rw [if_neg Bool.false_ne_true]
              simp only at h2
              exact ⟨hlt, W5, S5, acc, vs', l2.trans (l3.s.trans l5.s), hP5, ok5, ra.mono (l3.s.trans l5.s), Nat.le_succ_of_le hac, Cont.le h2 l25⟩
            | true =>
              rw [if_pos rfl]
              simp only at h2
              refine ⟨W5, es3, S5, _, ok5, fr4.le l5, ?_⟩
              cases ee : fe es3 S5 with
              | bad => rw [ee] at h2; exact h2.elim
              | exc k fs S' => rw [ee] at h2; exact h2.elim
              | ok d6 S6 =>
                rw [ee] at h2
                simp only [Res.nox, Res.bind] at h2
                intro W6 v6 H6 l6 ok6 r6
                have hP6 : W6.P = upd W1.P A (.lst vs') := by rw [l6.p, hP5]
                have hH6 : H6 A = some (.lst vs') ∧ W6.F A = none := ok6.p A _ (by rw [hP6]; exact upd_same)
                refine ⟨vs', hH6.1, ?_, hlt, { W6 with P := upd W1.P A (.lst (vs' ++ [v6])) }, S6, acc ++ [d6], vs' ++ [v6], ⟨fun a u q => ?_, fun i a q => ?_⟩, rfl, ?_, ?_, by simp; omega, ?_⟩
                · rw [ra.length, sizeLine_eq]
                  omega
                · exact l6.f _ _ (l5.f _ _ (l3.f _ _ (l2.f _ _ q)))
                · exact l6.m _ _ (l5.m _ _ (l3.m _ _ (l2.m _ _ q)))
                · refine ⟨fun a u q => ?_, fun a u q => ?_, fun i a q => ⟨(ok6.m i a q).1, ?_⟩, ok6.nd, ok6.len, fun i a es q1 q2 => ?_⟩
                  · rw [upd_ne (ne_of_none (show W6.F a = some u from q) hH6.2)]
                    exact ok6.f a u q
                  · by_cases z : a = A
                    · subst z
                      have q : upd W1.P a (.lst (vs' ++ [v6])) a = some u := q
                      rw [upd_same] at q ⊢
                      exact ⟨q, hH6.2⟩
                    · have q : upd W1.P A (.lst (vs' ++ [v6])) a = some u := q
                      rw [upd_ne z] at q ⊢
                      exact ok6.p a u (by rw [hP6, upd_ne z]; exact q)
                  · have q3 := (ok6.m i a q).2
                    show upd W1.P A (.lst (vs' ++ [v6])) a = none
                    have nA : a ≠ A := fun z => by
                      rw [z, hP6, upd_same] at q3
                      cases q3
                    rw [hP6, upd_ne nA] at q3
                    rw [upd_ne nA]
                    exact q3
                  · have q3 := (ok6.m i a q1).2
                    have nA : a ≠ A := fun z => by
                      rw [z, hP6, upd_same] at q3
                      cases q3
                    obtain ⟨us, q4, q5⟩ := ok6.c i a es q1 q2
                    exact ⟨us, by rw [upd_ne nA]; exact q4, repsP W6 q5⟩
                · exact repsP W6 ((ra.mono (l3.s.trans (l5.s.trans l6.s))).append (Reps.cons r6 Reps.nil))
                · exact Cont.le h2 (l25.trans ⟨l6.f, rfl, l6.m⟩)
          | _ => exact h2.elim
    · left
      have e2 : i = ds.length := by omega
      subst e2
      rw [List.drop_length, lcL, if_pos hgd] at h2
      by_cases hq : q = true
      · rw [if_pos hq] at h2
        obtain ⟨k1, k2, k3⟩ := ok2.toCell (P1 := W1.P) (A := A) (vs := vs') (ds := acc) (by rw [hP2]; exact upd_same) hAP (fun a u e => by rw [hP2, upd_ne (ne_of_none e hAP)]; exact e) ra
        exact ⟨y1, h2 _ _ H ⟨k2.f, rfl, k2.m⟩ k1 k3⟩
      rw [if_neg hq] at h2
      refine ⟨y1, h2 { W2 with F := upd W2.F A (.lst vs'), P := W1.P } _ H ⟨fun a u q => ?_, rfl, fun _ _ q => q⟩ ?_ ?_⟩
      · have n : W2.F A = none := (ok2.p A _ (by rw [hP2]; exact upd_same)).2
        show upd W2.F A (.lst vs') a = some u
        rw [upd_ne (ne_of_none (show W2.F a = some u from q) n)]
        exact q
      · have n : W2.F A = none := (ok2.p A _ (by rw [hP2]; exact upd_same)).2
        have lF : LeS W2 { W2 with F := upd W2.F A (.lst vs'), P := W1.P } := ⟨fun a u q => by
          show upd W2.F A (.lst vs') a = some u
          rw [upd_ne (ne_of_none (show W2.F a = some u from q) n)]
          exact q, fun _ _ q => q⟩
        have hnA : ∀ (i : Nat) (a : Addr), W2.m[i]? = some a → a ≠ A := fun i a q z => by
          have q3 := (ok2.m i a q).2
          rw [z, hP2, upd_same] at q3
          cases q3
        refine ⟨fun a u q => ?_, fun a u q => ?_, fun i a q => ?_, ok2.nd, ok2.len, fun i a es q1 q2 => ?_⟩
        · by_cases z : a = A
          · subst z
            have q : upd W2.F a (.lst vs') a = some u := q
            rw [upd_same] at q
            rw [hH]
            exact q
          · have q : upd W2.F A (.lst vs') a = some u := q
            rw [upd_ne z] at q
            exact ok2.f a u q
        · have q : W1.P a = some u := q
          have z : a ≠ A := ne_of_none q hAP
          have q2 := ok2.p a u (by rw [hP2, upd_ne z]; exact q)
          refine ⟨q2.1, ?_⟩
          show upd W2.F A (.lst vs') a = none
          rw [upd_ne z]
          exact q2.2
        · have z := hnA i a q
          refine ⟨?_, ?_⟩
          · show upd W2.F A (.lst vs') a = none
            rw [upd_ne z]
            exact (ok2.m i a q).1
          · have q3 := (ok2.m i a q).2
            rw [hP2, upd_ne z] at q3
            exact q3
        · obtain ⟨us, q4, q5⟩ := ok2.c i a es q1 q2
          exact ⟨us, q4, q5.mono lF⟩
      · have n : W2.F A = none := (ok2.p A _ (by rw [hP2]; exact upd_same)).2
        simp only [Rep]
        refine ⟨A, vs', rfl, .inl (.inl upd_same), Reps.mono (W := W2) (W' := { W2 with F := upd W2.F A (.lst vs'), P := W1.P }) ⟨fun a u q => ?_, fun _ _ q => q⟩ ra⟩
        show upd W2.F A (.lst vs') a = some u
        rw [upd_ne (ne_of_none (show W2.F a = some u from q) n)]
        exact q
theorem de_lc {elt tg iter : Expr} {ifs : List Expr} {scope : Scope} {own : List (Str × Nat)} {pos : Pos} {q : Bool} {fi : IF} {t : TF} {ix : List Nat} {fc fe : EF} (hc : X.calm = true) (hN : X.N.Nodup) (hi : PI X tg iter (dIQ Γ ξ fi E)) (ok : BlkOk X.N X.env.scope scope own)
    (hg : ∀ (s : Shared) (H : Hp) (C : Addr) (cl : List (Str × Addr)) (fp : List Addr), PG (X.blk s H scope (PySem.compEnvC scope cl C X.env) fp) tg (dG Γ ξ t ix)) (ht : ∀ (s : Shared) (H : Hp) (C : Addr) (cl : List (Str × Addr)) (fp : List Addr), PTs (X.blk s H scope (PySem.compEnvC scope cl C X.env) fp) ifs (dT Γ ξ fc E0))
    (he : ∀ (s : Shared) (H : Hp) (C : Addr) (cl : List (Str × Addr)) (fp : List Addr), PE (X.blk s H scope (PySem.compEnvC scope cl C X.env) fp) elt (dE Γ ξ fe E0)) (hix : ∀ j ∈ ix, j ∈ own.map (·.2) := by decide) (hs : ∀ x, foldedSetIterable iter X.env x = pure x := by intro _; rfl) :
    PE X (.ListComp elt [⟨tg, iter, ifs, 0⟩] scope pos) (dE Γ ξ (eLc q (own.map (·.2)) fi t fc fe) E) := (pe_lc hc hN hi ok hg ht he hs).imp fun σ H Q h => tLc_of hix h
theorem ds_setLc {i : Nat} {y : Str} {py : Pos} {elt tg iter : Expr} {ifs : List Expr} {scope : Scope} {own : List (Str × Nat)} {pos spos : Pos} {q : Bool} {fi : IF} {t : TF} {ix : List Nat} {fc fe : EF} (hc : X.calm = true) (hN : X.N.Nodup) (hi : PI X tg iter (dIQ Γ ξ fi E)) (ok : BlkOk X.N X.env.scope scope own)
    (hg : ∀ (s : Shared) (H : Hp) (C : Addr) (cl : List (Str × Addr)) (fp : List Addr), PG (X.blk s H scope (PySem.compEnvC scope cl C X.env) fp) tg (dG Γ ξ t ix)) (ht : ∀ (s : Shared) (H : Hp) (C : Addr) (cl : List (Str × Addr)) (fp : List Addr), PTs (X.blk s H scope (PySem.compEnvC scope cl C X.env) fp) ifs (dT Γ ξ fc E0))
    (he : ∀ (s : Shared) (H : Hp) (C : Addr) (cl : List (Str × Addr)) (fp : List Addr), PE (X.blk s H scope (PySem.compEnvC scope cl C X.env) fp) elt (dE Γ ξ fe E0))
    (P : PS X (.Assign [.Name y py] (.ListComp elt [⟨tg, iter, ifs, 0⟩] scope pos) spos) (tAsg (tLc (dIQ Γ ξ fi E) (dG Γ ξ t ix) (dT Γ ξ fc E0) (dE Γ ξ fe E0) (own.map (·.2))) (gName i))) (hix : ∀ j ∈ ix, j ∈ own.map (·.2) := by decide) :
    PS X (.Assign [.Name y py] (.ListComp elt [⟨tg, iter, ifs, 0⟩] scope pos) spos) (dS Γ ξ (sAsg (tgN i) (eLc q (own.map (·.2)) fi t fc fe)) E) := P.imp fun Dn σ H ⟨W, es, S, P0, ok, fr, h⟩ =>
  tLc_of hix ⟨W, es, S, P0, ok, fr, ContS.toS fr h fun d S1 W1 v H1 le ok1 rv h1 => by
    obtain ⟨W', e, ok', fr'⟩ := Frame.set ok1 (fr.le le) rv i
    exact h1 W' _ H1 e.le ok' fr'⟩
end
end DL
set_option Elab.async false
set_option linter.all false
set_option maxRecDepth 100000
set_option maxHeartbeats 2000000
set_option autoImplicit false
/-! The data layer, 5: what may be read of the frame's own lists, items, built-ins, the frame's own lists grown, cells stored. -/
namespace DL
open PySem L2

section
variable {Γ : Pg} {ξ : Xx} {X : Cx} {E : WX}
/-! ### a value that is only read -/
def RepT (Γ : Pg) (W : Wd) (d : D) (v : V) : Prop := Rep Γ W d v ∨ ∃ a vs ds, d = .lst ds ∧ v = .ref a ∧ W.P a = some (.lst vs) ∧ Reps Γ W ds vs
theorem RepT.mono {W W' : Wd} {d : D} {v : V} (h : RepT Γ W d v) (l : Le W W') : RepT Γ W' d v := by
  rcases h with h | ⟨a, vs, ds, h1, h2, h3, h4⟩
  · exact .inl (h.mono l.s)
  · exact .inr ⟨a, vs, ds, h1, h2, by rw [l.p]; exact h3, h4.mono l.s⟩
def ContV (Γ : Pg) (r : Res) (W : Wd) (Q : VK) (E : XK) : Prop := match r with
  | .ok d S => ∀ W' v H', Le W W' → Ok Γ W' S H' → RepT Γ W' d v → Q v H'
  | .exc k fs S => ∀ W' d H', Le W W' → Ok Γ W' S H' → RepX (Γ := Γ) W' fs d → E (.ref (Γ.cl k)) d H'
  | .bad => False
def dV (Γ : Pg) (ξ : Xx) (f : EF) (E : WX) : TE := fun σ H Q => ∃ W es S P0, Ok Γ W S H ∧ Frame Γ ξ W es σ P0 ∧ ContV Γ (f es S) W Q (at_ E σ)
theorem dv_of {e : Expr} {f : EF} (h : PE X e (dE Γ ξ f E)) : PE X e (dV Γ ξ f E) := h.imp fun σ H Q ⟨W, es, S, P0, ok, fr, h⟩ => ⟨W, es, S, P0, ok, fr, by
  cases e : f es S with
  | ok d S => rw [e] at h; exact fun W' v H' l o r => h W' v H' l o (.inl r)
  | exc k fs S => rw [e] at h; exact h
  | bad => rw [e] at h; exact h⟩
def eVarT (i : Nat) : EF := fun es S => match es[i]? with
  | some (.val d) => .ok d S
  | some (.acc ds) => .ok (.lst ds) S
  | _ => .bad
theorem dv_var (i : Nat) {x : Str} {pos : Pos} (hN : X.N[i]? = some x := by rfl) (hv : Vis X.env.scope x := by first | exact Or.inl rfl | exact Or.inr (Or.inl rfl) | exact Or.inr (Or.inr rfl)) (hd : (x == ("__debug__" : Str)) = false := by decide)
    (hcd : (x == ("__classdict__" : Str)) = false := by decide) : PE X (.Name x pos) (dV Γ ξ (eVarT i) E) := (pe_var hN hv hd hcd).imp fun σ H Q ⟨W, es, S, P0, ok, ⟨own, fr, o⟩, h⟩ => by
  unfold eVarT at h
  cases hi : es[i]? with
  | none => rw [hi] at h; exact h.elim
  | some sd =>
    rw [hi] at h
    cases sd with
    | no => exact h.elim
    | exn k fs => exact h.elim
    | slf => exact h.elim
    | acc ds =>
      obtain ⟨a, vs, h1, h2, h3⟩ := fr.acc hi
      exact ⟨.ref a, h1, h W _ H (Le.refl W) ok (.inr ⟨a, vs, ds, rfl, rfl, (o.at_ _ h3).2, h2⟩)⟩
    | val d =>
      obtain ⟨v, h1, h2⟩ := fr.val hi
      exact ⟨v, h1, h W v H (Le.refl W) ok (.inl h2)⟩
theorem ContV.bind {r : Res} {k : D → Store → Res} {W : Wd} {Q Q1 : VK} {E : XK} (h : Cont Γ (r.bind k) W Q E)
    (q : ∀ d S1 W1 v H1, Le W W1 → Ok Γ W1 S1 H1 → RepT Γ W1 d v → Cont Γ (k d S1) W1 Q E → Q1 v H1) : ContV Γ r W Q1 E := by
  cases r with
  | ok d S => exact fun W1 v H1 l o r => q d S W1 v H1 l o r (Cont.le h l)
  | exc c fs S => exact h
  | bad => exact h
def rV2 (Γ : Pg) (g : D → D → Store → Res) : R2 := fun x y H Q => ∃ W S a b, Ok Γ W S H ∧ RepT Γ W a x ∧ Rep Γ W b y ∧ Cont Γ (g a b S) W Q (fun _ _ _ => False)
theorem tOpV_of {g : D → D → Store → Res} {fa fb : EF} {σ : L2.St} {H : Hp} {Q : VK} (h : dE Γ ξ (eOp2 g fa fb) E σ H Q) : tOp (rV2 Γ g) (dV Γ ξ fa E) (dE Γ ξ fb E) σ H Q := by
  obtain ⟨W, es, S, P0, ok, fr, h⟩ := h
  refine ⟨W, es, S, P0, ok, fr, ContV.bind h fun d S1 W1 v H1 le ok1 rv h1 => ?_⟩
  refine ⟨W1, es, S1, P0, ok1, fr.le le, h1.bind fun d2 S2 W2 v2 H2 le2 ok2 rv2 h2 => ?_⟩
  exact ⟨W2, S2, d, d2, ok2, rv.mono le2, rv2, h2.nox⟩
/-- read as a list -/
theorem asL {W : Wd} {S : Store} {H : Hp} {d : D} {ds : List D} {v : V} (ok : Ok Γ W S H) (r : RepT Γ W d v) (h : deref S d = .lst ds) : ∃ a vs, v = .ref a ∧ SqL Γ.K H a vs ∧ Reps Γ W ds vs := by
  rcases r with r | ⟨a, vs, ds', rfl, rfl, h3, h4⟩
  · cases d with
    | cell i =>
      simp only [Rep] at r
      obtain ⟨a, rfl, h2⟩ := r
      obtain ⟨ds', vs, h3, h4, h5⟩ := ok.cell h2
      simp only [deref, h3] at h
      cases h
      exact ⟨a, vs, rfl, .inl (.inl h4), h5⟩
    | lst ds' =>
      cases h
      simp only [Rep] at r
      obtain ⟨a, vs, rfl, h1, h2⟩ := r
      exact ⟨a, vs, rfl, sqL_H ok.f h1, h2⟩
    | _ => cases h
  · cases h
    exact ⟨a, vs, rfl, .inl (.inl (ok.p _ _ h3).1), h4⟩
theorem asT {W : Wd} {S : Store} {H : Hp} {d : D} {ds : List D} {v : V} (ok : Ok Γ W S H) (r : RepT Γ W d v) (h : deref S d = .tup ds) : ∃ a vs, v = .ref a ∧ SqT Γ.K H a vs ∧ Reps Γ W ds vs := by
  rcases r with r | ⟨a, vs, ds', rfl, rfl, h3, h4⟩
  · cases d with
    | cell i =>
      simp only [deref] at h
      split at h <;> cases h
    | tup ds' =>
      cases h
      simp only [Rep] at r
      obtain ⟨a, vs, rfl, h1, h2⟩ := r
      exact ⟨a, vs, rfl, sqT_H ok.f h1, h2⟩
    | _ => cases h
  · cases h
theorem asS {W : Wd} {S : Store} {d : D} {z : Str} {v : V} (r : RepT Γ W d v) (h : deref S d = .str z) : v = .str z := by
  rcases r with r | ⟨a, vs, ds', rfl, rfl, h3, h4⟩
  · cases d with
    | cell i =>
      simp only [deref] at h
      split at h <;> cases h
    | str y => cases h; simpa only [Rep] using r
    | _ => cases h
  · cases h

/-! ### items -/
theorem Reps.atI {W : Wd} {ds : List D} {vs : List V} {i : Int} {d : D} (r : Reps Γ W ds vs) (h : L2.atI ds i = some d) : ∃ v, L2.atI vs i = some v ∧ Rep Γ W d v := by
  unfold L2.atI at h ⊢
  rw [r.length]
  rw [Option.bind_eq_some_iff] at h
  obtain ⟨j, h1, h2⟩ := h
  obtain ⟨v, h3, h4⟩ := r.get h2
  exact ⟨v, by rw [h1]; exact h3, h4⟩
def gIx : D → D → Store → Res := fun x y S => match deref S x, y with
  | .lst ds, .int i => match L2.atI ds i with
    | some d => .ok d S
    | none => .bad
  | .tup ds, .int i => match L2.atI ds i with
    | some d => .ok d S
    | none => .bad
  | .str z, .int i => match L2.atI z.cps.toList i with
    | some c => if z.length ≤ 16777216 then .ok (.str ⟨#[c]⟩) S else .bad
    | none => .bad
  | _, _ => .bad
theorem ix_gIx (hK : X.K = Γ.K) : IxR X (rV2 Γ gIx) := by
  intro value slice pins s σ H x y v u Q I rx ry ⟨W, S, a, b, ok, ra, rb, h⟩ hs
  unfold gIx at h
  split at h
  · rename_i ds i hd
    simp only [Rep] at rb
    subst rb
    obtain ⟨p, vs, rfl, h1, h2⟩ := asL ok ra hd
    split at h
    · rename_i d hi
      obtain ⟨w, h3, h4⟩ := h2.atI hi
      exact ix_list value slice pins s σ H _ _ v u Q I rx ry ⟨p, vs, i, w, rfl, rfl, by rw [hK]; exact h1, h3, h W _ H (Le.refl W) ok h4⟩ hs
    · exact h.elim
  · rename_i ds i hd
    simp only [Rep] at rb
    subst rb
    obtain ⟨p, vs, rfl, h1, h2⟩ := asT ok ra hd
    split at h
    · rename_i d hi
      obtain ⟨w, h3, h4⟩ := h2.atI hi
      exact ix_tup value slice pins s σ H _ _ v u Q I rx ry ⟨p, vs, i, w, rfl, rfl, by rw [hK]; exact h1, h3, h W _ H (Le.refl W) ok h4⟩ hs
    · exact h.elim
  · rename_i z i hd
    simp only [Rep] at rb
    subst rb
    obtain rfl := asS ra hd
    split at h
    · rename_i c hi
      split at h
      · rename_i hz
        exact ix_str value slice pins s σ H _ _ v u Q I rx ry ⟨z, i, c, rfl, rfl, by rw [sizeLine_eq]; exact hz, hi, h W _ H (Le.refl W) ok (by simp only [Rep])⟩ hs
      · exact h.elim
    · exact h.elim
  · exact h.elim
theorem de_ix {a b : Expr} {fa fb : EF} {pos : Pos} (hK : X.K = Γ.K) (ha : PE X a (dV Γ ξ fa E)) (hb : PE X b (dE Γ ξ fb E)) (hs : PlainIx b := by exact fun _ _ => rfl) : PE X (.Subscript a b pos) (dE Γ ξ (eOp2 gIx fa fb) E) := (pe_ix (ix_gIx hK) ha hb hs).imp fun σ H Q h => tOpV_of h

/-! ### calls of built-ins -/
def rC1 (Γ : Pg) (g : D → Store → Res) : List V → Hp → VK → Prop := fun vs H Q => ∃ x W S d, vs = [x] ∧ Ok Γ W S H ∧ RepT Γ W d x ∧ Cont Γ (g d S) W Q (fun _ _ _ => False)
theorem tC1_of {g : D → Store → Res} {f : EF} {σ : L2.St} {H : Hp} {Q : VK} (h : dE Γ ξ (eOp1 g f) E σ H Q) : tCB (rC1 Γ g) (tCons (dV Γ ξ f E) tNil) σ H Q := by
  obtain ⟨W, es, S, P0, ok, fr, h⟩ := h
  exact ⟨W, es, S, P0, ok, fr, ContV.bind h fun d S1 W1 v H1 le ok1 rv h1 => ⟨v, W1, S1, d, rfl, ok1, rv, h1.nox⟩⟩
section
variable {x : Str} {p pos : Pos} {a b : Expr} {f fa fb : EF} {id T : String}
theorem de_b1 {g : D → Store → Res} (hc : CallR X (.builtin id) (rC1 Γ g)) (hm : X.mg x = none) (hv : bootBuiltins x = some (.builtin id)) (ha : PE X a (dV Γ ξ f E)) (hg : Gl X x := by rfl) (hn : x ≠ "__name__" := by decide) (hdb : (x == ("__debug__" : Str)) = false := by decide)
    (he : starEach (a :: []) X.env = (false, eval a X.env) :: starEach [] X.env := by rfl) (hpl : (backTo pos (starEach [] X.env)).any (·.1) = false := by rfl) : PE X (.Call (.Name x p) [a] [] pos) (dE Γ ξ (eOp1 g f) E) :=
  (pe_callB hc hg hm hv (pa_cons ha pa_nil he) hn hdb (he := he) (hpl := hpl)).imp fun σ H Q h => tC1_of h
theorem de_t1 {g : D → Store → Res} (hc : CallR X (.type T) (rC1 Γ g)) (hm : X.mg x = none) (hv : bootBuiltins x = some (.type T)) (ha : PE X a (dV Γ ξ f E)) (hg : Gl X x := by rfl) (hn : x ≠ "__name__" := by decide) (hdb : (x == ("__debug__" : Str)) = false := by decide)
    (he : starEach (a :: []) X.env = (false, eval a X.env) :: starEach [] X.env := by rfl) (hpl : (backTo pos (starEach [] X.env)).any (·.1) = false := by rfl) : PE X (.Call (.Name x p) [a] [] pos) (dE Γ ξ (eOp1 g f) E) :=
  (pe_callTy hc hg hm hv (pa_cons ha pa_nil he) hn hdb (he := he) (hpl := hpl)).imp fun σ H Q h => tC1_of h
def rC2 (Γ : Pg) (g : D → D → Store → Res) : List V → Hp → VK → Prop := fun vs H Q => ∃ x y W S a b, vs = [x, y] ∧ Ok Γ W S H ∧ Rep Γ W a x ∧ Rep Γ W b y ∧ Cont Γ (g a b S) W Q (fun _ _ _ => False)
theorem tC2_of {g : D → D → Store → Res} {σ : L2.St} {H : Hp} {Q : VK} (h : dE Γ ξ (eOp2 g fa fb) E σ H Q) : tCB (rC2 Γ g) (tCons (dE Γ ξ fa E) (tCons (dE Γ ξ fb E) tNil)) σ H Q := by
  obtain ⟨W, es, S, P0, ok, fr, h⟩ := h
  refine ⟨W, es, S, P0, ok, fr, h.bind fun d S1 W1 v H1 le ok1 rv h1 => ?_⟩
  exact ⟨W1, es, S1, P0, ok1, fr.le le, h1.bind fun d2 S2 W2 v2 H2 le2 ok2 rv2 h2 => ⟨v, v2, W2, S2, d, d2, rfl, ok2, rv.mono le2.s, rv2, h2.nox⟩⟩
theorem de_b2 {g : D → D → Store → Res} (hc : CallR X (.builtin id) (rC2 Γ g)) (hm : X.mg x = none) (hv : bootBuiltins x = some (.builtin id)) (ha : PE X a (dE Γ ξ fa E)) (hb : PE X b (dE Γ ξ fb E)) (hg : Gl X x := by rfl) (hn : x ≠ "__name__" := by decide) (hdb : (x == ("__debug__" : Str)) = false := by decide)
    (he : starEach (a :: [b]) X.env = (false, eval a X.env) :: starEach [b] X.env := by rfl) (he2 : starEach (b :: []) X.env = (false, eval b X.env) :: starEach [] X.env := by rfl) (hpl : (backTo pos (starEach [b] X.env)).any (·.1) = false := by rfl) : PE X (.Call (.Name x p) [a, b] [] pos) (dE Γ ξ (eOp2 g fa fb) E) :=
  (pe_callB hc hg hm hv (pa_cons ha (pa_cons hb pa_nil he2) he) hn hdb (he := he) (hpl := hpl)).imp fun σ H Q h => tC2_of h
end
def gLen : D → Store → Res := fun x S => match deref S x with
  | .lst ds => .ok (.int ds.length) S
  | .tup ds => .ok (.int ds.length) S
  | .str z => if z.length ≤ 16777216 then .ok (.int z.length) S else .bad
  | _ => .bad
theorem cr_len (hK : X.K = Γ.K) : CallR X (.builtin "len") (rC1 Γ gLen) := by
  intro pins s σ H vs us Q I r ⟨x, W, S, d, e, ok, rd, h⟩
  subst e
  unfold gLen at h
  split at h
  · rename_i ds hd
    obtain ⟨p, vs, rfl, h1, h2⟩ := asL ok rd hd
    exact call_len_seq pins s σ H _ us Q I r ⟨p, vs, rfl, .inl (by rw [hK]; exact h1), by rw [h2.length]; exact h W _ H (Le.refl W) ok (by simp only [Rep])⟩
  · rename_i ds hd
    obtain ⟨p, vs, rfl, h1, h2⟩ := asT ok rd hd
    exact call_len_seq pins s σ H _ us Q I r ⟨p, vs, rfl, .inr (by rw [hK]; exact h1), by rw [h2.length]; exact h W _ H (Le.refl W) ok (by simp only [Rep])⟩
  · rename_i z hd
    obtain rfl := asS rd hd
    split at h
    · rename_i hz
      exact call_len_str pins s σ H _ us Q I r ⟨z, rfl, by rw [sizeLine_eq]; exact hz, h W _ H (Le.refl W) ok (by simp only [Rep])⟩
    · exact h.elim
  · exact h.elim
def gAbs : D → Store → Res := fun x S => match x with
  | .int i => .ok (.int (if i < 0 then -i else i)) S
  | _ => .bad
theorem RepT.int {W : Wd} {i : Int} {v : V} (r : RepT Γ W (.int i) v) : v = .int i := by
  rcases r with r | ⟨a, vs, ds', h, _⟩
  · simpa only [Rep] using r
  · cases h
theorem RepT.str {W : Wd} {i : Str} {v : V} (r : RepT Γ W (.str i) v) : v = .str i := by
  rcases r with r | ⟨a, vs, ds', h, _⟩
  · simpa only [Rep] using r
  · cases h
theorem cr_abs : CallR X (.builtin "abs") (rC1 Γ gAbs) := by
  intro pins s σ H vs us Q I r ⟨x, W, S, d, e, ok, rd, h⟩
  subst e
  unfold gAbs at h
  split at h
  · rename_i i
    obtain rfl := rd.int
    exact call_abs pins s σ H _ us Q I r ⟨i, rfl, h W _ H (Le.refl W) ok (by simp only [Rep])⟩
  · exact h.elim
/-- str of an int, of a text -/
def gStr : D → Store → Res := fun x S => match x with
  | .int i => if i.natAbs.log2 < 1920 then .ok (.str (toString i)) S else .bad
  | _ => .bad
theorem cr_str : CallR X (.type "str") (rC1 Γ gStr) := by
  intro pins s σ H vs us Q I r ⟨x, W, S, d, e, ok, rd, h⟩
  subst e
  unfold gStr at h
  split at h
  · rename_i i
    obtain rfl := rd.int
    split at h
    · rename_i hi
      exact call_str_int pins s σ H _ us Q I r ⟨i, rfl, hi, h W _ H (Le.refl W) ok (by simp only [Rep])⟩
    · exact h.elim
  · exact h.elim
/-- int of a text -/
def gInt : D → Store → Res := fun x S => match x with
  | .str z => match PySem.intText? z with
    | some n => if z.length ≤ 640 then .ok (.int n) S else .bad
    | none => .bad
  | _ => .bad
theorem cr_int : CallR X (.type "int") (rC1 Γ gInt) := by
  intro pins s σ H vs us Q I r ⟨x, W, S, d, e, ok, rd, h⟩
  subst e
  unfold gInt at h
  split at h
  · rename_i z
    obtain rfl := rd.str
    split at h
    · rename_i n hn
      split at h
      · rename_i hz
        exact call_int_str pins s σ H _ us Q I r ⟨z, n, rfl, hn, hz, h W _ H (Le.refl W) ok (by simp only [Rep])⟩
      · exact h.elim
    · exact h.elim
  · exact h.elim
def gMax : D → D → Store → Res := fun x y S => match x, y with
  | .int i, .int j => .ok (.int (if j > i then j else i)) S
  | _, _ => .bad
def gMin : D → D → Store → Res := fun x y S => match x, y with
  | .int i, .int j => .ok (.int (if j < i then j else i)) S
  | _, _ => .bad
theorem cr_max (hc : X.calm = true) : CallR X (.builtin "max") (rC2 Γ gMax) := by
  intro pins s σ H vs us Q I r ⟨x, y, W, S, a, b, e, ok, ra, rb, h⟩
  subst e
  unfold gMax at h
  split at h
  · simp only [Rep] at ra rb
    subst ra rb
    exact call_max2 hc pins s σ H _ us Q I r ⟨_, _, rfl, h W _ H (Le.refl W) ok (by simp only [Rep])⟩
  · exact h.elim
theorem cr_min (hc : X.calm = true) : CallR X (.builtin "min") (rC2 Γ gMin) := by
  intro pins s σ H vs us Q I r ⟨x, y, W, S, a, b, e, ok, ra, rb, h⟩
  subst e
  unfold gMin at h
  split at h
  · simp only [Rep] at ra rb
    subst ra rb
    exact call_min2 hc pins s σ H _ us Q I r ⟨_, _, rfl, h W _ H (Le.refl W) ok (by simp only [Rep])⟩
  · exact h.elim
/-- any, all of a list of truths -/
def asB : List D → Option (List Bool)
  | [] => some []
  | .bl b :: ds => (asB ds).map fun bs => b :: bs
  | _ :: _ => none
theorem asB_reps {W : Wd} : ∀ {ds : List D} {bs : List Bool} {vs : List V}, asB ds = some bs → Reps Γ W ds vs → vs = bs.map V.bl
  | [], bs, vs, h, r => by
    cases h
    simp only [Reps] at r
    subst r
    rfl
  | .bl b :: ds, bs, vs, h, r => by
    simp only [asB, Option.map_eq_some_iff] at h
    obtain ⟨bs', h1, rfl⟩ := h
    simp only [Reps, Rep] at r
    obtain ⟨_, vs', rfl, rfl, r2⟩ := r
    rw [asB_reps h1 r2]
    rfl
  | .non :: ds, bs, vs, h, r => by cases h
  | .int _ :: ds, bs, vs, h, r => by cases h
  | .str _ :: ds, bs, vs, h, r => by cases h
  | .ty _ :: ds, bs, vs, h, r => by cases h
  | .cls _ :: ds, bs, vs, h, r => by cases h
  | .cell _ :: ds, bs, vs, h, r => by cases h
  | .lst _ :: ds, bs, vs, h, r => by cases h
  | .tup _ :: ds, bs, vs, h, r => by cases h
  | .obj _ _ :: ds, bs, vs, h, r => by cases h
  | .dct _ _ :: ds, bs, vs, h, r => by cases h
def gAny : D → Store → Res := fun x S => match deref S x with
  | .lst ds => match asB ds with
    | some bs => .ok (.bl (bs.any fun b => b)) S
    | none => .bad
  | _ => .bad
def gAll : D → Store → Res := fun x S => match deref S x with
  | .lst ds => match asB ds with
    | some bs => .ok (.bl (bs.all fun b => b)) S
    | none => .bad
  | _ => .bad
theorem cr_gAny (hK : X.K = Γ.K) (hc : X.calm = true) : CallR X (.builtin "any") (rC1 Γ gAny) := by
  intro pins s σ H vs us Q I r ⟨x, W, S, d, e, ok, rd, h⟩
  subst e
  unfold gAny at h
  split at h
  · rename_i ds hd
    obtain ⟨p, vs, rfl, h1, h2⟩ := asL ok rd hd
    split at h
    · rename_i bs hb
      obtain rfl := asB_reps hb h2
      exact cr_any hc pins s σ H _ us Q I r ⟨p, bs, rfl, by rw [hK]; exact h1, h W _ H (Le.refl W) ok (by simp only [Rep]; rfl)⟩
    · exact h.elim
  · exact h.elim
theorem cr_gAll (hK : X.K = Γ.K) (hc : X.calm = true) : CallR X (.builtin "all") (rC1 Γ gAll) := by
  intro pins s σ H vs us Q I r ⟨x, W, S, d, e, ok, rd, h⟩
  subst e
  unfold gAll at h
  split at h
  · rename_i ds hd
    obtain ⟨p, vs, rfl, h1, h2⟩ := asL ok rd hd
    split at h
    · rename_i bs hb
      obtain rfl := asB_reps hb h2
      exact cr_all hc pins s σ H _ us Q I r ⟨p, bs, rfl, by rw [hK]; exact h1, h W _ H (Le.refl W) ok (by simp only [Rep]; rfl)⟩
    · exact h.elim
  · exact h.elim
/-- tuple(x), list(x) -/
def gTupOf : D → Store → Res := fun x S => match deref S x with
  | .lst ds => .ok (.tup ds) S
  | .tup ds => .ok (.tup ds) S
  | _ => .bad
def gListOf : D → Store → Res := fun x S => match deref S x with
  | .lst ds => .ok (.lst ds) S
  | .tup ds => .ok (.lst ds) S
  | _ => .bad
theorem cr_tuple (hK : X.K = Γ.K) : CallR X (.type "tuple") (rC1 Γ gTupOf) := by
  intro pins s σ H vs us Q I r ⟨x, W, S, d, e, ok, rd, h⟩
  subst e
  unfold gTupOf at h
  split at h
  · rename_i ds hd
    obtain ⟨p, vs, rfl, h1, h2⟩ := asL ok rd hd
    refine call_tuple_of pins s σ H _ us Q I r ⟨p, vs, rfl, .inl ⟨by rw [hK]; exact h1, fun l hl => ?_⟩⟩
    have le := Le.lay (o := .tup vs) (ok.fresh hl).1
    exact h _ _ _ le (ok.lay hl _) (rep_tup (h2.mono le.s))
  · rename_i ds hd
    obtain ⟨p, vs, rfl, h1, h2⟩ := asT ok rd hd
    refine call_tuple_of pins s σ H _ us Q I r ⟨p, vs, rfl, .inr ⟨by rw [hK]; exact h1, ?_⟩⟩
    rcases rd with rd | ⟨_, _, _, rfl, _⟩
    · refine h W _ H (Le.refl W) ok ?_
      cases d with
      | tup ds' => cases hd; exact rd
      | cell i => simp only [deref] at hd; split at hd <;> cases hd
      | _ => cases hd
    · cases hd
  · exact h.elim
theorem cr_list (hK : X.K = Γ.K) : CallR X (.type "list") (rC1 Γ gListOf) := by
  intro pins s σ H vs us Q I r ⟨x, W, S, d, e, ok, rd, h⟩
  subst e
  have go : ∀ {p : Addr} {vs : List V} {ds : List D}, (SqL Γ.K H p vs ∨ SqT Γ.K H p vs) → Reps Γ W ds vs → x = .ref p → Cont Γ (.ok (.lst ds) S) W Q (fun _ _ _ => False) → wpAny (model X.prog X.w) X.A (call (.type "list") us) (EP X pins σ Q) X.xe s := fun {p vs ds} h1 h2 hx h => by
    subst hx
    refine call_list_of pins s σ H _ us Q I r ⟨p, vs, rfl, by rw [hK]; exact h1, fun l hl => ?_⟩
    have le := Le.lay (o := .lst vs) (ok.fresh hl).1
    exact h _ _ _ le (ok.lay hl _) (rep_lst (h2.mono le.s))
  unfold gListOf at h
  split at h
  · rename_i ds hd
    obtain ⟨p, vs, hx, h1, h2⟩ := asL ok rd hd
    exact go (.inl h1) h2 hx h
  · rename_i ds hd
    obtain ⟨p, vs, hx, h1, h2⟩ := asT ok rd hd
    exact go (.inr h1) h2 hx h
  · exact h.elim

/-! ### a list of the frame's own is made, grown -/
theorem SlotsR.setAcc {W : Wd} {ds : List D} {vs : List V} {a : Addr} (r : Reps Γ W ds vs) : ∀ {es : List SD} {σ : L2.St} {own : List (Addr × HO)} (i : Nat), SlotsR Γ ξ W es σ own → (own.map (·.1)).Nodup → a ∉ own.map (·.1) →
    ∃ own', SlotsR Γ ξ W (es.set i (.acc ds)) (σ.set i (some (.ref a))) own' ∧ (own'.map (·.1)).Nodup ∧ ∀ p ∈ own', p ∈ own ∨ p = (a, .lst vs)
  | [], σ, own, i, h, nd, _ => ⟨own, by obtain ⟨rfl, rfl⟩ := h; exact ⟨rfl, rfl⟩, nd, fun p hp => .inl hp⟩
  | .no :: es, σ, own, i, h, nd, na => by
    obtain ⟨o, σ', rfl, h2⟩ := h
    cases i with
    | zero => exact ⟨(a, .lst vs) :: own, ⟨a, vs, σ', own, rfl, rfl, r, h2⟩, List.nodup_cons.mpr ⟨na, nd⟩, fun p hp => (List.mem_cons.mp hp).elim .inr .inl⟩
    | succ i =>
      obtain ⟨own', h3, h4, h5⟩ := SlotsR.setAcc r i h2 nd na
      exact ⟨own', ⟨o, _, rfl, h3⟩, h4, h5⟩
  | .val d0 :: es, σ, own, i, h, nd, na => by
    obtain ⟨v0, σ', rfl, h2, h3⟩ := h
    cases i with
    | zero => exact ⟨(a, .lst vs) :: own, ⟨a, vs, σ', own, rfl, rfl, r, h3⟩, List.nodup_cons.mpr ⟨na, nd⟩, fun p hp => (List.mem_cons.mp hp).elim .inr .inl⟩
    | succ i =>
      obtain ⟨own', h4, h5, h6⟩ := SlotsR.setAcc r i h3 nd na
      exact ⟨own', ⟨v0, _, rfl, h2, h4⟩, h5, h6⟩
  | .acc ds0 :: es, σ, own, i, h, nd, na => by
    obtain ⟨b, ws, σ', own0, rfl, rfl, h3, h4⟩ := h
    have nd' := List.nodup_cons.mp nd
    have na' : a ∉ own0.map (·.1) := fun q => na (List.mem_cons_of_mem _ q)
    cases i with
    | zero => exact ⟨(a, .lst vs) :: own0, ⟨a, vs, σ', own0, rfl, rfl, r, h4⟩, List.nodup_cons.mpr ⟨na', nd'.2⟩, fun p hp => (List.mem_cons.mp hp).elim .inr fun q => .inl (List.mem_cons_of_mem _ q)⟩
    | succ i =>
      obtain ⟨own', h5, h6, h7⟩ := SlotsR.setAcc r i h4 nd'.2 na'
      refine ⟨(b, .lst ws) :: own', ⟨b, ws, _, own', rfl, rfl, h3, h5⟩, List.nodup_cons.mpr ⟨fun q => ?_, h6⟩, fun p hp => ?_⟩
      · obtain ⟨p, hp, e⟩ := List.mem_map.mp q
        rcases h7 p hp with h | h
        · exact nd'.1 (List.mem_map.mpr ⟨p, h, e⟩)
        · rw [h] at e
          exact na (by rw [show a = b from e]; exact List.mem_cons_self)
      · rcases List.mem_cons.mp hp with h | h
        · exact .inl (by rw [h]; exact List.mem_cons_self)
        · exact (h7 p h).elim (fun q => .inl (List.mem_cons_of_mem _ q)) .inr
  | .exn k fs :: es, σ, own, i, h, nd, na => by
    obtain ⟨σ', rfl, h2, h3, h4⟩ := h
    cases i with
    | zero => exact ⟨(a, .lst vs) :: own, ⟨a, vs, σ', own, rfl, rfl, r, h4⟩, List.nodup_cons.mpr ⟨na, nd⟩, fun p hp => (List.mem_cons.mp hp).elim .inr .inl⟩
    | succ i =>
      obtain ⟨own', h5, h6, h7⟩ := SlotsR.setAcc r i h4 nd na
      exact ⟨own', ⟨_, rfl, h2, h3, h5⟩, h6, h7⟩
  | .slf :: es, σ, own, i, h, nd, na => by
    obtain ⟨σ', rfl, h4⟩ := h
    cases i with
    | zero => exact ⟨(a, .lst vs) :: own, ⟨a, vs, σ', own, rfl, rfl, r, h4⟩, List.nodup_cons.mpr ⟨na, nd⟩, fun p hp => (List.mem_cons.mp hp).elim .inr .inl⟩
    | succ i =>
      obtain ⟨own', h5, h6, h7⟩ := SlotsR.setAcc r i h4 nd na
      exact ⟨own', ⟨_, rfl, h5⟩, h6, h7⟩
/-- what the frame's own lists stand for behind a change at a -/
noncomputable def Wd.own (W : Wd) (own : List (Addr × HO)) (P0 : Hp) (P1 : Hp) : Wd := { W with P := fun b => open Classical in if b ∈ own.map (·.1) then P1 b else P0 b }
theorem Ok.own {W : Wd} {S : Store} {H H1 : Hp} {own own' : List (Addr × HO)} {P0 : Hp} {a : Addr} {vs : List V} (ok : Ok Γ W S H) (o : OwnP W own P0) (hF : W.F a = none) (hM : ∀ (i : Nat) (b : Addr), W.m[i]? = some b → b ≠ a) (h0 : P0 a = none) (hH : H1 = upd H a (.lst vs))
    (nd : (own'.map (·.1)).Nodup) (sub : ∀ p ∈ own', p ∈ own ∧ p.1 ≠ a ∨ p = (a, .lst vs)) : Ok Γ (W.own own' P0 H1) S H1 ∧ OwnP (W.own own' P0 H1) own' P0 := by
  subst hH
  have out : ∀ b, b ∈ own.map (·.1) → P0 b = none := fun b hb => by
    obtain ⟨p, hp, rfl⟩ := List.mem_map.mp hb
    exact (o.at_ p hp).1
  have P0W : ∀ b u, P0 b = some u → W.P b = some u := fun b u e => by
    rw [o.rest b fun hb => ?_]
    · exact e
    · rw [out b hb] at e
      cases e
  have get : ∀ p ∈ own', upd H a (.lst vs) p.1 = some p.2 ∧ W.F p.1 = none ∧ P0 p.1 = none ∧ ∀ (i : Nat) (b : Addr), W.m[i]? = some b → b ≠ p.1 := fun p hp => by
    rcases sub p hp with ⟨h1, h2⟩ | h1
    · obtain ⟨q1, q2⟩ := o.at_ p h1
      obtain ⟨q3, q4⟩ := ok.p _ _ q2
      refine ⟨by rw [upd_ne h2]; exact q3, q4, q1, fun i b q z => ?_⟩
      have := (ok.m i b q).2
      rw [z, q2] at this
      cases this
    · subst h1
      exact ⟨upd_same, hF, h0, hM⟩
  refine ⟨⟨fun b u e => ?_, fun b u e => ?_, fun i b e => ⟨(ok.m i b e).1, ?_⟩, ok.nd, ok.len, fun i b es e1 e2 => ?_⟩, ⟨nd, fun p hp => ⟨(get p hp).2.2.1, ?_⟩, fun b hb => ?_⟩⟩
  · rw [upd_ne (ne_of_none (show W.F b = some u from e) hF)]
    exact ok.f b u e
  · unfold Wd.own at e
    simp only at e
    split at e
    · rename_i hb
      obtain ⟨p, hp, rfl⟩ := List.mem_map.mp hb
      exact ⟨e, (get p hp).2.1⟩
    · have z : b ≠ a := ne_of_none e h0
      rw [upd_ne z]
      exact ok.p b u (P0W b u e)
  · unfold Wd.own
    simp only
    split
    · rename_i hb
      obtain ⟨p, hp, rfl⟩ := List.mem_map.mp hb
      exact absurd rfl ((get p hp).2.2.2 i _ e)
    · cases q : P0 b with
      | none => rfl
      | some u =>
        have := P0W b u q
        rw [(ok.m i b e).2] at this
        cases this
  · obtain ⟨us, q3, q4⟩ := ok.c i b es e1 e2
    exact ⟨us, by rw [upd_ne (hM i b e1)]; exact q3, Reps.mono (W := W) (W' := W.own own' P0 (upd H a (.lst vs))) ⟨fun _ _ h => h, fun _ _ h => h⟩ q4⟩
  · unfold Wd.own
    simp only
    rw [if_pos (List.mem_map.mpr ⟨p, hp, rfl⟩)]
    exact (get p hp).1
  · unfold Wd.own
    simp only
    rw [if_neg hb]
theorem Wd.own_le {W : Wd} {own : List (Addr × HO)} {P0 P1 : Hp} : LeS W (W.own own P0 P1) := ⟨fun _ _ h => h, fun _ _ h => h⟩
def sAcc (i : Nat) (a : AF) : SF := fun es S => match a es S with
  | .ok ds S1 => if ds.length ≤ 1000000 then .next (es.set i (.acc ds)) S1 else .bad
  | .exc k fs S1 => .exc k fs es S1
  | .bad => .bad
theorem ds_acc {i : Nat} {x : Str} {es : List Expr} {a : AF} {pos pos' p2 : Pos} (hN : X.N.Nodup) (ha : PA X es (dA Γ ξ a E)) (hi : X.N[i]? = some x := by rfl) (hx : Loc X.env.scope x := by first | exact Or.inl rfl | exact Or.inr rfl) (hs : swapsWith (.List es p2) (some (.Name x pos')) pos.line X.env = pure false := by rfl)
    (hf : X.fn x = true ∨ X.env.scope.names.lookup x = some .local := by first | exact .inl rfl | exact .inr rfl | assumption) : PS X (.Assign [.Name x pos'] (.List es p2) pos) (dS Γ ξ (sAcc i a) E) :=
  (ps_set hN hi hx (pe_lst ha) hs hf).imp fun Dn σ H ⟨W, es, S, P0, ok, fr, h⟩ => by
    refine ⟨W, es, S, P0, ok, fr, ?_⟩
    unfold sAcc at h
    cases e : a es S with
    | bad => rw [e] at h; exact h.elim
    | exc k fs S1 => rw [e] at h; exact fun W1 d H1 l o rx => h W1 σ d H1 l.s o (fr.le l) rx
    | ok ds S1 =>
      rw [e] at h
      simp only at h
      split at h
      case isFalse => exact h.elim
      rename_i hz
      intro W1 vs H1 l1 ok1 rs
      refine ⟨by rw [rs.length, sizeLine_eq]; omega, fun p hp => ?_⟩
      obtain ⟨hF, hP, hM⟩ := ok1.fresh hp
      obtain ⟨own, fr1, o⟩ := fr.le l1
      have np : p ∉ own.map (·.1) := fun q => by
        obtain ⟨z, hz, rfl⟩ := List.mem_map.mp q
        rw [(o.at_ z hz).2] at hP
        cases hP
      have h0 : P0 p = none := by rw [← o.rest p np]; exact hP
      obtain ⟨own', s1, s2, s3⟩ := SlotsR.setAcc (a := p) rs i fr1 o.nd np
      obtain ⟨k1, k2⟩ := ok1.own (own' := own') (a := p) (vs := vs) o hF hM h0 rfl s2 fun q hq => (s3 q hq).elim (fun z => .inl ⟨z, fun e => np (by rw [← e]; exact List.mem_map.mpr ⟨q, z, rfl⟩)⟩) .inr
      exact h _ _ _ (l1.s.trans Wd.own_le) k1 ⟨own', s1.mono Wd.own_le, k2⟩
theorem SlotsR.grow {W : Wd} {ds : List D} {vs : List V} (r : Reps Γ W ds vs) : ∀ {es : List SD} {σ : L2.St} {own : List (Addr × HO)} {i : Nat} {ds0 : List D}, SlotsR Γ ξ W es σ own → es[i]? = some (.acc ds0) → (own.map (·.1)).Nodup →
    ∃ a vs0 own', σ[i]? = some (some (.ref a)) ∧ Reps Γ W ds0 vs0 ∧ (a, .lst vs0) ∈ own ∧ SlotsR Γ ξ W (es.set i (.acc ds)) σ own' ∧ own'.map (·.1) = own.map (·.1) ∧ ∀ p ∈ own', p ∈ own ∧ p.1 ≠ a ∨ p = (a, .lst vs)
  | [], σ, own, i, _, h, hi, nd => by simp at hi
  | .no :: es, σ, own, i, _, h, hi, nd => by
    obtain ⟨o, σ', rfl, h2⟩ := h
    cases i with
    | zero => simp at hi
    | succ i =>
      obtain ⟨a, vs0, own', q1, q2, q3, q4, q5, q6⟩ := SlotsR.grow r h2 (by simpa using hi) nd
      exact ⟨a, vs0, own', by simpa using q1, q2, q3, ⟨o, _, rfl, q4⟩, q5, q6⟩
  | .val d0 :: es, σ, own, i, _, h, hi, nd => by
    obtain ⟨v0, σ', rfl, h2, h3⟩ := h
    cases i with
    | zero => simp at hi
    | succ i =>
      obtain ⟨a, vs0, own', q1, q2, q3, q4, q5, q6⟩ := SlotsR.grow r h3 (by simpa using hi) nd
      exact ⟨a, vs0, own', by simpa using q1, q2, q3, ⟨v0, _, rfl, h2, q4⟩, q5, q6⟩
  | .acc ds1 :: es, σ, own, i, ds0, h, hi, nd => by
    obtain ⟨b, ws, σ', own0, rfl, rfl, h3, h4⟩ := h
    have nd' := List.nodup_cons.mp nd
    cases i with
    | zero =>
      simp at hi
      subst hi
      exact ⟨b, ws, (b, .lst vs) :: own0, rfl, h3, List.mem_cons_self, ⟨b, vs, σ', own0, rfl, rfl, r, h4⟩, rfl, fun p hp => (List.mem_cons.mp hp).elim .inr fun q => .inl ⟨List.mem_cons_of_mem _ q, fun z => nd'.1 (by rw [← z]; exact List.mem_map.mpr ⟨p, q, rfl⟩)⟩⟩
    | succ i =>
      obtain ⟨a, vs0, own', q1, q2, q3, q4, q5, q6⟩ := SlotsR.grow r h4 (by simpa using hi) nd'.2
      have ne : b ≠ a := fun z => nd'.1 (by rw [z]; exact List.mem_map.mpr ⟨_, q3, rfl⟩)
      refine ⟨a, vs0, (b, .lst ws) :: own', by simpa using q1, q2, List.mem_cons_of_mem _ q3, ⟨b, ws, _, own', rfl, rfl, h3, q4⟩, by simp only [List.map_cons]; rw [q5], fun p hp => ?_⟩
      rcases List.mem_cons.mp hp with z | z
      · rw [z]
        exact .inl ⟨List.mem_cons_self, ne⟩
      · exact (q6 p z).elim (fun q => .inl ⟨List.mem_cons_of_mem _ q.1, q.2⟩) .inr
  | .exn k fs :: es, σ, own, i, _, h, hi, nd => by
    obtain ⟨σ', rfl, h2, h3, h4⟩ := h
    cases i with
    | zero => simp at hi
    | succ i =>
      obtain ⟨a, vs0, own', q1, q2, q3, q4, q5, q6⟩ := SlotsR.grow r h4 (by simpa using hi) nd
      exact ⟨a, vs0, own', by simpa using q1, q2, q3, ⟨_, rfl, h2, h3, q4⟩, q5, q6⟩
  | .slf :: es, σ, own, i, _, h, hi, nd => by
    obtain ⟨σ', rfl, h4⟩ := h
    cases i with
    | zero => simp at hi
    | succ i =>
      obtain ⟨a, vs0, own', q1, q2, q3, q4, q5, q6⟩ := SlotsR.grow r h4 (by simpa using hi) nd
      exact ⟨a, vs0, own', by simpa using q1, q2, q3, ⟨_, rfl, q4⟩, q5, q6⟩
/-- x.append(e), x of the frame's own -/
def sApp (i : Nat) (f : EF) : SF := fun es S => match es[i]? with
  | some (.acc ds) => (f es S).toS es fun d S1 => if ds.length < 1000000 then .next (es.set i (.acc (ds ++ [d]))) S1 else .bad
  | _ => .bad
theorem ds_app {i : Nat} {x : Str} {e : Expr} {f : EF} {p1 apos cpos pos : Pos} (hK : X.K = Γ.K)
    (P : PE X (.Call (.Attribute (.Name x p1) "append" apos) [e] [] cpos) (tBM X.K "list" rAppend (tVar i) (tCons (dE Γ ξ f E) tNil))) (hs : swapsWith (.Call (.Attribute (.Name x p1) "append" apos) [e] [] cpos) none pos.line X.env = pure false := by rfl) :
    PS X (.Expr (.Call (.Attribute (.Name x p1) "append" apos) [e] [] cpos) pos) (dS Γ ξ (sApp i f) E) := (ps_expr P hs).imp fun Dn σ H ⟨W, es, S, P0, ok, fr, h⟩ => by
  unfold sApp at h
  split at h
  case h_2 => exact h.elim
  rename_i ds hi
  obtain ⟨own, fr1, o⟩ := id fr
  obtain ⟨a, vs, h1, h2, h3⟩ := fr1.acc hi
  have hH := ok.p _ _ (o.at_ _ h3).2
  refine ⟨.ref a, h1, .inl ⟨rfl, vs, .inl (.inl hH.1)⟩, W, es, S, P0, ok, fr, ContS.toS fr h fun d S1 W1 v H1 le ok1 rv hc => ?_⟩
  split at hc
  case isFalse => exact hc.elim
  rename_i hz
  have frL := fr.le le
  obtain ⟨own1, fr2, o1⟩ := frL
  obtain ⟨a', vs0, own', q1, q2, q3, q4, q5, q6⟩ := SlotsR.grow (ds := ds ++ [d]) (vs := vs ++ [v]) ((h2.mono le.s).append (Reps.cons rv Reps.nil)) fr2 hi o1.nd
  obtain rfl : a = a' := by
    rw [h1] at q1
    exact V.ref.inj (Option.some.inj (Option.some.inj q1))
  have hP : W1.P a = some (.lst vs) := by rw [le.p]; exact (o.at_ _ h3).2
  have hP1 := (o1.at_ _ q3).2
  obtain ⟨hHa, hFa⟩ := ok1.p _ _ hP
  refine ⟨a, vs, v, rfl, rfl, hHa, by rw [h2.length, sizeLine_eq]; omega, ?_⟩
  have hM : ∀ (i : Nat) (b : Addr), W1.m[i]? = some b → b ≠ a := fun i b q z => by
    have := (ok1.m i b q).2
    rw [z, hP] at this
    cases this
  obtain ⟨k1, k2⟩ := ok1.own (own' := own') (a := a) (vs := vs ++ [v]) o1 hFa hM (o1.at_ _ q3).1 rfl (by rw [q5]; exact o1.nd) q6
  exact hc _ σ _ Wd.own_le k1 ⟨own', q4.mono Wd.own_le, k2⟩
end
end DL
set_option Elab.async false
set_option linter.all false
set_option maxRecDepth 100000
set_option maxHeartbeats 2000000
set_option autoImplicit false
/-! The data layer, 6: classes with slots. -/
namespace DL
open PySem L2 PyProof.Rows

section
variable {Γ : Pg} {ξ : Xx} {X : Cx} {E : WX}
/-! ### a def runs at values -/
theorem runA {CX : CXT} {k : Nat} {g : Addr} {sp : Sp} {A : Around} {pins : List (Addr × Obj)} {σ : L2.St} {H : Hp} {s : Shared} {Q : VK} {E : XK} {us : List Value} {vs : List V} (F : FnR X.prog X.w X.K X.mg X.base CX k g sp) (hr : Room k A)
    (e0 : Env0 X.prog X.w X.K X.mg X.base A X.stack s H) (hx : PassesAt CX X σ E) (I : Inv X pins σ H s) (r : Vals vs us) (h : sp vs H Q E) :
    codeAny (model X.prog X.w) A (.call (.ref g) ⟨us, []⟩) (fun r s' => match r with | .ok (.ret v) => EP X pins σ Q v s' | .ok _ => False | .error e => X.xe e s') s :=
  codeAny_mono (F A X.stack s H us vs Q E hr e0 r h) fun r s' hq => match r, hq with
    | .error e, hq => hx pins H s e s' I hq
    | .ok (.ret _), hq => I.after hq
    | .ok .next, hq => hq.elim
    | .ok .brk, hq => hq.elim
    | .ok .cont, hq => hq.elim
/-- what a caller wants of a method, a getter -/
structure CalR (Γ : Pg) (P : Program) (w : World) (mg : Str → Option Value) (base : Heap) (k : Nat) (g : Addr) (n : Nat) (den : List D → Store → Res) : Prop where
  run : FnR P w Γ.K mg base (L2.CX P w) k g (spD Γ n den)
theorem CalR.mono {P : Program} {w : World} {mg : Str → Option Value} {base : Heap} {j k n : Nat} {g : Addr} {den : List D → Store → Res} (c : CalR Γ P w mg base j g n den) (h : j ≤ k) : CalR Γ P w mg base k g n den := ⟨c.run.mono h⟩

/-! ### instances with slots -/
structure SlF (Γ : Pg) (k : Nat) : Prop where
  no : Γ.at_ k = none
  sc : SlX.SCls Γ.K (Γ.cl k)
  si : SlX.SIsi Γ.K (Γ.cl k)
/-- a class whose instances have a dict -/
structure ClF (Γ : Pg) (k : Nat) (ns : List Str) : Prop where
  at_ : Γ.at_ k = some ns
  cl : Cls Γ.K (Γ.cl k)
  si : SlX.SIsi Γ.K (Γ.cl k)
  nd : ns.Nodup
  na : ∀ f ∈ ns, NoAttr Γ.K (Γ.cl k) f
/-- either -/
inductive ObF (Γ : Pg) (k : Nat) : Prop
  | sl (c : SlF Γ k)
  | cl (ns : List Str) (c : ClF Γ k ns)
def SlotF (Γ : Pg) (k : Nat) (f : Str) (i : Nat) : Prop := ∃ p, SlX.Slot1 Γ.K (Γ.cl k) f p i
theorem slt_H {F H : Hp} (e : ∀ a o, F a = some o → H a = some o) {a C dx : Addr} {vs : List (Option V)} (h : SlX.Slt F a C dx vs) : SlX.Slt H a C dx vs := by
  rcases h with ⟨h, z⟩ | ⟨h, z⟩
  · exact .inl ⟨e _ _ h, z⟩
  · exact .inr ⟨e _ _ h, e _ _ z⟩
theorem asI {W : Wd} {S : Store} {H : Hp} {k : Nat} {ds : List D} {v : V} (ok : Ok Γ W S H) (r : Rep Γ W (.obj k ds) v) : ∃ a dx vs, v = .ref a ∧ ObjAt Γ H k a dx vs ∧ Reps Γ W ds vs := by
  simp only [Rep] at r
  obtain ⟨a, dx, vs, h1, h2, h3⟩ := r
  exact ⟨a, dx, vs, h1, h2.mono ok.f, h3⟩
theorem asO {W : Wd} {S : Store} {H : Hp} {k : Nat} {ds : List D} {v : V} (c : SlF Γ k) (ok : Ok Γ W S H) (r : Rep Γ W (.obj k ds) v) : ∃ a dx vs, v = .ref a ∧ SlX.Slt H a (Γ.cl k) dx (vs.map some) ∧ Reps Γ W ds vs := by
  obtain ⟨a, dx, vs, h1, h2, h3⟩ := asI ok r
  unfold ObjAt at h2
  rw [c.no] at h2
  exact ⟨a, dx, vs, h1, h2, h3⟩
theorem asC {W : Wd} {S : Store} {H : Hp} {k : Nat} {ns : List Str} {ds : List D} {v : V} (c : ClF Γ k ns) (ok : Ok Γ W S H) (r : Rep Γ W (.obj k ds) v) : ∃ a dx vs, v = .ref a ∧ H a = some (.ins (Γ.cl k) dx (ns.zip vs)) ∧ ns.length = vs.length ∧ Reps Γ W ds vs := by
  obtain ⟨a, dx, vs, h1, h2, h3⟩ := asI ok r
  unfold ObjAt at h2
  rw [c.at_] at h2
  exact ⟨a, dx, vs, h1, h2.1, h2.2, h3⟩
theorem lookup_zip_none {f : Str} : ∀ {ns : List Str} {vs : List V}, f ∉ ns → (ns.zip vs).lookup f = none
  | [], _, _ => rfl
  | _ :: _, [], _ => rfl
  | n :: ns, v :: vs, h => by
    have h1 : (f == n) = false := beq_eq_false_iff_ne.mpr fun e => h (e ▸ List.mem_cons_self ..)
    rw [List.zip_cons_cons, List.lookup_cons, h1]
    exact lookup_zip_none fun q => h (List.mem_cons_of_mem _ q)
theorem lookup_zip {f : Str} {v : V} : ∀ {ns : List Str} {vs : List V} {i : Nat}, ns.Nodup → ns[i]? = some f → vs[i]? = some v → (ns.zip vs).lookup f = some v
  | [], _, _, _, h, _ => by simp at h
  | _ :: _, [], _, _, _, h => by simp at h
  | n :: ns, u :: vs, 0, nd, h1, h2 => by
    simp at h1 h2
    subst h1 h2
    rw [List.zip_cons_cons, List.lookup_cons, beq_self_eq_true]
  | n :: ns, u :: vs, i + 1, nd, h1, h2 => by
    have h1 : ns[i]? = some f := by simpa using h1
    have h2 : vs[i]? = some v := by simpa using h2
    have hn : (f == n) = false := beq_eq_false_iff_ne.mpr fun e => (List.nodup_cons.mp nd).1 (e ▸ List.mem_of_getElem? h1)
    rw [List.zip_cons_cons, List.lookup_cons, hn]
    exact lookup_zip (List.nodup_cons.mp nd).2 h1 h2
/-- the instance as the machine holds it -/
theorem objInst {H : Hp} {pins : List (Addr × Obj)} {σ : L2.St} {s : Shared} {k : Nat} {a dx : Addr} {vs : List V} (I : Inv X pins σ H s) (h : ObjAt Γ H k a dx vs) : ∃ o od, PySem.W.InstAt s.heap a o (Γ.cl k) (some od) := by
  unfold ObjAt at h
  split at h
  · obtain ⟨sl, od, _, J, _⟩ := SlX.slt_inst I h
    exact ⟨_, od, J⟩
  · obtain ⟨mA, O, _, _, _, _⟩ := ins_get I.hok h.1
    obtain ⟨od, J, _⟩ := O.look
    exact ⟨_, od, J⟩
def noF (ns : Option (List Str)) (m : Str) : Bool := match ns with
  | none => true
  | some l => !l.contains m
/-- o.m: the method -/
theorem getO {A : Around} {E' : Value → Shared → Prop} {H : Hp} {pins : List (Addr × Obj)} {σ : L2.St} {s : Shared} {k : Nat} {a dx g : Addr} {vs : List V} {m : Str} {pl : Sem Bool} {Q : Value × List Value → Shared → Prop} (hK : X.K = Γ.K) (I : Inv X pins σ H s) (h : ObjAt Γ H k a dx vs) (c : ObF Γ k) (hm : L2.Meth X.K (Γ.cl k) m g) (hn : noF (Γ.at_ k) m = true) (q : Q (.ref g, [.ref a]) s) :
    wpAny (model X.prog X.w) A (getMethod (.ref a) m pl) Q E' s := by
  unfold ObjAt at h
  cases c with
  | sl c =>
    rw [c.no] at h
    exact SlX.getmethsl_ok I h (by rw [hK]; exact c.sc) hm q
  | cl ns c =>
    rw [c.at_] at h hn
    refine getmeth_ok I h.1 (by rw [hK]; exact c.cl) hm (lookup_zip_none fun z => ?_) q
    have hn : (!ns.contains m) = true := hn
    rw [List.contains_iff_mem.mpr z] at hn
    cases hn
def gSlot (k i : Nat) : D → Store → Res := fun d S => match d with
  | .obj k' ds => if k' = k then match ds[i]? with
    | some d => .ok d S
    | none => .bad
    else .bad
  | _ => .bad
theorem de_slot {e : Expr} {f : Str} {fe : EF} {k i : Nat} {pos : Pos} (hK : X.K = Γ.K) (c : SlF Γ k) (t : SlotF Γ k f i) (he : PE X e (dE Γ ξ fe E)) (hb : attributeBase e f X.env (eval e X.env) = eval e X.env := by rfl) :
    PE X (.Attribute e f pos) (dE Γ ξ (eOp1 (gSlot k i) fe) E) := (SlX.pe_sl he hb).imp fun σ H Q ⟨W, es, S, P0, ok, fr, h⟩ => ⟨W, es, S, P0, ok, fr, h.bind fun d S1 W1 v H1 le ok1 rv h1 => by
  replace h1 := Cont.nox (E' := fun _ _ _ => False) h1
  cases d with
  | obj k' ds =>
    simp only [gSlot] at h1
    split at h1
    · rename_i hk
      subst hk
      split at h1
      · rename_i d hd
        obtain ⟨a, dx, vs, rfl, h2, h3⟩ := asO c ok1 rv
        obtain ⟨w, hw, rw'⟩ := h3.get hd
        obtain ⟨p, t⟩ := t
        exact ⟨a, Γ.cl k', dx, p, _, i, w, rfl, h2, by rw [hK]; exact c.sc, by rw [hK]; exact t, by rw [List.getElem?_map, hw]; rfl, h1 W1 _ H1 (Le.refl _) ok1 rw'⟩
      · exact h1.elim
    · exact h1.elim
  | _ => exact h1.elim⟩
/-- a field of an instance with a dict -/
theorem de_fld {e : Expr} {f : Str} {fe : EF} {k i : Nat} {ns : List Str} {pos : Pos} (hK : X.K = Γ.K) (c : ClF Γ k ns) (t : ns[i]? = some f) (he : PE X e (dE Γ ξ fe E)) (hb : attributeBase e f X.env (eval e X.env) = eval e X.env := by rfl) :
    PE X (.Attribute e f pos) (dE Γ ξ (eOp1 (gSlot k i) fe) E) := (pe_fld he hb).imp fun σ H Q ⟨W, es, S, P0, ok, fr, h⟩ => ⟨W, es, S, P0, ok, fr, h.bind fun d S1 W1 v H1 le ok1 rv h1 => by
  replace h1 := Cont.nox (E' := fun _ _ _ => False) h1
  cases d with
  | obj k' ds =>
    simp only [gSlot] at h1
    split at h1
    · rename_i hk
      subst hk
      split at h1
      · rename_i d hd
        obtain ⟨a, dx, vs, rfl, h2, hl, h3⟩ := asC c ok1 rv
        obtain ⟨w, hw, rw'⟩ := h3.get hd
        exact ⟨a, Γ.cl k', dx, _, w, rfl, h2, by rw [hK]; exact c.cl, by rw [hK]; exact c.na f (List.mem_of_getElem? t), lookup_zip c.nd t hw, h1 W1 _ H1 (Le.refl _) ok1 rw'⟩
      · exact h1.elim
    · exact h1.elim
  | _ => exact h1.elim⟩
/-- a property of such an instance -/
structure PropF (Γ : Pg) (k : Nat) (f : Str) (g : Addr) : Prop where
  ex : ∃ p rest, PySem.W.findIn Γ.K (.ref (Γ.cl k)) f = some (some (.ref p)) ∧ PySem.W.specialIn Γ.K (.ref p) "__get__" = some (some (.builtin "property.__get__")) ∧ PySem.W.takesIn Γ.K (.ref p) = some true ∧ PySem.W.recIn Γ.K p "property" = some (.ref g :: rest)
def isObj (k : Nat) : D → Bool
  | .obj k' _ => k' == k
  | _ => false
def gProp (k : Nat) (den : List D → Store → Res) : D → Store → Res := fun d S => if isObj k d then chk 1 den [d] S else .bad
theorem isObj_of {k : Nat} {d : D} (h : isObj k d = true) : ∃ ds, d = .obj k ds := by
  cases d with
  | obj k' ds =>
    have e : k' = k := by simpa [isObj] using h
    subst e
    exact ⟨ds, rfl⟩
  | _ => cases h
theorem de_prop {e : Expr} {f : Str} {fe : EF} {k j n : Nat} {g : Addr} {pos : Pos} {P : Program} {w : World} {mg : Str → Option Value} {base : Heap} {den : List D → Store → Res} (hh : Here Γ P w mg base n X E) (c : SlF Γ k) (t : PropF Γ k f g) (G : CalR Γ P w mg base j g 1 den)
    (he : PE X e (dE Γ ξ fe E)) (hj : j + 1 ≤ n := by decide) (hb : attributeBase e f X.env (eval e X.env) = eval e X.env := by rfl) : PE X (.Attribute e f pos) (dE Γ ξ (eOp1 (gProp k den) fe) E) := by
  obtain ⟨h1, h2, h3, h4, h5, h6, h7⟩ := hh
  subst h1 h2 h4 h5
  obtain ⟨p, rest, t1, t2, t3, t4⟩ := t.ex
  refine (SlX.pe_propSl (CX := L2.CX X.prog X.w) (C := Γ.cl k) (E := fun _ _ _ => False) (sp := spD Γ 1 den) (n := j) (g := g) he (by rw [h3]; exact c.sc) (by rw [h3]; exact t1) (by rw [h3]; exact t2) (by rw [h3]; exact t3) ⟨rest, by rw [h3]; exact t4⟩ (by rw [h3]; exact G.run) (h6.mono hj) (fun H s e s' h => by
    obtain ⟨_, _, _, _, _, _, _, _, _, _, _, _, z⟩ := h
    exact z.elim) hb).imp fun σ H Q ⟨W, es, S, P0, ok, fr, h⟩ => ⟨W, es, S, P0, ok, fr, h.bind fun d S1 W1 v H1 le ok1 rv h1 => ?_⟩
  replace h1 := Cont.nox (E' := fun _ _ _ => False) h1
  unfold gProp at h1
  split at h1
  · rename_i hd
    obtain ⟨ds, rfl⟩ := isObj_of hd
    obtain ⟨a, dx, vs, rfl, q2, q3⟩ := asO c ok1 rv
    exact ⟨a, dx, _, rfl, q2, spD_of ok1 (Reps.cons rv Reps.nil) h1⟩
  · exact h1.elim

/-! ### methods -/
def eMeth (k n : Nat) (den : List D → Store → Res) (f : EF) (a : AF) : EF := fun es S => (f es S).bind fun d S1 => if isObj k d then (a es S1).bind fun ds S2 => chk n den (d :: ds) S2 else .bad
theorem de_meth {o e : Expr} {es : List Expr} {m : Str} {fo : EF} {fa : AF} {k j n l : Nat} {g : Addr} {pos apos : Pos} {P : Program} {w : World} {mg : Str → Option Value} {base : Heap} {den : List D → Store → Res} {pl : Sem Bool} (hh : Here Γ P w mg base l X E) (c : ObF Γ k) (hm : L2.Meth Γ.K (Γ.cl k) m g)
    (G : CalR Γ P w mg base j g n den) (ho : PE X o (dE Γ ξ fo E)) (ha : PA X (e :: es) (dA Γ ξ fa E)) (hj : j ≤ l := by decide) (hno : noF (Γ.at_ k) m = true := by first | rfl | kernel_rfl)
    (hst : starEach (e :: es) X.env = (false, eval e X.env) :: starEach es X.env := by rfl) (hpl : (backTo pos (starEach es X.env)).any (·.1) = false := by rfl)
    (ht : eval (.Call (.Attribute o m apos) (e :: es) [] pos) X.env = (do
      let ov ← eval o X.env
      standAt apos.atName
      let (f, first) ← holding [ov] (getMethod ov m pl)
      callWith pos f first (backTo pos (starEach (e :: es) X.env)) (backToKw pos (keywordEach [] X.env))) := by rfl) :
    PE X (.Call (.Attribute o m apos) (e :: es) [] pos) (dE Γ ξ (eMeth k n den fo fa) E) := by
  obtain ⟨h1, h2, h3, h4, h5, h6, h7⟩ := hh
  subst h1 h2 h4 h5
  refine ⟨fun pins s σ H Q I ⟨W, ds, S, P0, ok, fr, h⟩ => ?_⟩
  refine PySem.W.methodCall_KW (pl := pl) (thn (ho.run pins s σ H (fun x H1 => ∃ W1 S1 d, Ok Γ W1 S1 H1 ∧ Frame Γ ξ W1 ds σ P0 ∧ Rep Γ W1 d x ∧ Cont Γ (if isObj k d then (fa ds S1).bind fun es S2 => chk n den (d :: es) S2 else .bad) W1 Q (at_ E σ)) I
    ⟨W, ds, S, P0, ok, fr, h.bind fun d S1 W1 v H1 le ok1 rv h1 => ⟨W1, S1, d, ok1, fr.le le, rv, h1⟩⟩) fun u s1 ⟨x, H1, I1, rx, W1, S1, d, ok1, fr1, rd, h1⟩ => ?_) ht
  split at h1
  case isFalse => exact h1.elim
  rename_i hd
  obtain ⟨fs, rfl⟩ := isObj_of hd
  obtain ⟨a, dx, vs, rfl, q2, q3⟩ := asI ok1 rd
  obtain rfl : u = Value.ref a := rx
  have hm' : L2.Meth X.K (Γ.cl k) m g := by rw [h3]; exact hm
  refine getO h3 I1 q2 c hm' hno ?_
  refine PySem.W.callWith_K (first := [.ref a]) (h₀ := X.base) I.ok.mod.kin hm'.kp (thn (ha.run pos pins s1 σ H1 (fun vs H2 => ∃ W2 S2 es, Ok Γ W2 S2 H2 ∧ Reps Γ W2 es vs ∧ Rep Γ W2 (.obj k fs) (.ref a) ∧ Cont Γ (chk n den (.obj k fs :: es) S2) W2 Q (at_ E σ)) I1
    ⟨W1, ds, S1, P0, ok1, fr1, ContA.bind h1 fun es S2 W2 vs H2 le ok2 rs h2 => ⟨W2, S2, es, ok2, rs, rd.mono le.s, h2⟩⟩) fun us s2 ⟨ws, H2, I2, r, W2, S2, es2, ok2, rs, rd2, h2⟩ => ⟨I2.kIn, ?_⟩) hst hpl
  exact wpAny_call (runA (us := .ref a :: us) (vs := .ref a :: ws) (by rw [h3]; exact G.run) (h6.mono hj) I2.env0 (pass_of h7 σ) I2 (.cons rfl r) (spD_of ok2 (Reps.cons rd2 rs) h2))
theorem de_meth0 {o : Expr} {m : Str} {fo : EF} {k j l : Nat} {g : Addr} {pos apos : Pos} {P : Program} {w : World} {mg : Str → Option Value} {base : Heap} {den : List D → Store → Res} {pl : Sem Bool} (hh : Here Γ P w mg base l X E) (c : ObF Γ k) (hm : L2.Meth Γ.K (Γ.cl k) m g)
    (G : CalR Γ P w mg base j g 1 den) (ho : PE X o (dE Γ ξ fo E)) (hj : j ≤ l := by decide) (hno : noF (Γ.at_ k) m = true := by first | rfl | kernel_rfl)
    (ht : eval (.Call (.Attribute o m apos) [] [] pos) X.env = (do
      let ov ← eval o X.env
      standAt apos.atName
      let (f, first) ← holding [ov] (getMethod ov m pl)
      callWith pos f first (backTo pos (starEach [] X.env)) (backToKw pos (keywordEach [] X.env))) := by rfl) :
    PE X (.Call (.Attribute o m apos) [] [] pos) (dE Γ ξ (eMeth k 1 den fo aNil) E) := by
  obtain ⟨h1, h2, h3, h4, h5, h6, h7⟩ := hh
  subst h1 h2 h4 h5
  refine ⟨fun pins s σ H Q I ⟨W, ds, S, P0, ok, fr, h⟩ => ?_⟩
  refine PySem.W.methodCall_KW (pl := pl) (thn (ho.run pins s σ H (fun x H1 => ∃ W1 S1 d, Ok Γ W1 S1 H1 ∧ Rep Γ W1 d x ∧ Cont Γ (if isObj k d then (aNil ds S1).bind fun es S2 => chk 1 den (d :: es) S2 else .bad) W1 Q (at_ E σ)) I
    ⟨W, ds, S, P0, ok, fr, h.bind fun d S1 W1 v H1 le ok1 rv h1 => ⟨W1, S1, d, ok1, rv, h1⟩⟩) fun u s1 ⟨x, H1, I1, rx, W1, S1, d, ok1, rd, h1⟩ => ?_) ht
  split at h1
  case isFalse => exact h1.elim
  rename_i hd
  obtain ⟨fs, rfl⟩ := isObj_of hd
  obtain ⟨a, dx, vs, rfl, q2, q3⟩ := asI ok1 rd
  obtain rfl : u = Value.ref a := rx
  have hm' : L2.Meth X.K (Γ.cl k) m g := by rw [h3]; exact hm
  refine getO h3 I1 q2 c hm' hno ?_
  exact PySem.W.callWith_K0 (first := [.ref a]) I1.kIn hm'.kp (wpAny_call (runA (us := [.ref a]) (vs := [.ref a]) (by rw [h3]; exact G.run) (h6.mono hj) I1.env0 (pass_of h7 σ) I1 (.cons rfl .nil) (spD_of ok1 (Reps.cons rd Reps.nil) h1)))

/-! ### operators of one's own -/
def gOwn (k : Nat) (den : List D → Store → Res) : D → D → Store → Res := fun x y S => if isObj k x then match y with
  | .obj k' _ => if k' = k then chk 2 den [x, y] S else .bad
  | .int _ => chk 2 den [x, y] S
  | _ => .bad
  else .bad
/-- what is asked of the class for a binary operator: its own def, and that ints have the reflected way no better -/
structure BinF (Γ : Pg) (k : Nat) (op : Operator) (g : Addr) : Prop where
  hc : PySem.W.selfFirst Γ.K (Γ.cl k) = true
  hs : PySem.W.findIn Γ.K (.ref (Γ.cl k)) (PySem.dunder op.info.2) = some (some (.ref g))
  hf : PySem.W.isFn Γ.K (.ref g) = true
  hr : ∃ rc, PySem.W.findIn Γ.K (.ref (Γ.cl k)) (dunderR op.info.2) = some rc ∧ (rc = none ∨ ∃ g : Addr, rc = some (.ref g))
  hi : ∃ fo ro, PySem.W.findIn Γ.K (.type "int") (PySem.dunder op.info.2) = some fo ∧ PySem.W.findIn Γ.K (.type "int") (dunderR op.info.2) = some ro
  hsub : PySem.W.subIn Γ.K (.type "int") (.ref (Γ.cl k)) = some false
theorem op_own {op : Operator} {k j n : Nat} {g : Addr} {P : Program} {w : World} {mg : Str → Option Value} {base : Heap} {den : List D → Store → Res} (hh : Here Γ P w mg base n X E) (b : BinF Γ k op g) (G : CalR Γ P w mg base j g 2 den) (hj : j ≤ n := by decide) : OpR X (binaryOp op) (rD Γ (gOwn k den)) := by
  obtain ⟨h1, h2, h3, h4, h5, h6, h7⟩ := hh
  subst h1 h2 h4 h5
  intro pins s σ H x y v u Q I rx ry ⟨W, S, a, b', ok, ra, rb, h⟩
  unfold gOwn at h
  split at h
  case isFalse => exact h.elim
  rename_i hx
  obtain ⟨ds, rfl⟩ := isObj_of hx
  obtain ⟨p, dx, vs, rfl, q2, q3⟩ := asI ok ra
  obtain rfl : v = Value.ref p := rx
  obtain ⟨m, hF⟩ := I.fr
  obtain ⟨o, od, J⟩ := objInst I q2
  have run : ∀ (y' : V) (u' : Value), RelV y' u' → Rep Γ W b' y' → Cont Γ (chk 2 den [.obj k ds, b'] S) W Q (fun _ _ _ => False) → wpAny (model X.prog X.w) X.A (call (.ref g) [.ref p, u']) (PySem.W.CmpBack (EP X pins σ Q)) X.xe s := fun y' u' ry' rb' h' =>
    wpAny_mono (wpAny_call (runA (us := [.ref p, u']) (vs := [.ref p, y']) (E := fun _ _ _ => False) (by rw [h3]; exact G.run) (h6.mono hj) I.env0 (fun _ _ _ _ _ _ z => by
      obtain ⟨_, _, _, _, _, _, _, _, _, _, _, _, z⟩ := z
      exact z.elim) I (.cons rfl (.cons ry' .nil)) (spD_of ok (Reps.cons ra (Reps.cons rb' Reps.nil)) h'))) (fun w s' z => by
        obtain ⟨z', H', I', rz, qz⟩ := z
        exact SlX.cmpback rz ⟨z', H', I', rz, qz⟩) fun _ _ x => x
  split at h
  · rename_i k' ds'
    split at h
    case isFalse => exact h.elim
    rename_i hk
    subst hk
    obtain ⟨p', dx', vs', rfl, q2', q3'⟩ := asI ok rb
    obtain rfl : u = Value.ref p' := ry
    obtain ⟨o', od', J'⟩ := objInst I q2'
    exact PySem.W.binop_K hF I.ok.mod.kin J J'.type (by rw [h3]; exact b.hc) (by rw [h3]; exact b.hs) (by rw [h3]; exact b.hf) (run (.ref p') (.ref p') rfl rb h)
  · rename_i i
    have e : y = .int i := by simpa only [Rep] using rb
    subst e
    obtain ⟨t, rfl⟩ := ry
    obtain ⟨rc, r1, r2⟩ := b.hr
    obtain ⟨fo, ro, i1, i2⟩ := b.hi
    exact PySem.W.ksp_binT hF I.ok.mod.kin J rfl (by rw [h3]; exact b.hc) (by rw [h3]; exact b.hs) (by rw [h3]; exact b.hf) (by rw [h3]; exact r1) r2 (by rw [h3]; exact i1) (by rw [h3]; exact i2) (by rw [h3]; exact b.hsub) (run (.int i) (.int i t) ⟨t, rfl⟩ rb h)
  · exact h.elim
/-- -x -/
def gOwn1 (k : Nat) (den : List D → Store → Res) : D → Store → Res := fun x S => if isObj k x then chk 1 den [x] S else .bad
theorem un_own {k j n : Nat} {g : Addr} {P : Program} {w : World} {mg : Str → Option Value} {base : Heap} {den : List D → Store → Res} (hh : Here Γ P w mg base n X E) (hs : PySem.W.findIn Γ.K (.ref (Γ.cl k)) "__neg__" = some (some (.ref g))) (hf : PySem.W.isFn Γ.K (.ref g) = true)
    (G : CalR Γ P w mg base j g 1 den) (hj : j ≤ n := by decide) : UnR X (unaryOp .USub) (rU1 Γ (gOwn1 k den)) := by
  obtain ⟨h1, h2, h3, h4, h5, h6, h7⟩ := hh
  subst h1 h2 h4 h5
  intro pins s σ H x v Q I rx ⟨W, S, a, ok, ra, h⟩
  unfold gOwn1 at h
  split at h
  case isFalse => exact h.elim
  rename_i hx
  obtain ⟨ds, rfl⟩ := isObj_of hx
  obtain ⟨p, dx, vs, rfl, q2, q3⟩ := asI ok ra
  obtain rfl : v = Value.ref p := rx
  obtain ⟨m, hF⟩ := I.fr
  obtain ⟨o, od, J⟩ := objInst I q2
  exact PySem.W.ksp_neg hF I.ok.mod.kin J (by rw [h3]; exact hs) (by rw [h3]; exact hf) (wpAny_call (runA (us := [.ref p]) (vs := [.ref p]) (E := fun _ _ _ => False) (by rw [h3]; exact G.run) (h6.mono hj) I.env0 (fun _ _ _ _ _ _ z => by
      obtain ⟨_, _, _, _, _, _, _, _, _, _, _, _, z⟩ := z
      exact z.elim) I (.cons rfl .nil) (spD_of ok (Reps.cons ra Reps.nil) h)))
end
end DL
set_option Elab.async false
set_option linter.all false
set_option maxRecDepth 100000
set_option maxHeartbeats 2000000
set_option autoImplicit false
/-! The data layer, 7: making an instance with slots. -/
namespace DL
open PySem L2 PyProof.Rows

section
variable {Γ : Pg} {ξ : Xx} {X : Cx} {E : WX}
/-! ### a change beside the world -/
theorem Ok.swap {W : Wd} {S : Store} {H : Hp} (ok : Ok Γ W S H) {x : Addr} (o : HO) (hF : W.F x = none) (hM : ∀ (i : Nat) (a : Addr), W.m[i]? = some a → a ≠ x) : Ok Γ { W with P := upd W.P x o } S (upd H x o) := by
  refine ⟨fun a u e => ?_, fun a u e => ?_, fun i a e => ⟨(ok.m i a e).1, ?_⟩, ok.nd, ok.len, fun i a ds e1 e2 => ?_⟩
  · rw [upd_ne (ne_of_none (show W.F a = some u from e) hF)]
    exact ok.f a u e
  · by_cases z : a = x
    · subst z
      have e : upd W.P a o a = some u := e
      rw [upd_same] at e ⊢
      exact ⟨e, hF⟩
    · have e : upd W.P x o a = some u := e
      rw [upd_ne z] at e ⊢
      exact ok.p a u e
  · show upd W.P x o a = none
    rw [upd_ne (hM i a e)]
    exact (ok.m i a e).2
  · obtain ⟨us, q3, q4⟩ := ok.c i a ds e1 e2
    exact ⟨us, by rw [upd_ne (hM i a e1)]; exact q3, repsP W q4⟩
/-- less is kept apart -/
theorem Ok.less {W : Wd} {S : Store} {H : Hp} (ok : Ok Γ W S H) {P1 : Hp} (h : ∀ a u, P1 a = some u → W.P a = some u) : Ok Γ { W with P := P1 } S H := by
  refine ⟨ok.f, fun a u e => ok.p a u (h a u e), fun i a e => ⟨(ok.m i a e).1, ?_⟩, ok.nd, ok.len, fun i a ds e1 e2 => ?_⟩
  · show P1 a = none
    cases q : P1 a with
    | none => rfl
    | some u =>
      have := h a u q
      rw [(ok.m i a e).2] at this
      cases this
  · obtain ⟨us, q3, q4⟩ := ok.c i a ds e1 e2
    exact ⟨us, q3, repsP W q4⟩
theorem SlotsR.p {W : Wd} {P1 : Hp} {es : List SD} {σ : L2.St} {own : List (Addr × HO)} (h : SlotsR Γ ξ W es σ own) : SlotsR Γ ξ { W with P := P1 } es σ own := SlotsR.mono (W := W) (W' := { W with P := P1 }) ⟨fun _ _ h => h, fun _ _ h => h⟩ h
theorem Frame.swap {W : Wd} {es : List SD} {σ : L2.St} {P0 : Hp} {x : Addr} {u : HO} (fr : Frame Γ ξ W es σ P0) (h0 : P0 x = some u) (o : HO) : Frame Γ ξ { W with P := upd W.P x o } es σ (upd P0 x o) := by
  obtain ⟨own, h1, h2⟩ := fr
  refine ⟨own, h1.p, h2.nd, fun p hp => ?_, fun a ha => ?_⟩
  · obtain ⟨q1, q2⟩ := h2.at_ p hp
    have n : p.1 ≠ x := fun z => by
      rw [z, h0] at q1
      cases q1
    exact ⟨by rw [upd_ne n]; exact q1, by show upd W.P x o p.1 = _; rw [upd_ne n]; exact q2⟩
  · show upd W.P x o a = _
    by_cases z : a = x
    · rw [z, upd_same, upd_same]
    · rw [upd_ne z, upd_ne z]
      exact h2.rest a ha
theorem OwnP.of0 {W : Wd} {own : List (Addr × HO)} {P0 : Hp} (o : OwnP W own P0) {a : Addr} {u : HO} (h : P0 a = some u) : W.P a = some u := by
  rw [o.rest a fun ha => ?_]
  · exact h
  · obtain ⟨p, hp, rfl⟩ := List.mem_map.mp ha
    rw [(o.at_ p hp).1] at h
    cases h
theorem repP {W : Wd} {P1 : Hp} {d : D} {v : V} (h : Rep Γ W d v) : Rep Γ { W with P := P1 } d v := Rep.mono (W := W) (W' := { W with P := P1 }) ⟨fun _ _ h => h, fun _ _ h => h⟩ h

/-! ### __init__ of a class with two slots, which it fills at its end -/
def startI (N : Nat) (ds : List D) : List SD := .slf :: (ds.map .val ++ List.replicate (N - (ds.length + 1)) .no)
def isSlf : List SD → Bool
  | .slf :: _ => true
  | _ => false
theorem isSlf_at {es : List SD} (h : isSlf es = true) : es[0]? = some SD.slf := by
  unfold isSlf at h
  split at h
  · rfl
  · cases h
/-- the two fields' places: in order, or the other way round -/
def ix1 (sw : Bool) : Nat := bif sw then 1 else 0
def ix2 (sw : Bool) : Nat := bif sw then 0 else 1
def ord {α : Type} (sw : Bool) (a b : α) : List α := bif sw then [b, a] else [a, b]
def initD (sw : Bool) (N : Nat) (body : SF) (f1 f2 : EF) : List D → Store → ResA := fun ds S => match body (startI N ds) S with
  | .next es S1 => if isSlf es = true then (f1 es S1).bindA fun d1 S2 => (f2 es S2).bindA fun d2 S3 => .ok (ord sw d1 d2) S3 else .bad
  | .exc k fs _ S1 => .exc k fs S1
  | _ => .bad
/-- an __init__'s promise: n values beside self -/
def spI (Γ : Pg) (k n : Nat) (F : List D → Store → ResA) : Sp := fun vs H Q E => ∃ (x dx : Addr) (ws : List V) (W : Wd) (S : Store) (ds : List D), vs = .ref x :: ws ∧ Ok Γ W S H ∧ Reps Γ W ds ws ∧ ds.length = n ∧
  W.F x = none ∧ W.F dx = none ∧ W.P x = none ∧ W.P dx = none ∧ (∀ (i : Nat) (a : Addr), W.m[i]? = some a → a ≠ x ∧ a ≠ dx) ∧ dx ≠ x ∧ H x = some (.ins (Γ.cl k) dx []) ∧ H dx = some (.own x) ∧
  match F ds S with
  | .ok fs S1 => ∀ W' H' us, Le W W' → Ok Γ W' S1 H' → W'.F x = none → W'.F dx = none → (∀ (i : Nat) (a : Addr), W'.m[i]? = some a → a ≠ x ∧ a ≠ dx) → Reps Γ W' fs us → SlX.Slt H' x (Γ.cl k) dx (us.map some) → Q .non H'
  | .exc c fs S1 => ∀ W' d H', Le W W' → Ok Γ W' S1 H' → RepX (Γ := Γ) W' fs d → E (.ref (Γ.cl c)) d H'
  | .bad => False
theorem spI_len {k n : Nat} {F : List D → Store → ResA} {ps : List Str} (hn : ps.length = n + 1) : ∀ vs H Q E, spI Γ k n F vs H Q E → vs.length = ps.length := fun vs H Q E ⟨x, dx, ws, W, S, ds, e, ok, r, hl, _⟩ => by rw [e, List.length_cons, r.length, hl, hn]
theorem di_cons {st : Stmt} {rest : List Stmt} {f g : SF} {u : TS} (h1 : PS X st (dS Γ ξ f E)) (h2 : PSs X rest (tSeq (dS Γ ξ g E) u)) : PSs X (st :: rest) (tSeq (dS Γ ξ (sSeq f g) E) u) :=
  (pss_cons h1 h2).imp fun Dn σ H h => (tSeq_of (E := E) (f := f) (g := g) (Dn := { Dn with nx := u Dn }) h : _)
theorem di_tail {rest : List Stmt} {u : TS} (h : PSs X rest u) : PSs X rest (tSeq (dS Γ ξ sPass E) u) := h.imp fun Dn σ H ⟨W, es, S, P0, ok, fr, h⟩ => h W σ H (LeS.refl W) ok fr
theorem enterI {sw : Bool} {N k n : Nat} {body : SF} {f1 f2 : EF} {n1 n2 : Str} {vs : List V} {H : Hp} {Q : VK} {Ex : XK} {names : List Str} {K : PySem.W.Frag} (hK : K = Γ.K) (hN : names.length = N) (c : SlF Γ k) (t1 : SlotF Γ k n1 (ix1 sw)) (t2 : SlotF Γ k n2 (ix2 sw)) (h : spI Γ k n (initD sw N body f1 f2) vs H Q Ex) :
    ∃ ξ : Xx, tSeq (dS Γ ξ body (fun c d _ H => Ex c d H)) (tSeq (SlX.sSl K (tVar 0) (dE Γ ξ f1 (fun c d _ H => Ex c d H)) n1) (SlX.sSl K (tVar 0) (dE Γ ξ f2 (fun c d _ H => Ex c d H)) n2)) { nx := fun _ H' => Q .non H', rt := Q } (L2.start names vs) H := by
  subst hK
  obtain ⟨x, dx, ws, W, S, ds, rfl, ok, r, hl, hFx, hFd, hPx, hPd, hM, hne, hHx, hHd, h⟩ := h
  refine ⟨⟨x, .none, none⟩, ?_⟩
  have Mx : ∀ {W' : Wd} {S' : Store} {H' : Hp} {o : HO} {a : Addr}, Ok Γ W' S' H' → W'.P a = some o → ∀ (i : Nat) (b : Addr), W'.m[i]? = some b → b ≠ a := fun {W' S' H' o a} ok' hp i b hb z => by
    have := (ok'.m i b hb).2
    rw [z, hp] at this
    cases this
  have e1 : upd H dx (.own x) = H := by
    funext b
    by_cases z : b = dx
    · rw [z, upd_same, hHd]
    · rw [upd_ne z]
  have e2 : upd H x (.ins (Γ.cl k) dx []) = H := by
    funext b
    by_cases z : b = x
    · rw [z, upd_same, hHx]
    · rw [upd_ne z]
  have okA := ok.swap (x := dx) (.own x) hFd fun i a ha => (hM i a ha).2
  rw [e1] at okA
  have okB := okA.swap (x := x) (.ins (Γ.cl k) dx []) hFx fun i a ha => (hM i a ha).1
  rw [e2] at okB
  -- the world within
  let PB : Hp := upd (upd W.P dx (.own x)) x (.ins (Γ.cl k) dx [])
  have hPBx : PB x = some (.ins (Γ.cl k) dx []) := upd_same
  have hPBd : PB dx = some (.own x) := by
    show upd _ x _ dx = _
    rw [upd_ne hne, upd_same]
  refine ⟨{ W with P := PB }, startI N ds, S, PB, okB, ⟨[], ?_, ⟨List.nodup_nil, fun p hp => absurd hp (by simp), fun a _ => rfl⟩⟩, ?_⟩
  · unfold startI L2.start
    have hlen : (V.ref x :: ws).length = ds.length + 1 := by rw [List.length_cons, r.length]
    rw [hN, hlen]
    exact ⟨_, rfl, (slots_start _ r).p⟩
  unfold initD at h
  cases eb : body (startI N ds) S with
  | bad => rw [eb] at h; exact h.elim
  | brk es S1 => rw [eb] at h; exact h.elim
  | ct es S1 => rw [eb] at h; exact h.elim
  | ret d S1 => rw [eb] at h; exact h.elim
  | exc c fs es S1 =>
    rw [eb] at h
    intro W' σ' d H' l ok' fr' rx
    obtain ⟨own, _, o⟩ := fr'
    have hPW : ∀ a u, W.P a = some u → PB a = some u := fun a u q => by
      have n1 : a ≠ x := ne_of_none q hPx
      have n2 : a ≠ dx := ne_of_none q hPd
      show upd (upd W.P dx _) x _ a = _
      rw [upd_ne n1, upd_ne n2]
      exact q
    exact h { W' with P := W.P } d H' ⟨l.f, rfl, l.m⟩ (ok'.less fun a u q => o.of0 (hPW a u q)) (repX_le rx ⟨fun _ _ h => h, fun _ _ h => h⟩)
  | next es S1 =>
    rw [eb] at h
    simp only at h
    by_cases hs : isSlf es = true
    case neg => rw [if_neg hs] at h; exact h.elim
    rw [if_pos hs] at h
    intro W1 σ1 H1 l1 ok1 fr1
    have hσ : σ1[0]? = some (some (V.ref x)) := by
      obtain ⟨own, q, _⟩ := fr1
      exact q.slf (isSlf_at hs)
    have P1x : W1.P x = some (.ins (Γ.cl k) dx []) := by obtain ⟨own, _, o⟩ := fr1; exact o.of0 hPBx
    have P1d : W1.P dx = some (.own x) := by obtain ⟨own, _, o⟩ := fr1; exact o.of0 hPBd
    have hPW : ∀ a u, W.P a = some u → PB a = some u := fun a u q => by
      have n1 : a ≠ x := ne_of_none q hPx
      have n2 : a ≠ dx := ne_of_none q hPd
      show upd (upd W.P dx _) x _ a = _
      rw [upd_ne n1, upd_ne n2]
      exact q
    have P1W : ∀ a u, W.P a = some u → W1.P a = some u := fun a u q => by obtain ⟨own, _, o⟩ := fr1; exact o.of0 (hPW a u q)
    refine ⟨W1, es, S1, PB, ok1, fr1, ?_⟩
    cases ef : f1 es S1 with
    | bad => rw [ef] at h; exact h.elim
    | exc c fs S2 =>
      rw [ef] at h
      intro W2 d H2 l2 ok2 rx
      exact h { W2 with P := W.P } d H2 ⟨fun a o q => l2.f _ _ (l1.f _ _ q), rfl, fun i a q => l2.m _ _ (l1.m _ _ q)⟩ (ok2.less fun a u q => by rw [l2.p]; exact P1W a u q) (repX_le rx ⟨fun _ _ h => h, fun _ _ h => h⟩)
    | ok d1 S2 =>
      rw [ef] at h
      intro W2 v1 H2 l2 ok2 r1
      have P2x : W2.P x = some (.ins (Γ.cl k) dx []) := by rw [l2.p]; exact P1x
      have P2d : W2.P dx = some (.own x) := by rw [l2.p]; exact P1d
      have fr2 := fr1.le l2
      obtain ⟨p1, t1⟩ := t1
      refine ⟨.ref x, hσ, x, Γ.cl k, dx, p1, [], ix1 sw, rfl, .inl ⟨(ok2.p _ _ P2x).1, rfl⟩, c.sc, t1, ?_⟩
      -- behind the first store
      have okC := (ok2.swap (x := dx) (.xd []) (ok2.p _ _ P2d).2 (Mx ok2 P2d)).swap (x := x) (SlX.SlO x (Γ.cl k) dx (SlX.putS (ix1 sw) v1 [])) (ok2.p _ _ P2x).2 (fun i b hb => Mx ok2 P2x i b hb)
      have frC := (fr2.swap hPBd (.xd [])).swap (x := x) (u := .ins (Γ.cl k) dx []) (by rw [upd_ne hne.symm]; exact hPBx) (SlX.SlO x (Γ.cl k) dx (SlX.putS (ix1 sw) v1 []))
      refine ⟨_, es, S2, _, okC, frC, ?_⟩
      simp only [Res.bindA] at h
      cases eg : f2 es S2 with
      | bad => rw [eg] at h; exact h.elim
      | exc c fs S3 =>
        rw [eg] at h
        intro W3 d H3 l3 ok3 rx
        refine h { W3 with P := W.P } d H3 ⟨fun a o q => l3.f _ _ (l2.f _ _ (l1.f _ _ q)), rfl, fun i a q => l3.m _ _ (l2.m _ _ (l1.m _ _ q))⟩ (ok3.less fun a u q => ?_) (repX_le rx ⟨fun _ _ h => h, fun _ _ h => h⟩)
        have n1 : a ≠ x := ne_of_none q hPx
        have n2 : a ≠ dx := ne_of_none q hPd
        rw [l3.p]
        show upd (upd W2.P dx _) x _ a = _
        rw [upd_ne n1, upd_ne n2, l2.p]
        exact P1W a u q
      | ok d2 S3 =>
        rw [eg] at h
        intro W3 v2 H3 l3 ok3 r2
        have P3x : W3.P x = some (SlX.SlO x (Γ.cl k) dx (SlX.putS (ix1 sw) v1 [])) := by rw [l3.p]; exact upd_same
        have P3d : W3.P dx = some (.xd []) := by
          rw [l3.p]
          show upd (upd W2.P dx _) x _ dx = _
          rw [upd_ne hne, upd_same]
        obtain ⟨p2, t2⟩ := t2
        refine ⟨.ref x, hσ, x, Γ.cl k, dx, p2, SlX.putS (ix1 sw) v1 [], ix2 sw, rfl, .inr ⟨(ok3.p _ _ P3x).1, (ok3.p _ _ P3d).1⟩, c.sc, t2, ?_⟩
        have okD := (ok3.swap (x := dx) (.xd []) (ok3.p _ _ P3d).2 (Mx ok3 P3d)).swap (x := x) (SlX.SlO x (Γ.cl k) dx (SlX.putS (ix2 sw) v2 (SlX.putS (ix1 sw) v1 []))) (ok3.p _ _ P3x).2 (fun i b hb => Mx ok3 P3x i b hb)
        have ePut : SlX.putS (ix2 sw) v2 (SlX.putS (ix1 sw) v1 []) = (ord sw v1 v2).map some := by cases sw <;> rfl
        simp only [Res.bindA] at h
        have lF : ∀ a o, W.F a = some o → W3.F a = some o := fun a o q => l3.f _ _ (l2.f _ _ (l1.f _ _ q))
        refine h { W3 with P := W.P } _ (ord sw v1 v2) ⟨lF, rfl, fun i a q => l3.m _ _ (l2.m _ _ (l1.m _ _ q))⟩ ?_ (ok3.p _ _ P3x).2 (ok3.p _ _ P3d).2 (fun i a q => ⟨Mx ok3 P3x i a q, Mx ok3 P3d i a q⟩) ?_ ?_
        · refine okD.less (P1 := W.P) fun a u q => ?_
          have n1 : a ≠ x := ne_of_none q hPx
          have n2 : a ≠ dx := ne_of_none q hPd
          show upd (upd W3.P dx _) x _ a = _
          rw [upd_ne n1, upd_ne n2, l3.p]
          show upd (upd W2.P dx _) x _ a = _
          rw [upd_ne n1, upd_ne n2, l2.p]
          exact P1W a u q
        · have q1 := repP (P1 := W.P) (Rep.mono (W := W2) (W' := W3) ⟨fun a o q => l3.f _ _ q, fun i a q => l3.m _ _ q⟩ r1)
          have q2 := repP (P1 := W.P) r2
          cases sw
          · exact Reps.cons q1 (Reps.cons q2 Reps.nil)
          · exact Reps.cons q2 (Reps.cons q1 Reps.nil)
        · rw [← ePut]
          exact SlX.slH_slt hne

/-! ### a call of the class -/
theorem runMk {CX : CXT} {k : Nat} {f C : Addr} {fd : FuncData} {ps : List Str} {sp : Sp} {dvs : List V} {ds : List Value} {Ex : XK} {pins : List (Addr × Obj)} {σ : L2.St} {H : Hp} {s : Shared} {Q : VK} {us : List Value} {vs : List V} (M : Mk X.K C f) (F : FnOk X.prog X.w X.K X.mg X.base CX k f fd ps sp)
    (hr : Room (k + 1) X.A) (hb : Binds X.K fd ps ds) (hd : Vals dvs ds) (hx : PassesAt CX X σ Ex) (I : Inv X pins σ H s) (r : Vals vs us)
    (h : ∀ x dx, H x = none → H dx = none → dx ≠ x → sp (.ref x :: (vs ++ dvs)) (upd (upd H dx (.own x)) x (.ins C dx [])) (fun v H2 => v = .non ∧ Q (.ref x) H2) Ex) : wpAny (model X.prog X.w) X.A (call (.ref C) us) (EP X pins σ Q) X.xe s := by
  let x : Addr := s.heap.objs.size + 1
  let dx : Addr := s.heap.objs.size
  have hs := h x dx (I.hok.fresh (Nat.le_succ _)) (I.hok.fresh (Nat.le_refl _)) (Nat.ne_of_lt (Nat.lt_succ_self _))
  have J := Inv.made (C := C) I
  have rr : Vals (V.ref x :: (vs ++ dvs)) (Value.ref x :: (us ++ ds)) := .cons rfl (r.append hd)
  have hl : (Value.ref x :: us ++ ds).length = ps.length := (rr.length.symm.trans (F.len _ _ _ _ hs) : _)
  have run := F.run _ X.stack _ _ ⟨Value.ref x :: us, []⟩ (Value.ref x :: (us ++ ds)) _ _ Ex (hr.make C us []) (J.env0.make C us []) (hb _ (Value.ref x :: us) J.kIn hl) rr hs
  refine wpAny_call (make_map (f := f) I.kIn M.makes M.init (beq_iff_eq.mp M.fn) (codeAny_mono run fun r s' hq => ?_))
  match r, hq with
  | .error e, hq => exact hx pins _ _ e s' J hq
  | .ok (.ret u), hq =>
    obtain ⟨v, H', J2, rv, ev, q3⟩ := J.after hq
    subst ev
    exact ⟨rv, ⟨V.ref x, H', J2, rfl, q3⟩⟩
  | .ok .next, hq => exact hq.elim
  | .ok .brk, hq => exact hq.elim
  | .ok .cont, hq => exact hq.elim
/-- what a caller wants of a class: dfl fill up the values given -/
structure Mak (Γ : Pg) (P : Program) (w : World) (mg : Str → Option Value) (base : Heap) (k : Nat) (x : Str) (c n : Nat) (dfl : List D) (F : List D → Store → ResA) : Prop where
  no : Γ.at_ c = none
  ex : ∃ (fI : Addr) (fd : FuncData) (ps : List Str) (ds : List Value) (dvs : List V), Mk Γ.K (Γ.cl c) fI ∧ FnOk P w Γ.K mg base (L2.CX P w) k fI fd ps (spI Γ c n F) ∧ mg x = some (.ref (Γ.cl c)) ∧ Binds Γ.K fd ps ds ∧ Vals dvs ds ∧ ∀ W, Reps Γ W dfl dvs
def newD (c n : Nat) (F : List D → Store → ResA) : List D → Store → Res := fun ds S => if ds.length = n then match F ds S with
  | .ok fs S1 => if fs.length ≠ 0 then .ok (.obj c fs) S1 else .bad
  | .exc k fs S1 => .exc k fs S1
  | .bad => .bad
  else .bad
def eNew (c n : Nat) (dfl : List D) (F : List D → Store → ResA) (a : AF) : EF := fun es S => (a es S).bind fun ds S1 => newD c n F (ds ++ dfl) S1
theorem spI_of {c n : Nat} {F : List D → Store → ResA} {W : Wd} {S : Store} {H : Hp} {ds : List D} {vs : List V} {Q : VK} {Ex : XK} (hno : Γ.at_ c = none) (ok : Ok Γ W S H) (r : Reps Γ W ds vs) (h : Cont Γ (newD c n F ds S) W Q Ex) {x dx : Addr} (hx : H x = none) (hd : H dx = none) (hne : dx ≠ x) :
    spI Γ c n F (.ref x :: vs) (upd (upd H dx (.own x)) x (.ins (Γ.cl c) dx [])) (fun v H2 => v = .non ∧ Q (.ref x) H2) Ex := by
  unfold newD at h
  split at h
  case isFalse => exact h.elim
  rename_i hl
  obtain ⟨Fx, Px, Mx⟩ := ok.fresh hx
  obtain ⟨Fd, Pd, Md⟩ := ok.fresh hd
  have okA := ((ok.swap (x := dx) (.own x) Fd Md).swap (x := x) (.ins (Γ.cl c) dx []) Fx Mx).less (P1 := W.P) fun a u q => by
    show upd (upd W.P dx _) x _ a = _
    rw [upd_ne (ne_of_none q Px), upd_ne (ne_of_none q Pd)]
    exact q
  refine ⟨x, dx, vs, W, S, ds, rfl, okA, r, hl, Fx, Fd, Px, Pd, fun i a q => ⟨Mx i a q, Md i a q⟩, hne, upd_same, by rw [upd_ne hne, upd_same], ?_⟩
  cases e : F ds S with
  | bad => rw [e] at h; exact h.elim
  | exc k fs S1 => rw [e] at h; exact h
  | ok fs S1 =>
    rw [e] at h
    simp only at h
    split at h
    case isFalse => exact h.elim
    rename_i h0
    intro W' H' us l ok' F'x F'd M' rs hs
    refine ⟨rfl, ?_⟩
    have hus : us ≠ [] := fun z => h0 (by rw [← rs.length, z]; rfl)
    rcases hs with ⟨_, z⟩ | ⟨q1, q2⟩
    · exact absurd (List.map_eq_nil_iff.mp z) hus
    -- the instance becomes data
    let F1 : Hp := upd (upd W'.F dx (.xd [])) x (SlX.SlO x (Γ.cl c) dx (us.map some))
    have le1 : ∀ a u, W'.F a = some u → F1 a = some u := fun a u q => by
      show upd (upd W'.F dx _) x _ a = _
      rw [upd_ne (ne_of_none q F'x), upd_ne (ne_of_none q F'd)]
      exact q
    have lS : LeS W' { W' with F := F1 } := ⟨le1, fun _ _ h => h⟩
    have hP' : ∀ a u, W'.P a = some u → a ≠ x ∧ a ≠ dx := fun a u q => by
      rw [l.p] at q
      exact ⟨ne_of_none q Px, ne_of_none q Pd⟩
    have f1 : ∀ a, a ≠ x → a ≠ dx → F1 a = W'.F a := fun a n1 n2 => by
      show upd (upd W'.F dx _) x _ a = _
      rw [upd_ne n1, upd_ne n2]
    refine h { W' with F := F1 } _ H' ⟨fun a o q => le1 a o (l.f a o q), l.p, l.m⟩ ⟨fun a u q => ?_, fun a u q => ?_, fun i a q => ?_, ok'.nd, ok'.len, fun i a ds q3 q4 => ?_⟩ ?_
    · have q : F1 a = some u := q
      by_cases z : a = x
      · subst z
        have : F1 a = some (SlX.SlO a (Γ.cl c) dx (us.map some)) := upd_same
        rw [q1, ← this]
        exact q
      · by_cases z2 : a = dx
        · subst z2
          have : F1 a = some (.xd []) := by
            show upd (upd W'.F a _) x _ a = _
            rw [upd_ne z, upd_same]
          rw [q2, ← this]
          exact q
        · rw [f1 a z z2] at q
          exact ok'.f a u q
    · obtain ⟨n1, n2⟩ := hP' a u q
      exact ⟨(ok'.p a u q).1, (f1 a n1 n2).trans (ok'.p a u q).2⟩
    · obtain ⟨n1, n2⟩ := M' i a q
      exact ⟨(f1 a n1 n2).trans (ok'.m i a q).1, (ok'.m i a q).2⟩
    · obtain ⟨ws, q5, q6⟩ := ok'.c i a ds q3 q4
      exact ⟨ws, q5, q6.mono lS⟩
    · simp only [Rep]
      refine ⟨x, dx, us, rfl, ?_, rs.mono lS⟩
      unfold ObjAt
      rw [hno]
      refine .inr ⟨upd_same, ?_⟩
      show upd (upd W'.F dx _) x _ dx = _
      rw [upd_ne hne, upd_same]
theorem de_new {e : Expr} {es : List Expr} {x : Str} {fa : AF} {c n j l : Nat} {dfl : List D} {p pos : Pos} {P : Program} {w : World} {mg : Str → Option Value} {base : Heap} {F : List D → Store → ResA} (hh : Here Γ P w mg base l X E) (M : Mak Γ P w mg base j x c n dfl F)
    (ha : PA X (e :: es) (dA Γ ξ fa E)) (hj : j + 1 ≤ l := by decide) (hg : Gl X x := by rfl) (hdb : (x == ("__debug__" : Str)) = false := by decide) (he : starEach (e :: es) X.env = (false, eval e X.env) :: starEach es X.env := by rfl) (hpl : (backTo pos (starEach es X.env)).any (·.1) = false := by rfl) :
    PE X (.Call (.Name x p) (e :: es) [] pos) (dE Γ ξ (eNew c n dfl F fa) E) := by
  obtain ⟨h1, h2, h3, h4, h5, h6, h7⟩ := hh
  subst h1 h2 h4 h5
  obtain ⟨fI, fd, ps, ds, dvs, hM, hF, hm, hb, hv, hrep⟩ := M.ex
  rw [← h3] at hM hF hb
  refine ⟨fun pins s σ H Q I ⟨W, es', S, P0, ok, fr, h⟩ => ?_⟩
  refine wpAny_Call_Name_kw (ld_glob I hg hm ?_ hdb)
  refine PySem.W.callWith_K (h₀ := X.base) I.ok.mod.kin hM.kp (thn (ha.run pos pins s σ H (fun vs H1 => ∃ W1 S1 ds1, Ok Γ W1 S1 H1 ∧ Reps Γ W1 ds1 vs ∧ Cont Γ (newD c n F (ds1 ++ dfl) S1) W1 Q (at_ E σ)) I
    ⟨W, es', S, P0, ok, fr, ContA.bind h fun ds1 S1 W1 vs H1 le ok1 rs h1 => ⟨W1, S1, ds1, ok1, rs, h1⟩⟩) fun us s1 ⟨vs, H1, I1, r, W1, S1, ds1, ok1, rs, h1⟩ => ⟨I1.kIn, ?_⟩) he hpl
  exact runMk (dvs := dvs) hM hF (h6.mono hj) hb hv (pass_of h7 σ) I1 r fun x dx hx hd hne => spI_of M.no ok1 (rs.append (hrep W1)) h1 hx hd hne
end
end DL
set_option Elab.async false
set_option linter.all false
set_option maxRecDepth 100000
set_option maxHeartbeats 2000000
set_option autoImplicit false
/-! The data layer, 8: exceptions. -/
namespace DL
open PySem L2 PyProof.Rows

section
variable {Γ : Pg} {ξ : Xx} {X : Cx} {E : WX}
/-! ### an own exception's __init__: B.__init__(self, text); self.f = value -/
/-- B's __init__ is that of ValueError, reached through the class B -/
structure BaseF (K : PySem.W.Frag) (mg : Str → Option Value) (x : Str) : Prop where
  ex : ∃ (B : Addr) (mc : Value), mg x = some (.ref B) ∧ ClX.CRead K B mc ∧ PySem.W.findCls K (.ref B) mc "__init__" = some (.val (.builtin "ValueError.__init__"))
theorem pe_binit {x : Str} {e : Expr} {es : List Expr} {ta : TA} {p1 p2 pos : Pos} {pl : Sem Bool} (b : BaseF X.K X.mg x) (ha : PA X (e :: es) ta) (hg : Gl X x := by rfl) (hdb : (x == ("__debug__" : Str)) = false := by decide)
    (hc : eval (.Call (.Attribute (.Name x p1) "__init__" p2) (e :: es) [] pos) X.env = (do
      let ov ← eval (.Name x p1) X.env
      standAt p2.atName
      let (f, first) ← holding [ov] (getMethod ov "__init__" pl)
      callWith pos f first (backTo pos (starEach (e :: es) X.env)) (backToKw pos (keywordEach [] X.env))) := by rfl)
    (he : starEach (e :: es) X.env = (false, eval e X.env) :: starEach es X.env := by rfl) (hpl : (backTo pos (starEach es X.env)).any (·.1) = false := by rfl) :
    PE X (.Call (.Attribute (.Name x p1) "__init__" p2) (e :: es) [] pos) (tVeI X.K ta) := by
  obtain ⟨B, mc, hm, rd, hv⟩ := b.ex
  refine ⟨fun pins s σ H Q I h => ?_⟩
  refine PySem.W.methodCall_KW (ld_glob I hg hm ?_ hdb) hc
  refine PySem.W.method_cls I.kIn rd.ga (PySem.W.cls_value I.kIn rd.rd hv rfl ?_)
  refine PyProof.Rows.callWith_method1 (first := []) (thn (ha.run pos pins _ σ H _ (I.tok _) h) fun us s1 ⟨vs, H1, I1, r1, a, C, ws, ev, hl, T, ea, q⟩ => ?_) he hpl
  subst ev
  cases r1 with
  | @cons _ u0 _ ur ra rr =>
    obtain rfl : u0 = Value.ref a := ra
    exact oinit_ok T I1 ea (by rw [← Paired.length rr, sizeLine_eq]; omega) fun s' J => ⟨.non, H1, J, rfl, q⟩
/-- the promises of such an __init__: with a field, without one -/
def spX (C : Addr) (f : Str) : Sp := fun vs H Q _ => ∃ (a : Addr) (v : V), vs = [.ref a, v] ∧ H a = some (exo a C none) ∧ ∀ dx, H dx = none → dx ≠ a → Q .non (upd (upd H dx (exd dx [(f, v)])) a (exo a C (some dx)))
def spX0 (C : Addr) : Sp := fun vs H Q _ => ∃ a : Addr, vs = [.ref a] ∧ H a = some (exo a C none) ∧ Q .non H
abbrev tXInit (K : PySem.W.Frag) (t : Str) (f : Str) : TS := tSeq (tDrop (tVeI K (tCons (tVar 0) (tCons (tC (.str t)) tNil)))) (tOst K f (tVar 0) (tVar 1))
abbrev tXInit0 (K : PySem.W.Frag) (t : Str) : TS := tDrop (tVeI K (tCons (tVar 0) (tCons (tC (.str t)) tNil)))
theorem xinit {K : PySem.W.Frag} {C : Addr} {f t : Str} {names : List Str} {vs : List V} {H : Hp} {Q : VK} (T : OexC K C) (hno : PySem.W.findIn K (.ref C) f = some none) (hn : names.length = 2) (h : spX C f vs H Q (fun _ _ _ => False)) : tXInit K t f { nx := fun _ H' => Q .non H', rt := Q } (L2.start names vs) H := by
  obtain ⟨a, v, rfl, ha, h⟩ := h
  refine ⟨.ref a, rfl, a, C, [.str t], rfl, by show 1 ≤ 1000; decide, T, ha, v, rfl, .ref a, rfl, a, C, rfl, T, hno, .inl ⟨ha, fun dx n ne => h dx n ne⟩⟩
theorem xinit0 {K : PySem.W.Frag} {C : Addr} {t : Str} {names : List Str} {vs : List V} {H : Hp} {Q : VK} (T : OexC K C) (h : spX0 C vs H Q (fun _ _ _ => False)) : tXInit0 K t { nx := fun _ H' => Q .non H', rt := Q } (L2.start names vs) H := by
  obtain ⟨a, rfl, ha, h⟩ := h
  exact ⟨.ref a, rfl, a, C, [.str t], rfl, by show 1 ≤ 1000; decide, T, ha, h⟩
/-- what a raise wants of a class: c its number, f its field -/
structure ExF (Γ : Pg) (P : Program) (w : World) (mg : Str → Option Value) (base : Heap) (k : Nat) (x : Str) (c : Nat) (f : Str) : Prop where
  ex : ∃ (fI : Addr) (fd : FuncData) (ps : List Str), OexC Γ.K (Γ.cl c) ∧ PySem.W.findIn Γ.K (.ref (Γ.cl c)) "__init__" = some (some (.ref fI)) ∧ PySem.W.typeIn Γ.K (.ref fI) = some (.type "function") ∧
    FnOk P w Γ.K mg base (L2.CX P w) k fI fd ps (spX (Γ.cl c) f) ∧ Binds Γ.K fd ps [] ∧ mg x = some (.ref (Γ.cl c))
structure ExF0 (Γ : Pg) (P : Program) (w : World) (mg : Str → Option Value) (base : Heap) (k : Nat) (x : Str) (c : Nat) : Prop where
  ex : ∃ (fI : Addr) (fd : FuncData) (ps : List Str), OexC Γ.K (Γ.cl c) ∧ PySem.W.findIn Γ.K (.ref (Γ.cl c)) "__init__" = some (some (.ref fI)) ∧ PySem.W.typeIn Γ.K (.ref fI) = some (.type "function") ∧
    FnOk P w Γ.K mg base (L2.CX P w) k fI fd ps (spX0 (Γ.cl c)) ∧ Binds Γ.K fd ps [] ∧ mg x = some (.ref (Γ.cl c))
def sRaise (c : Nat) (n : Str) (f : EF) : SF := fun es S => (f es S).toS es fun d S1 => .exc c [(n, d)] es S1
theorem ds_raise {e : Expr} {x n : Str} {fe : EF} {c j l : Nat} {p pos pos' : Pos} {P : Program} {w : World} {mg : Str → Option Value} {base : Heap} (hh : Here Γ P w mg base l X E) (T : ExF Γ P w mg base j x c n) (hc : X.calm = true) (he : PE X e (dE Γ ξ fe E)) (hj : j + 1 ≤ l := by decide)
    (hg : Gl X x := by rfl) (hdb : (x == ("__debug__" : Str)) = false := by decide) (hs : starEach (e :: []) X.env = (false, eval e X.env) :: starEach [] X.env := by rfl) (hpl : (backTo pos (starEach [] X.env)).any (·.1) = false := by rfl) :
    PS X (.Raise (some (.Call (.Name x p) [e] [] pos)) none pos') (dS Γ ξ (sRaise c n fe) E) := by
  obtain ⟨h1, h2, h3, h4, h5, h6, h7⟩ := hh
  subst h1 h2 h4 h5
  obtain ⟨fI, fd, ps, T1, T2, T3, T4, T5, T6⟩ := T.ex
  rw [← h3] at T1 T2 T3 T4 T5
  refine (ps_raise hc h7 (pmk_oex (dvs := []) (ds := []) T1 T2 T3 T4 (h6.mono hj) T5 .nil passL hg T6 (pa_cons he pa_nil hs) hdb hs hpl)).imp fun Dn σ H ⟨W, es, S, P0, ok, fr, h⟩ => ?_
  refine ⟨W, es, S, P0, ok, fr, ContS.toS fr h fun d S1 W1 v H1 le ok1 rv h1 => ⟨by show 1 ≤ 1000; decide, fun a ha => ?_⟩⟩
  refine ⟨a, v, rfl, upd_same, fun dx hdx hne => ⟨rfl, dx, [(n, v)], upd_same, by rw [upd_ne hne, upd_same], ?_, ?_⟩⟩
  · rw [upd_ne hne] at hdx
    exact hdx
  · rw [upd_ne hne] at hdx
    have eH : upd (del (upd (upd (upd H1 a (exo a (Γ.cl c) none)) dx (exd dx [(n, v)])) a (exo a (Γ.cl c) (some dx))) a) dx (.xd [(n, v)]) = upd H1 dx (.xd [(n, v)]) := by
      funext b
      by_cases z : b = dx
      · rw [z, upd_same, upd_same]
      · rw [upd_ne z, upd_ne z]
        by_cases z2 : b = a
        · rw [z2, del_same, ha]
        · rw [del_ne z2, upd_ne z2, upd_ne z, upd_ne z2]
    have l2 := Le.lay (o := .xd [(n, v)]) (ok1.fresh hdx).1
    rw [eH]
    exact h1 _ σ (some dx) _ l2.s (ok1.lay hdx _) ((fr.le le).le l2) (.inr ⟨dx, [(n, v)], rfl, upd_same, rfl, Reps.cons (rv.mono l2.s) Reps.nil⟩)
/-! ### one without a field -/
theorem mkEnd {pins : List (Addr × Obj)} {σ : L2.St} {H1 : Hp} {hp hp2 h2 : Heap} {g1 g2 : Array GenState} {d1 d2 : Drawn} {t1 t2 : Nat} {os : OsState} {a C : Addr} (I1 : Inv X pins σ H1 ⟨hp, g1, d1, t1, os⟩) (ha : hp.objs.size ≤ a)
    (k : ∀ b o, hp.get? b = some o → hp2.get? b = some o) (un : Un (frs X.stack) [] (upd H1 a (exo a C none)) (upd H1 a (exo a C none)) hp2 h2) (hok : HOk X.prog X.w (upd H1 a (exo a C none)) h2) (hb : AllBare g2) :
    ∃ (t0 : Addr) (G : Heap), Inv X pins σ H1 ⟨G, g2, d2, t2, os⟩ ∧ (∀ b o, G.get? b = some o → h2.get? b = some o) ∧ G.get? a = none ∧ h2.get? a = some ({ cls := .ref C, dict := none, data := .fields #[.ref t0, .none, .none, .none, .bool false, .none] } : Obj) ∧ H1 a = none := by
  obtain ⟨t0, hoe⟩ := exo_at hok upd_same
  have hn : H1 a = none := I1.hok.fresh ha
  obtain ⟨G, q1, q2⟩ := restrict h2 fun b => decide (b ≠ a)
  have gk : ∀ b, b ≠ a → G.get? b = h2.get? b := fun b hb => q1 b (decide_eq_true hb)
  have ge : G.get? a = none := q2 a (by simp)
  have nha : ∀ {b : Addr} {o : Obj}, hp.get? b = some o → b ≠ a := fun {b o} z => Nat.ne_of_lt (Nat.lt_of_lt_of_le (Heap.lt_size z) ha)
  have up : ∀ {b : Addr}, b ≠ a → upd H1 a (exo a C none) b = H1 b := fun {b} hb => upd_ne hb
  have nt : ∀ {b : Addr} {u : HO}, H1 b = some u → b ≠ a := fun {b u} z => ne_of_none z hn
  have U : Un (frs X.stack) [] H1 H1 hp G := {
    keep := fun b o z n hf hx => (gk b (nha z)).trans (un.keep b o (k b o z) ((up (nha z)).trans n) hf hx)
    slot := fun b o z n hf hx => by rw [gk b (nha z)]; exact un.slot b o (k b o z) ((up (nha z)).trans n) hf hx
    free := fun b o z n hx => n
    there := fun b o z hx => by rw [gk b (nha z)]; exact un.there b o (k b o z) hx
    tups := fun b xs z => z
    frzs := fun b o v z => z
    tbls := fun b ps z => ⟨#[], by simpa using z⟩ }
  have hok3 : HOk X.prog X.w H1 G := fun b o z => by
    have hba := nt z
    have z2 : upd H1 a (exo a C none) b = some o := (up hba).trans z
    refine (hok b o z2).stay (fun c v hc y => ?_) (fun c hc => ?_) (fun c xs hc => ?_)
    · have hca : c ≠ a := by
        rcases hc with hc | hc
        · rw [hc]
          exact hba
        · exact at_ne upd_same hc exo_own
      rw [gk c hca]
      exact y
    · have hca : c ≠ a := at_ne upd_same hc exo_own
      rw [up hca] at hc
      exact hc
    · have hca : c ≠ a := at_ne upd_same hc exo_tup
      rw [up hca] at hc
      exact hc
  refine ⟨t0, G, I1.call' (ch := []) rfl U hok3 hb (fun b z => absurd z (by simp)), fun b o z => ?_, ge, hoe, hn⟩
  by_cases hba : b = a
  · rw [hba, ge] at z
    cases z
  · exact (gk b hba).symm.trans z
def tMk0 (C : Addr) : L2.St → Hp → XK → Prop := fun σ H Q => Q (.ref C) none H
theorem pmk0 {x : Str} {C fI : Addr} {k : Nat} {fd : FuncData} {ps : List Str} {p pos : Pos} (T : OexC X.K C) (iC : PySem.W.findIn X.K (.ref C) "__init__" = some (some (.ref fI))) (tI : PySem.W.typeIn X.K (.ref fI) = some (.type "function"))
    (F1 : FnOk X.prog X.w X.K X.mg X.base (L2.CX X.prog X.w) k fI fd ps (spX0 C)) (hr : Room (k + 1) X.A) (hb : Binds X.K fd ps []) (hg : Gl X x) (hm : X.mg x = some (.ref C)) (hdb : (x == ("__debug__" : Str)) = false := by decide) :
    PMk X (.Call (.Name x p) [] [] pos) (tMk0 C) := by
  intro pins s σ H1 Q I1 h
  obtain ⟨nm, q, N, bs, bm, sn, sub, ab, col, dd, k0, k1, k2, k3, k5, hC, hbm⟩ := T.cls
  refine wpAny_Call_Name_kw (ld_glob I1 hg hm ?_ hdb)
  refine PySem.W.callWith_K0 I1.kIn T.kC ?_
  show wpAny _ _ (call (.ref C) []) _ _ _
  obtain ⟨hp, g, dr, tk, os⟩ := s
  let a : Addr := hp.objs.size + 1
  have hsz : hp.objs.size ≤ a := Nat.le_succ _
  have hn : H1 a = none := I1.hok.fresh hsz
  let h0 : Heap := (hp.push (PySem.W.kdv_tup [])).push (PySem.HandSPX.excO C hp.objs.size)
  have kk : ∀ b o, hp.get? b = some o → h0.get? b = some o := fun b o e => Heap.get?_push_of_some _ (Heap.get?_push_of_some _ e)
  have hget : h0.get? (hp.objs.size + 1) = some (PySem.HandSPX.excO C hp.objs.size) := by heap_get
  have I2 : Inv X pins σ (upd H1 a (exo a C none)) ⟨h0, g, dr, tk, os⟩ := I1.laid (t' := tk) (a := a) (o := exo a C none) (h' := h0) kk hsz (exo_ok hget)
  have hq : spX0 C [.ref a] (upd H1 a (exo a C none)) (fun v H2 => v = .non ∧ H2 = upd H1 a (exo a C none)) (fun _ _ _ => False) := ⟨a, rfl, upd_same, rfl, rfl⟩
  have hl : ([Value.ref a] ++ []).length = ps.length := (F1.len _ _ _ _ hq : _)
  have run := F1.run _ X.stack _ _ ⟨[Value.ref a], []⟩ ([Value.ref a] ++ []) _ _ (fun _ _ _ => False) (hr.make C [] []) (I2.env0.make C [] []) (hb _ [Value.ref a] I2.kIn hl) (show Vals [V.ref a] [Value.ref a] from .cons rfl .nil) hq
  refine wpAny_call (PySem.HandSPX.call_own F.excBase_ValueError (fun Y => PySem.HandSPX.refsVE_contains Y bm hbm) (I1.kIn _ _ hC) (PySem.W.looks_findIn I1.kIn iC) (fun self => PySem.W.bind_fn I1.kIn self tI) (by rw [sizeLine_eq]; decide) (codeAny_mono run fun r s' hq' => ?_))
  match r, hq' with
  | .error er, hq' => exact (passL pins σ _ _ er s' I2 hq')
  | .ok .next, hq' => exact hq'.elim
  | .ok .brk, hq' => exact hq'.elim
  | .ok .cont, hq' => exact hq'.elim
  | .ok (.ret u), hq' =>
    obtain ⟨v, H2, os2, bare2, un2, hok2, rv, ev, eH⟩ := hq'
    subst ev eH
    obtain ⟨h2, g2, d2, t2, os'⟩ := s'
    obtain rfl : os' = os := os2
    obtain ⟨t0, G, J, kG, ge, hoe, na⟩ := mkEnd (d2 := d2) (t2 := t2) I1 hsz kk un2 hok2 bare2
    exact ⟨rv, a, _, _, ⟨G, g2, d2, t2, os'⟩, H1, .ref C, none, rfl, J, kG, ge, hoe, ⟨rfl, rfl⟩, rfl, rfl, na, rfl, bare2, raises_own T.exC T.tyC, h⟩
def sRaise0 (c : Nat) : SF := fun es S => .exc c [] es S
theorem ds_raise0 {x : Str} {c j l : Nat} {p pos pos' : Pos} {P : Program} {w : World} {mg : Str → Option Value} {base : Heap} (hh : Here Γ P w mg base l X E) (T : ExF0 Γ P w mg base j x c) (hc : X.calm = true) (hj : j + 1 ≤ l := by decide) (hg : Gl X x := by rfl) (hdb : (x == ("__debug__" : Str)) = false := by decide) :
    PS X (.Raise (some (.Call (.Name x p) [] [] pos)) none pos') (dS Γ ξ (sRaise0 c) E) := by
  obtain ⟨h1, h2, h3, h4, h5, h6, h7⟩ := hh
  subst h1 h2 h4 h5
  obtain ⟨fI, fd, ps, T1, T2, T3, T4, T5, T6⟩ := T.ex
  rw [← h3] at T1 T2 T3 T4 T5
  exact (ps_raise hc h7 (pmk0 T1 T2 T3 T4 (h6.mono hj) T5 hg T6 hdb)).imp fun Dn σ H ⟨W, es, S, P0, ok, fr, h⟩ => h W σ none H (LeS.refl W) ok fr (.inl rfl)
end
end DL
set_option Elab.async false
set_option linter.all false
set_option maxRecDepth 100000
set_option maxHeartbeats 2000000
set_option autoImplicit false
/-! The data layer, 9: try with several clauses, with and without a name. -/
namespace DL
open PySem L2 PyProof.Rows

/-- a clause: its class, its name's slot, its suite's reading -/
structure Hd where
  c : Value
  i : Option Nat
  ts : Addr → Value → Option Addr → TS
def clr (i : Nat) (D : Ends) : Ends := { nx := fun σ H => D.nx (σ.set i none) H, rt := D.rt, bk := fun σ H => D.bk (σ.set i none) H, ct := fun σ H => D.ct (σ.set i none) H }
def Hd.go (h : Hd) (D : Ends) (a : Addr) (cls : Value) (d : Option Addr) (σ : L2.St) (H : Hp) : Prop := match h.i with
  | none => h.ts a cls d D σ H
  | some i => h.ts a cls d (clr i D) (σ.set i (some (.ref a))) H
def wAll (K : PySem.W.Frag) (Wout : WX) (D : Ends) : List Hd → WX
  | [] => Wout
  | h :: r => fun cls d σ H => ∃ b, PySem.W.exmOne K cls h.c = some b ∧ (b = true → ∀ a, H a = none → h.go D a cls d σ H) ∧ (b = false → wAll K Wout D r cls d σ H)
inductive HdsA (X : Cx) : List ExceptHandler → List Hd → Prop
  | nil : HdsA X [] []
  | plain {x : Str} {c : Value} {ts : Addr → Value → Option Addr → TS} {b0 : Stmt} {suite : List Stmt} {np pos' : Pos} {hds : List ExceptHandler} {l : List Hd} (hc : Names X x c)
      (hsu : ∀ (a : Addr) (oe : Obj) (cls : Value) (d : Option Addr) (pn : List (Addr × Obj)), Zc cls d oe → (∃ vs, oe.data = .fields vs) → PSs (X.suite a ((a, oe) :: pn)) (b0 :: suite) (ts a cls d)) (r : HdsA X hds l) :
      HdsA X (.ExceptHandler (some (.Name x np)) none (b0 :: suite) pos' :: hds) (⟨c, none, ts⟩ :: l)
  | named {x n : Str} {i : Nat} {c : Value} {ts : Addr → Value → Option Addr → TS} {b0 : Stmt} {suite : List Stmt} {np pos' : Pos} {hds : List ExceptHandler} {l : List Hd} (hc : Names X x c) (hi : X.N[i]? = some n) (hln : X.env.kindOf n = some .local)
      (hsu : ∀ (a : Addr) (oe : Obj) (cls : Value) (d : Option Addr) (pn : List (Addr × Obj)), Zc cls d oe → (∃ vs, oe.data = .fields vs) → PSs (X.suite a ((a, oe) :: pn)) (b0 :: suite) (ts a cls d)) (r : HdsA X hds l) :
      HdsA X (.ExceptHandler (some (.Name x np)) (some n) (b0 :: suite) pos' :: hds) (⟨c, some i, ts⟩ :: l)
section
variable {X : Cx} {body : List Stmt} {h0 : ExceptHandler} {hds : List ExceptHandler} {l : List Hd} {pos : Pos} {tb : WX → TS} {Wout : WX}
theorem ps_tryA (hs : X.stack = X.env :: X.outer) (hf : X.env.frame = some X.env.locals) (hN : X.N.Nodup) (tk : Takes X Wout)
    (hb : ∀ (W : WX) (pn : List (Addr × Obj)) (xe : Value → Shared → Prop), Takes (X.tr pn xe) W → PassesOwn (model X.prog X.w) X.A X.env xe → PSs (X.tr pn xe) body (tb W)) (hh : HdsA X (h0 :: hds) l) :
    PS X (.Try body (h0 :: hds) [] [] pos) (fun D σ H => tb (wAll X.K Wout D l) D σ H) := by
  refine ⟨fun pins s σ H D I hrun => ?_⟩
  have okX := I.ok
  have frs' : X.A.frames = some (X.env :: X.outer) := by rw [okX.frames, hs]
  refine wpAny_Try_except ?_
  let after : Value → Shared → Prop := fun e s1 => wpAny (model X.prog X.w) X.A (noteFrame e X.env) (fun _ s2 => wpAny (model X.prog X.w) X.A (setFlight e none) (fun _ s3 => wpAny (model X.prog X.w) X.A (handleBy e X.env (h0 :: hds)) (SP X pins D) X.xe s3) X.xe s2) X.xe s1
  have caught : Takes (X.tr (X.pn ++ pins) after) (wAll X.K Wout D l) := by
    rintro u s' ⟨a, B, sI, pins', σ', H', cls, d, rfl, J', nb, up, sky, na, os, ag, w⟩
    have J : Inv X pins σ' H' sI := J'.ofTry okX
    have sky2 : Sky B (X.env :: X.outer) a (Zc cls d) X.env.locals s'.heap := by rw [← hs]; exact sky
    show wpAny (model X.prog X.w) X.A (noteFrame (.ref a) X.env) _ _ _
    refine Sky.land Zc.steady frs' hf sky2 fun h3 fl3 up3 => ?_
    have J3 : Inv X pins σ' H' { s' with heap := h3 } := J.landed nb fl3.1 (up.trans up3) os ag
    obtain ⟨oe3, vs3, he3, hz3, hd3⟩ := fl3.there
    have notIn : a ∉ frs (X.env :: X.outer) := fun hm => by
      obtain ⟨_, o', e', hnf⟩ := fl3.2.2.1.mem hm
      rw [he3] at e'
      cases e'
      exact hnf _ hd3
    have nL : a ≠ X.env.locals := fun z => notIn (List.mem_filterMap.mpr ⟨X.env, List.mem_cons_self, by rw [hf, z]⟩)
    have nF : a ∉ X.fs := fun hm => by
      obtain ⟨e, he, q⟩ := List.mem_filterMap.mp hm
      exact notIn (List.mem_filterMap.mpr ⟨e, List.mem_cons_of_mem _ he, q⟩)
    have S3 := J3.suite he3 hd3 na nL nF
    -- one clause's name is looked up
    have test : ∀ {x : Str} {c : Value} {np : Pos}, Names X x c → ∀ {Q : Value → Shared → Prop} {E : Value → Shared → Prop}, Q c { s' with heap := h3 } → wpAny (model X.prog X.w) (X.A.mark (some (.ref a))) (eval (.Name x np) X.env) Q E { s' with heap := h3 } := fun {x c np} hc {Q E} q => by
      obtain ⟨hg, hdbg, hm | ⟨hm, hv, hnn⟩⟩ := hc
      · exact ld_glob (X := X.suite a ((a, oe3) :: (X.pn ++ pins))) S3 hg hm q hdbg
      · exact ld_blt (X := X.suite a ((a, oe3) :: (X.pn ++ pins))) S3 hg hm hv q hnn hdbg
    have LT : PySem.W.Looks (model X.prog X.w) h3 (typeOf (.ref a)) cls := fun A Q E s k q => wpAny_typeOf_ref (k _ _ he3) (by rw [hz3.1]; exact q)
    have all : ∀ {hs' : List ExceptHandler} {l' : List Hd}, HdsA X hs' l' → wAll X.K Wout D l' cls d σ' H' → wpAny (model X.prog X.w) X.A (handleBy (.ref a) X.env hs') (SP X pins D) X.xe { s' with heap := h3 } := by
      intro hs' l' hk
      induction hk with
      | nil =>
        intro w
        refine wpAny_handleBy_nil ?_
        obtain ⟨_, _, _, oe, vs, T, oT, ts', he, hz, hd, hT, hr⟩ := id fl3
        unfold PySem.passOn
        refine wpAny_bind (wpAny_field he hd hT ?_)
        rw [if_neg (show ¬ ((Value.ref T == Value.none) = true) from by simp)]
        have fin : wpAny (model X.prog X.w) X.A (setFlight (.ref a) X.env.frame) (fun _ s4 => wpAny (model X.prog X.w) X.A (throw (.ref a) : Sem Flow) (SP X pins D) X.xe s4) X.xe { s' with heap := h3 } := by
          rw [hf]
          exact HandSPX.setFlight_upZ fl3 fun h4 hh4 up4 => wpAny_throw (tk _ _ ⟨a, B, sI, pins, σ', H', cls, d, rfl, J, nb, (up.trans up3).trans up4, .inr (.inr (by rw [hs]; exact hh4)), na, os, ag, w⟩)
        first
          | exact wpAny_bind (wpAny_pure (wpAny_bind fin))
          | exact wpAny_bind fin
      | @plain x c ts b0 suite np pos' hds2 l2 hc hsu r ih =>
        rintro ⟨b, hb1, hyes, hno⟩
        refine wpAny_handleBy_cons (codeAny_handlers_test ?_) (by intro q; cases q)
        refine test hc ((PySem.W.exm_one (M := model X.prog X.w) J3.kIn LT hb1).here ?_)
        cases b with
        | false =>
          show wpAny _ X.A (handleBy (.ref a) X.env hds2) _ _ _
          exact ih (hno rfl)
        | true =>
          refine codeAny_handlers_suite (HandSPX.lands_againZ fl3 fun h4 fl4 up4 => ?_)
          have J4 : Inv X pins σ' H' { s' with heap := h4 } := J.landed nb fl4.1 ((up.trans up3).trans up4) os ag
          obtain ⟨oe4, vs4, he4, hz4, hd4⟩ := fl4.there
          have S4 := J4.suite he4 hd4 na nL nF
          refine wpAny_mono ((hsu a oe4 cls d (X.pn ++ pins) hz4 ⟨_, hd4⟩).run [] _ _ H' _ S4 (hyes rfl a na)) (fun f s6 hsp => ?_) (fun _ _ z => False.elim z)
          match f, hsp with
          | .next, ⟨_, _, S6, q6⟩ => exact ⟨_, _, S6.unsuite okX, q6⟩
          | .brk, ⟨_, _, S6, q6⟩ => exact ⟨_, _, S6.unsuite okX, q6⟩
          | .cont, ⟨_, _, S6, q6⟩ => exact ⟨_, _, S6.unsuite okX, q6⟩
          | .ret u, ⟨_, _, _, S6, r6, q6⟩ => exact ⟨_, _, _, S6.unsuite okX, r6, q6⟩
      | @named x n i c ts b0 suite np pos' hds2 l2 hc hi hln hsu r ih =>
        rintro ⟨b, hb1, hyes, hno⟩
        refine wpAny_handleBy_cons (codeAny_handlers_test ?_) (by intro q; cases q)
        refine test hc ((PySem.W.exm_one (M := model X.prog X.w) J3.kIn LT hb1).here ?_)
        cases b with
        | false =>
          show wpAny _ X.A (handleBy (.ref a) X.env hds2) _ _ _
          exact ih (hno rfl)
        | true =>
          refine codeAny_handlers_suite_as (HandSPX.lands_againZ fl3 fun h4 fl4 up4 => ?_)
          have J4 : Inv X pins σ' H' { s' with heap := h4 } := J.landed nb fl4.1 ((up.trans up3).trans up4) os ag
          obtain ⟨oe4, vs4, he4, hz4, hd4⟩ := fl4.there
          have S4 := J4.suite he4 hd4 na nL nF
          refine store_ok (X := X.suite a ((a, oe4) :: (X.pn ++ pins))) (v := .ref a) S4 hN hi (.inl hln) rfl (fun s5 S5 => ?_) (.inr hln)
          refine wpAny_mono ((hsu a oe4 cls d (X.pn ++ pins) hz4 ⟨_, hd4⟩).run [] s5 _ H' _ S5 (hyes rfl a na)) (fun f s6 hsp => ?_) (fun _ _ z => False.elim z)
          match f, hsp with
          | .next, ⟨_, _, S6, q6⟩ => exact gone_ok (S6.unsuite okX) hN hi hln fun s7 J7 => ⟨_, _, J7, q6⟩
          | .brk, ⟨_, _, S6, q6⟩ => exact gone_ok (S6.unsuite okX) hN hi hln fun s7 J7 => ⟨_, _, J7, q6⟩
          | .cont, ⟨_, _, S6, q6⟩ => exact gone_ok (S6.unsuite okX) hN hi hln fun s7 J7 => ⟨_, _, J7, q6⟩
          | .ret u, ⟨_, _, _, S6, r6, q6⟩ => exact gone_ok (S6.unsuite okX) hN hi hln fun s7 J7 => ⟨_, _, _, J7, r6, q6⟩
    exact all hh w
  refine wpAny_mono ((hb (wAll X.K Wout D l) (X.pn ++ pins) after caught PassesOwn.looking).run [] s σ H D (I.toTry _) hrun) (fun f s1 hsp => ?_) (fun e s1 he => he)
  match f, hsp with
  | .next, ⟨_, _, J, q⟩ => exact wpAny_execs_nil ⟨_, _, J.ofTry okX, q⟩
  | .brk, ⟨_, _, J, q⟩ => exact ⟨_, _, J.ofTry okX, q⟩
  | .cont, ⟨_, _, J, q⟩ => exact ⟨_, _, J.ofTry okX, q⟩
  | .ret u, ⟨_, _, _, J, r, q⟩ => exact ⟨_, _, _, J.ofTry okX, r, q⟩
end
end DL
set_option Elab.async false
set_option linter.all false
set_option maxRecDepth 100000
set_option maxHeartbeats 2000000
set_option autoImplicit false
/-! The data layer, 10: try, and the fields of what is caught. -/
namespace DL
open PySem L2 PyProof.Rows

section
variable {Γ : Pg} {ξ : Xx} {X : Cx} {E : WX}
/-! ### slots that no caught exception stands in -/
def plain (es : List SD) : Bool := es.all fun s => match s with
  | .exn _ _ => false
  | .slf => false
  | _ => true
theorem SlotsR.other {ξ' : Xx} {W : Wd} : ∀ {es : List SD} {σ : L2.St} {own : List (Addr × HO)}, SlotsR Γ ξ W es σ own → plain es = true → SlotsR Γ ξ' W es σ own
  | [], σ, own, h, _ => h
  | .no :: es, σ, own, h, hp => by
    obtain ⟨o, σ', rfl, h2⟩ := h
    exact ⟨o, σ', rfl, SlotsR.other h2 (by simpa [plain] using hp)⟩
  | .val d :: es, σ, own, h, hp => by
    obtain ⟨v, σ', rfl, h2, h3⟩ := h
    exact ⟨v, σ', rfl, h2, SlotsR.other h3 (by simpa [plain] using hp)⟩
  | .acc ds :: es, σ, own, h, hp => by
    obtain ⟨a, vs, σ', own', rfl, rfl, h3, h4⟩ := h
    exact ⟨a, vs, σ', own', rfl, rfl, h3, SlotsR.other h4 (by simpa [plain] using hp)⟩
  | .exn k fs :: es, σ, own, h, hp => by simp [plain] at hp
  | .slf :: es, σ, own, h, hp => by simp [plain] at hp
theorem SlotsR.setExn {ξ' : Xx} {W : Wd} {k : Nat} {fs : List (Str × D)} (hc : ξ'.c = .ref (Γ.cl k)) (hx : RepX (Γ := Γ) W fs ξ'.d) : ∀ {es : List SD} {σ : L2.St} {own : List (Addr × HO)} (i : Nat), SlotsR Γ ξ' W es σ own → (∀ ds, es[i]? ≠ some (.acc ds)) → SlotsR Γ ξ' W (es.set i (.exn k fs)) (σ.set i (some (.ref ξ'.a))) own
  | [], σ, own, i, h, _ => by obtain ⟨rfl, rfl⟩ := h; exact ⟨rfl, rfl⟩
  | .no :: es, σ, own, i, h, hn => by
    obtain ⟨o, σ', rfl, h2⟩ := h
    cases i with
    | zero => exact ⟨σ', rfl, hc, hx, h2⟩
    | succ i => exact ⟨o, _, rfl, SlotsR.setExn hc hx i h2 (by simpa using hn)⟩
  | .val d0 :: es, σ, own, i, h, hn => by
    obtain ⟨v0, σ', rfl, h2, h3⟩ := h
    cases i with
    | zero => exact ⟨σ', rfl, hc, hx, h3⟩
    | succ i => exact ⟨v0, _, rfl, h2, SlotsR.setExn hc hx i h3 (by simpa using hn)⟩
  | .acc ds :: es, σ, own, i, h, hn => by
    obtain ⟨a, vs, σ', own0, rfl, rfl, h3, h4⟩ := h
    cases i with
    | zero => exact absurd rfl (hn ds)
    | succ i => exact ⟨a, vs, _, own0, rfl, rfl, h3, SlotsR.setExn hc hx i h4 (by simpa using hn)⟩
  | .exn k fs :: es, σ, own, i, h, hn => by
    obtain ⟨σ', rfl, h2, h3, h4⟩ := h
    cases i with
    | zero => exact ⟨σ', rfl, hc, hx, h4⟩
    | succ i => exact ⟨_, rfl, h2, h3, SlotsR.setExn hc hx i h4 (by simpa using hn)⟩
  | .slf :: es, σ, own, i, h, hn => by
    obtain ⟨σ', rfl, h4⟩ := h
    cases i with
    | zero => exact ⟨σ', rfl, hc, hx, h4⟩
    | succ i => exact ⟨_, rfl, SlotsR.setExn hc hx i h4 (by simpa using hn)⟩
theorem Frame.other {ξ' : Xx} {W : Wd} {es : List SD} {σ : L2.St} {P0 : Hp} (h : Frame Γ ξ W es σ P0) (hp : plain es = true) : Frame Γ ξ' W es σ P0 := by
  obtain ⟨own, h1, h2⟩ := h
  exact ⟨own, h1.other hp, h2⟩

/-! ### try -/
/-- which exception a clause takes: (the exception's class, the clause's class, whether) -/
abbrev Mts := List (Nat × Nat × Bool)
def mtD (ps : Mts) (k j : Nat) : Option Bool := (ps.find? fun p => p.1 == k && p.2.1 == j).map (·.2.2)
def MtF (Γ : Pg) (ps : Mts) : Prop := ∀ p ∈ ps, PySem.W.exmOne Γ.K (.ref (Γ.cl p.1)) (.ref (Γ.cl p.2.1)) = some p.2.2
theorem mtD_of {ps : Mts} (h : MtF Γ ps) {k j : Nat} {b : Bool} (e : mtD ps k j = some b) : PySem.W.exmOne Γ.K (.ref (Γ.cl k)) (.ref (Γ.cl j)) = some b := by
  unfold mtD at e
  rw [Option.map_eq_some_iff] at e
  obtain ⟨p, h1, h2⟩ := e
  have h3 := h p (List.mem_of_find?_eq_some h1)
  have h4 := List.find?_some h1
  simp only [Bool.and_eq_true, beq_iff_eq] at h4
  rw [← h4.1, ← h4.2, ← h2]
  exact h3
def clrF (i : Nat) (r : Fl) : Fl := match r with
  | .next es S => if plain (es.set i .no) = true ∧ noAcc es [i] = true then .next (es.set i .no) S else .bad
  | .ret d S => .ret d S
  | _ => .bad
def endF (r : Fl) : Fl := match r with
  | .next es S => if plain es = true then .next es S else .bad
  | .ret d S => .ret d S
  | _ => .bad
abbrev Cl := Nat × Option Nat × SF
def tryL (ps : Mts) (k : Nat) (fs : List (Str × D)) (es : List SD) (S : Store) : List Cl → Fl
  | [] => .exc k fs es S
  | (j, o, f) :: r => match mtD ps k j with
    | some false => tryL ps k fs es S r
    | some true => match o with
      | none => endF (f es S)
      | some i => if noAcc es [i] = true then clrF i (f (es.set i (.exn k fs)) S) else .bad
    | none => .bad
def sTry (ps : Mts) (b : SF) (cs : List Cl) : SF := fun es S => match b es S with
  | .exc k fs es1 S1 => if plain es1 = true then tryL ps k fs es1 S1 cs else .bad
  | r => r
def hdOf (Γ : Pg) (c : Cl) : Hd := ⟨.ref (Γ.cl c.1), c.2.1, fun a cls d => dS Γ ⟨a, cls, d⟩ c.2.2 E0⟩
theorem try_of {ps : Mts} {cs : List Cl} {Dn : Ends} (hK : X.K = Γ.K) (hm : MtF Γ ps) {k : Nat} {fs : List (Str × D)} {es : List SD} {S : Store} {W : Wd} {P0 : Hp} (hp : plain es = true) (h : ContS Γ ξ (tryL ps k fs es S cs) W P0 Dn E) :
    ∀ W' σ' d H', LeS W W' → Ok Γ W' S H' → Frame Γ ξ W' es σ' P0 → RepX (Γ := Γ) W' fs d → wAll X.K E Dn (cs.map (hdOf Γ)) (.ref (Γ.cl k)) d σ' H' := by
  induction cs with
  | nil => exact fun W' σ' d H' l o fr rx => h W' σ' d H' l o fr rx
  | cons c cs ih =>
    obtain ⟨j, o, f⟩ := c
    intro W' σ' d H' l ok fr rx
    unfold tryL at h
    cases em : mtD ps k j with
    | none => rw [em] at h; exact h.elim
    | some b =>
      rw [em] at h
      refine ⟨b, by rw [hK]; exact mtD_of hm em, fun hb a ha => ?_, fun hb => ?_⟩
      · subst hb
        simp only at h
        cases o with
        | none =>
          simp only at h
          show dS Γ ⟨a, _, d⟩ f E0 Dn σ' H'
          refine ⟨W', es, S, P0, ok, fr.other hp, ?_⟩
          cases ef : f es S with
          | next es2 S2 =>
            rw [ef] at h
            simp only [endF] at h
            split at h
            case isFalse => exact h.elim
            rename_i hq
            exact fun W2 σ2 H2 l2 ok2 fr2 => h W2 σ2 H2 (l.trans l2) ok2 (fr2.other hq)
          | ret d2 S2 =>
            rw [ef] at h
            exact fun W2 v2 H2 l2 hP ok2 r2 => h W2 v2 H2 (l.trans l2) hP ok2 r2
          | brk es2 S2 => rw [ef] at h; exact h.elim
          | ct es2 S2 => rw [ef] at h; exact h.elim
          | exc k2 fs2 es2 S2 => rw [ef] at h; exact h.elim
          | bad => rw [ef] at h; exact h.elim
        | some i =>
          simp only at h
          split at h
          case isFalse => exact h.elim
          rename_i hna
          show dS Γ ⟨a, _, d⟩ f E0 (clr i Dn) (σ'.set i (some (.ref a))) H'
          obtain ⟨own, f1, f2⟩ := fr
          refine ⟨W', es.set i (.exn k fs), S, P0, ok, ⟨own, SlotsR.setExn (ξ' := ⟨a, .ref (Γ.cl k), d⟩) rfl rx i (f1.other hp) (noAcc_at hna (by simp)), f2⟩, ?_⟩
          cases ef : f (es.set i (.exn k fs)) S with
          | next es2 S2 =>
            rw [ef] at h
            simp only [clrF] at h
            split at h
            case isFalse => exact h.elim
            rename_i hq
            intro W2 σ2 H2 l2 ok2 ⟨own2, g1, g2⟩
            exact h W2 (σ2.set i none) H2 (l.trans l2) ok2 ⟨own2, SlotsR.other (g1.setNo i (noAcc_at hq.2 (by simp))) hq.1, g2⟩
          | ret d2 S2 =>
            rw [ef] at h
            exact fun W2 v2 H2 l2 hP ok2 r2 => h W2 v2 H2 (l.trans l2) hP ok2 r2
          | brk es2 S2 => rw [ef] at h; exact h.elim
          | ct es2 S2 => rw [ef] at h; exact h.elim
          | exc k2 fs2 es2 S2 => rw [ef] at h; exact h.elim
          | bad => rw [ef] at h; exact h.elim
      · subst hb
        simp only at h
        exact ih h W' σ' d H' l ok fr rx
theorem ds_try {body : List Stmt} {h0 : ExceptHandler} {hds : List ExceptHandler} {pos : Pos} {f : SF} {cs : List Cl} {ps : Mts} (hs : X.stack = X.env :: X.outer) (hf : X.env.frame = some X.env.locals) (hN : X.N.Nodup) (tk : Takes X E) (hK : X.K = Γ.K) (hm : MtF Γ ps)
    (hb : ∀ (W : WX) (pn : List (Addr × Obj)) (xe : Value → Shared → Prop), Takes (X.tr pn xe) W → PassesOwn (model X.prog X.w) X.A X.env xe → PSs (X.tr pn xe) body (dS Γ ξ f W)) (hh : HdsA X (h0 :: hds) (cs.map (hdOf Γ))) :
    PS X (.Try body (h0 :: hds) [] [] pos) (dS Γ ξ (sTry ps f cs) E) := (ps_tryA (tb := fun W => dS Γ ξ f W) hs hf hN tk hb hh).imp fun Dn σ H ⟨W, es, S, P0, ok, fr, h⟩ => by
  refine ⟨W, es, S, P0, ok, fr, ?_⟩
  unfold sTry at h
  cases ef : f es S with
  | exc k fs es1 S1 =>
    rw [ef] at h
    simp only at h
    split at h
    case isFalse => exact h.elim
    rename_i hp
    exact fun W' σ' d H' l ok' fr' rx => try_of hK hm hp h W' σ' d H' l ok' fr' rx
  | next es2 S2 => rw [ef] at h; exact h
  | brk es2 S2 => rw [ef] at h; exact h
  | ct es2 S2 => rw [ef] at h; exact h
  | ret d2 S2 => rw [ef] at h; exact h
  | bad => rw [ef] at h; exact h.elim
/-- e.f of what is caught -/
def XfF (Γ : Pg) (ks : List Nat) (n : Str) : Prop := ∀ k ∈ ks, XfC Γ.K (Γ.cl k) ∧ PySem.W.findIn Γ.K (.ref (Γ.cl k)) n = some none
def eXf (ks : List Nat) (i : Nat) (n : Str) : EF := fun es S => match es[i]? with
  | some (.exn k fs) => if k ∈ ks then match fs with
    | [(m, d)] => if m = n then .ok d S else .bad
    | _ => .bad
    else .bad
  | _ => .bad
theorem de_xf {a : Addr} {oe : Obj} {cls : Value} {d : Option Addr} {pn : List (Addr × Obj)} {x n : Str} {i : Nat} {ks : List Nat} {p pos : Pos} (hK : X.K = Γ.K) (T : XfF Γ ks n) (hz : Zc cls d oe) (hf : ∃ vs, oe.data = .fields vs) (he : PE (X.suite a ((a, oe) :: pn)) (.Name x p) (tVar i))
    (hb : attributeBase (.Name x p) n X.env (eval (.Name x p) X.env) = eval (.Name x p) X.env := by rfl) : PE (X.suite a ((a, oe) :: pn)) (.Attribute (.Name x p) n pos) (dE Γ ⟨a, cls, d⟩ (eXf ks i n) E0) := by
  refine ⟨fun pins s σ H Q I ⟨W, es, S, P0, ok, ⟨own, fr, o⟩, h⟩ => ?_⟩
  unfold eXf at h
  split at h
  case h_2 => exact h.elim
  rename_i k fs hi
  split at h
  case isFalse => exact h.elim
  rename_i hk
  split at h
  case h_2 => exact h.elim
  rename_i m dd
  split at h
  case isFalse => exact h.elim
  rename_i hmn
  subst hmn
  obtain ⟨q1, q2, q3⟩ := fr.exn hi
  obtain ⟨T1, T2⟩ := T k hk
  rcases q3 with q3 | ⟨dx, vfs, q3, q4, q5, q6⟩
  · cases q3
  have q3 : d = some dx := q3
  have q2 : cls = .ref (Γ.cl k) := q2
  obtain ⟨v, hv, rv⟩ : ∃ v, vfs = [(m, v)] ∧ Rep Γ W dd v := by
    match vfs, q5, q6 with
    | [(m', v)], q5, q6 =>
      simp only [List.map_cons, List.map_nil, List.cons.injEq, and_true] at q5
      simp only [List.map_cons, List.map_nil, Reps] at q6
      obtain ⟨_, _, e, r, e2⟩ := q6
      cases e
      subst q5
      exact ⟨v, rfl, r⟩
  refine (pe_xf (C := Γ.cl k) (te := tVar i) (by rw [hK]; exact T1) (by rw [hK]; exact T2) hz hf he hb).run pins s σ H Q I ⟨.ref a, q1, rfl, q2, dx, vfs, v, q3, ok.f _ _ q4, ?_, h W v H (Le.refl W) ok rv⟩
  rw [hv]
  simp [List.lookup]
end
end DL
set_option Elab.async false
set_option linter.all false
set_option maxRecDepth 100000
set_option maxHeartbeats 2000000
set_option autoImplicit false
/-! zip of two and of three, enumerate: over lists and tuples in any mixture. -/
namespace DL
open PySem PySem.Spec PyProof.Rows L2

/-- what is walked: a list, or (t) a tuple, at a -/
structure Src where
  t : Bool
  a : Addr
def SqX (K : PySem.W.Frag) (H : Hp) (s : Src) (xs : List V) : Prop := match s.t with
  | true => SqT K H s.a xs
  | false => SqL K H s.a xs
def IsIt (h : Heap) (s : Src) (it : Addr) (i : Nat) : Prop := match s.t with
  | true => h.IsTupleIter it s.a i
  | false => h.IsListIter it s.a i
def IsSq (h : Heap) (s : Src) (items : Array Value) : Prop := match s.t with
  | true => h.IsTuple s.a items
  | false => h.IsList s.a items
def itObj (s : Src) : Obj := match s.t with
  | true => { cls := .type "tuple_iterator", data := .fields #[.ref s.a, .int 0 0] }
  | false => { cls := .type "list_iterator", data := .fields #[.ref s.a, .int 0 0] }
theorem drawsX {prog : Program} {w : World} {A : Around} (hh : A.handled = none) (it : Addr) (s : Src) (hne : s.a ≠ it) (items : Array Value) :
    Draws prog w A it [it, s.a] items.size (fun i v => items[i]? = some v) (fun i h => IsIt h s it i ∧ IsSq h s items) := by
  obtain ⟨t, a⟩ := s
  cases t with
  | true => exact Draws.tuple hh it a hne items
  | false => exact Draws.list hh it a hne items
theorem beginsX (s : Src) (items : Array Value) : Begins (.ref s.a) (itObj s) fun h => IsSq h s items := by
  obtain ⟨t, a⟩ := s
  cases t with
  | true => exact begins_tuple a items
  | false => exact begins_list a items
theorem isIt_new {h : Heap} {s : Src} {it : Addr} (e : h.get? it = some (itObj s)) : IsIt h s it 0 := by
  obtain ⟨t, a⟩ := s
  cases t with
  | true => exact ⟨_, e, rfl, rfl⟩
  | false => exact ⟨_, e, rfl, rfl⟩
theorem isIt_get {h : Heap} {s : Src} {it : Addr} {i : Nat} (e : IsIt h s it i) : ∃ o, h.get? it = some o ∧ ∀ v, o.data ≠ .cell v := by
  obtain ⟨t, a⟩ := s
  cases t with
  | true => obtain ⟨o, e1, _, d⟩ := e; exact ⟨o, e1, fun v q => by rw [d] at q; cases q⟩
  | false => obtain ⟨o, e1, _, d⟩ := e; exact ⟨o, e1, fun v q => by rw [d] at q; cases q⟩
theorem isIt_at {h h' : Heap} {s : Src} {it : Addr} {i : Nat} (e : IsIt h s it i) (k : ∀ o, h.get? it = some o → h'.get? it = some o) : IsIt h' s it i := by
  obtain ⟨t, a⟩ := s
  cases t with
  | true => exact Heap.IsTupleIter.at e k
  | false => exact Heap.IsListIter.at e k
section
variable {X : Cx} {pins : List (Addr × Obj)} {σ : L2.St} {H : Hp} {s : Shared}
theorem inv_seqX (I : Inv X pins σ H s) {q : Src} {xs : List V} (h : SqX X.K H q xs) : ∃ its, Vals xs its ∧ IsSq s.heap q its.toArray ∧ q.a < s.heap.objs.size := by
  obtain ⟨t, a⟩ := q
  cases t with
  | true =>
    obtain ⟨its, rv, p, _⟩ := I.tuple h
    obtain ⟨o, ho, _⟩ := id p
    exact ⟨its, rv, p, Heap.lt_size ho⟩
  | false =>
    obtain ⟨its, rv, p, _⟩ := I.list h
    exact ⟨its, rv, p.isList, p.lt⟩
theorem inv_seqX_inj (I : Inv X pins σ H s) {q : Src} {xs ys : List V} (h : SqX X.K H q xs) (h' : SqX X.K H q ys) : xs = ys := by
  obtain ⟨t, a⟩ := q
  cases t with
  | true => exact I.tuple_inj h h'
  | false => exact I.list_inj h h'
end

/-! ### two -/
def Itz2 (K : PySem.W.Frag) (a b : Src) : It :=
  ⟨fun i H => ∃ (xs ys : List V) (x y : V), SqX K H a xs ∧ SqX K H b ys ∧ xs[i]? = some x ∧ ys[i]? = some y,
    fun i H v H' => ∃ T x y, v = .ref T ∧ H T = none ∧ H' = upd H T (.tup [x, y]) ∧ (∀ xs, SqX K H a xs → xs[i]? = some x) ∧ ∀ ys, SqX K H b ys → ys[i]? = some y,
    fun i H => ∃ xs ys : List V, SqX K H a xs ∧ SqX K H b ys ∧ (xs.length = i ∨ ys.length = i) ∧ i ≤ xs.length ∧ i ≤ ys.length⟩
theorem turn_zip2X {P : Program} {w : World} {K : PySem.W.Frag} {elts : List Expr} {kk : Nat} {tpos : Pos} {a b : Src} {z TI TO i1 i2 : Addr} (D : ZipSep2 z TI TO i1 i2 [i1, a.a] [i2, b.a]) (n1 : a.a ≠ i1) (n2 : b.a ≠ i2) :
    Turn P w K (.Tuple elts kk tpos) (Itz2 K a b) [z, TI, TO, i1, i2] z (fun i h => IsZip h z TI TO .none ∧ IsTupOf2 h TI (.ref i1) (.ref i2) ∧ (∃ x y, IsTupOf2 h TO x y) ∧ IsIt h a i1 i ∧ IsIt h b i2 i) where
  mem := by simp
  obj := fun i h st c hc => by
    obtain ⟨hz, hTI, ⟨x, y, hTO⟩, h1, h2⟩ := st
    have e' : c = z ∨ c = TI ∨ c = TO ∨ c = i1 ∨ c = i2 := by simpa using hc
    rcases e' with q | q | q | q | q
    · rw [q]; exact ⟨_, hz, fun v q => nomatch q⟩
    · rw [q]; exact ⟨_, hTI, fun v q => nomatch q⟩
    · rw [q]; exact ⟨_, hTO, fun v q => nomatch q⟩
    · rw [q]; exact isIt_get h1
    · rw [q]; exact isIt_get h2
  keep := fun i h h' st k => by
    obtain ⟨hz, hTI, ⟨x, y, hTO⟩, h1, h2⟩ := st
    exact ⟨k z (by simp) _ hz, k TI (by simp) _ hTI, ⟨x, y, k TO (by simp) _ hTO⟩, isIt_at h1 fun o q => k i1 (by simp) o q, isIt_at h2 fun o q => k i2 (by simp) o q⟩
  item := by
    intro X hP hw hK hc i pins s σ H E I hf st hg
    subst hP hw hK
    obtain ⟨hz, hTI, ⟨x0, y0, hTO⟩, h1, h2⟩ := st
    obtain ⟨xs, ys, x, y, hqx, hqy, hx, hy⟩ := hg
    obtain ⟨its, rv, p, _⟩ := inv_seqX I hqx
    obtain ⟨its2, rv2, p2, _⟩ := inv_seqX I hqy
    obtain ⟨u, hu, ru⟩ := rv.get hx
    obtain ⟨u2, hu2, ru2⟩ := rv2.get hy
    have hzl : z < s.heap.objs.size := Heap.lt_size hz
    have g1 : i < its.toArray.size := by simpa using (List.getElem?_eq_some_iff.mp hu).1
    have g2 : i < its2.toArray.size := by simpa using (List.getElem?_eq_some_iff.mp hu2).1
    refine wpAny_pyNext_zipD2_item D (drawsX (A := X.A.in1) (I.ok.hd hc) i1 a n1 its.toArray) (drawsX (A := X.A.in1) (I.ok.hd hc) i2 b n2 its2.toArray) hz hTI hTO ⟨h1, p⟩ ⟨h2, p2⟩ g1 g2 fun v1 v2 h' tk e1 e2 z' TO' d1 d2 hT hsz hk => ?_
    obtain rfl : u = v1 := by
      have : its.toArray[i]? = some u := by simpa using hu
      exact Option.some.inj (this.symm.trans e1)
    obtain rfl : u2 = v2 := by
      have : its2.toArray[i]? = some u2 := by simpa using hu2
      exact Option.some.inj (this.symm.trans e2)
    refine ⟨_, rfl, wpAny_letOwnedTupleGo_zip (s := { s with heap := h', toks := tk }) z' fun h'' z'' sb => ?_⟩
    have hT2 : h''.get? s.heap.objs.size = some { cls := .type "tuple", data := .seq #[u, u2] } := (sb.2 _ (Nat.ne_of_gt hzl)).trans hT
    have new : ObjOk X.prog X.w (upd H s.heap.objs.size (.tup [x, y])) h'' s.heap.objs.size (.tup [x, y]) :=
      ⟨by show 2 ≤ sizeLine; decide, [u, u2], .cons ru (.cons ru2 .nil), ⟨_, hT2, rfl, _, rfl⟩⟩
    have I1 : Inv X pins σ (upd H s.heap.objs.size (.tup [x, y])) { s with heap := h'', toks := tk } :=
      I.turnedNew (t' := tk) (ch := [z, TI, TO, i1, i2]) (fun c o hb q => (sb.2 c (fun q' => hb (by simp [q']))).trans (hk c o (fun q' => hb (by simp [q'])) (fun q' => hb (by simp [q'])) (fun q' => hb (by simp [q'])) (fun q' => hb (by simp [q'])) q)) hf (Nat.le_refl _) new
    refine ⟨.ref s.heap.objs.size, _, I1, rfl, ⟨_, x, y, rfl, I.hok.fresh (Nat.le_refl _), rfl, fun l hl => by rw [inv_seqX_inj I hl hqx]; exact hx, fun l hl => by rw [inv_seqX_inj I hl hqy]; exact hy⟩, ⟨z'', ?_, ⟨u, u2, ?_⟩, ?_, ?_⟩, fun c hcm => ?_⟩
    · exact (sb.2 _ D.TIz).trans (hk _ _ D.TIz D.TITO D.TIi1 D.TIi2 hTI)
    · exact (sb.2 _ D.TOz).trans TO'
    · exact isIt_at d1.1 fun o q => (sb.2 _ D.zi1.symm).trans q
    · exact isIt_at d2.1 fun o q => (sb.2 _ D.zi2.symm).trans q
    · have hlt : c < s.heap.objs.size := by
        have e' : c = z ∨ c = TI ∨ c = TO ∨ c = i1 ∨ c = i2 := by simpa using hcm
        rcases e' with q | q | q | q | q
        · rw [q]; exact hzl
        · rw [q]; exact Heap.lt_size hTI
        · rw [q]; exact Heap.lt_size hTO
        · rw [q]; obtain ⟨_, e1, _⟩ := isIt_get h1; exact Heap.lt_size e1
        · rw [q]; obtain ⟨_, e2, _⟩ := isIt_get h2; exact Heap.lt_size e2
      rw [upd_ne (Nat.ne_of_lt hlt)]
      exact (hf c hcm).1
  done := by
    intro X hP hw hK hc i pins s σ H E I hf st hg
    subst hP hw hK
    obtain ⟨hz, hTI, ⟨x0, y0, hTO⟩, h1, h2⟩ := st
    obtain ⟨xs, ys, hqx, hqy, hend, hl1, hl2⟩ := hg
    obtain ⟨its, rv, p, _⟩ := inv_seqX I hqx
    obtain ⟨its2, rv2, p2, _⟩ := inv_seqX I hqy
    have l1 := rv.length
    have l2 := rv2.length
    refine wpAny_pyNext_zipD2_end D (drawsX (A := X.A.in1) (I.ok.hd hc) i1 a n1 its.toArray) (drawsX (A := X.A.in1) (I.ok.hd hc) i2 b n2 its2.toArray) (i := i) hz hTI hTO ⟨h1, p⟩ ⟨h2, p2⟩ (by simp; omega) (by simp; omega) (by simp; omega) fun h' tk hk => ⟨rfl, I.turnedL (t' := tk) (ch := [z, TI, TO, i1, i2]) (fun c o hb q =>
      hk c o (fun q' => hb (by simp [q'])) (fun q' => hb (by simp [q'])) (fun q' => hb (by simp [q'])) (fun q' => hb (by simp [q'])) q) hf⟩
  self := fun A i s Q E st h => wpAny_pyIter_zip st.1 h
def iZip2 (K : PySem.W.Frag) (ta : TA) : TI := fun σ H R => ta σ H fun vs H1 => ∃ (a b : Src) (xs ys : List V), vs = [.ref a.a, .ref b.a] ∧ SqX K H1 a xs ∧ SqX K H1 b ys ∧ R (Itz2 K a b) H1
theorem pi_zip2X {X : Cx} {e e2 : Expr} {ta : TA} {p pos tpos : Pos} {elts : List Expr} {kk : Nat} (hg : Gl X "zip") (hm : X.mg "zip" = none) (ha : PA X [e, e2] ta)
    (hs : starEach [e, e2] X.env = (false, eval e X.env) :: starEach [e2] X.env := by rfl) (hpl : (backTo pos (starEach [e2] X.env)).any (·.1) = false := by rfl) :
    PI X (.Tuple elts kk tpos) (.Call (.Name "zip" p) [e, e2] [] pos) (iZip2 X.K ta) := by
  refine ⟨fun pins s σ H R I h => ?_⟩
  refine Call_ (ld_blt I hg hm PyProof.Rows.boot_zip (PyProof.Rows.callWith_type1 (thn (ha.run pos pins s σ H _ I h) fun us s1 ⟨vs, H1, I1, r1, q1⟩ => ?_) hs hpl))
  obtain ⟨a, b, xs, ys, ex, hqx, hqy, q⟩ := q1
  subst ex
  cases r1 with
  | cons r rr =>
    cases rr with
    | cons r' rr =>
      cases rr
      cases r
      cases r'
      have fresh5 : ∀ c, c ∈ [s1.heap.objs.size + 4, s1.heap.objs.size + 2, s1.heap.objs.size + 3, s1.heap.objs.size, s1.heap.objs.size + 1] → FpOk X pins H1 c := fun c hcm => by
        have e' : c = s1.heap.objs.size + 4 ∨ c = s1.heap.objs.size + 2 ∨ c = s1.heap.objs.size + 3 ∨ c = s1.heap.objs.size ∨ c = s1.heap.objs.size + 1 := by simpa using hcm
        have hle : s1.heap.objs.size ≤ c := by
          rcases e' with z | z | z | z | z
          · rw [z]; exact Nat.le_add_right _ _
          · rw [z]; exact Nat.le_add_right _ _
          · rw [z]; exact Nat.le_add_right _ _
          · rw [z]; exact Nat.le_refl _
          · rw [z]; exact Nat.le_add_right _ _
        exact I1.fpOk hle (I1.hok.fresh hle)
      obtain ⟨its, rv, p1, la⟩ := inv_seqX I1 hqx
      obtain ⟨its2, rv2, p2, lb⟩ := inv_seqX I1 hqy
      refine zip_begins2 (beginsX a its.toArray) (beginsX b its2.toArray) p1 p2 fun h' hz hTI hTO h1 h2 hsz hk => wpAny_pyIter_zip hz ?_
      have I2 : Inv X pins σ H1 { s1 with heap := h' } := I1.kept (t' := s1.toks) hk
      exact ⟨s1.heap.objs.size + 4, [s1.heap.objs.size + 4, s1.heap.objs.size + 2, s1.heap.objs.size + 3, s1.heap.objs.size, s1.heap.objs.size + 1], _, _, H1, rfl, I2, turn_zip2X (zip_sep2 (fun b hb => by rw [List.mem_singleton.mp hb]; exact la) (fun c hb => by rw [List.mem_singleton.mp hb]; exact lb)) (Nat.ne_of_lt la) (Nat.ne_of_lt (Nat.lt_succ_of_lt lb)), ⟨hz, hTI, ⟨_, _, hTO⟩, isIt_new h1, isIt_new h2⟩, fresh5, q⟩
end DL
set_option Elab.async false
set_option linter.all false
set_option maxRecDepth 100000
set_option maxHeartbeats 2000000
set_option autoImplicit false
/-! The data layer, 11: kinds, isinstance, is, == of one's own, globals, walks, stores to cells. -/
namespace DL
open PySem L2 PyProof.Rows

section
variable {Γ : Pg} {ξ : Xx} {X : Cx} {E : WX}
/-! ### kinds -/
def kind : D → Option String
  | .non => some "NoneType"
  | .bl _ => some "bool"
  | .int _ => some "int"
  | .str _ => some "str"
  | .lst _ => some "list"
  | .cell _ => some "list"
  | .tup _ => some "tuple"
  | .dct _ _ => some "dict"
  | _ => none
theorem tyX {W : Wd} {S : Store} {H : Hp} {d : D} {v : V} {t : String} (ok : Ok Γ W S H) (r : Rep Γ W d v) (h : kind d = some t) : TyX Γ.K H v (.type t) := by
  cases d with
  | non => simp only [Rep] at r; subst r; cases h; exact .base .non
  | bl b => simp only [Rep] at r; subst r; cases h; exact .base (.bl b)
  | int b => simp only [Rep] at r; subst r; cases h; exact .base (.int b)
  | str b => simp only [Rep] at r; subst r; cases h; exact .base (.str b)
  | ty _ => cases h
  | cls _ => cases h
  | obj _ _ => cases h
  | cell i =>
    simp only [Rep] at r
    obtain ⟨a, rfl, h2⟩ := r
    obtain ⟨ds, vs, h3, h4, h5⟩ := ok.cell h2
    cases h
    exact .base (.lst h4)
  | lst ds =>
    simp only [Rep] at r
    obtain ⟨a, vs, rfl, h1, h2⟩ := r
    cases h
    rcases h1 with (e | ⟨o, e⟩) | ⟨o, its, n, hk, hc, _⟩
    · exact .base (.lst (ok.f _ _ e))
    · exact .base (.frz (ok.f _ _ e))
    · exact .kList hk hc
  | tup ds =>
    simp only [Rep] at r
    obtain ⟨a, vs, rfl, h1, h2⟩ := r
    cases h
    rcases h1 with (e | ⟨o, e⟩) | ⟨o, its, n, hk, hc, _⟩
    · exact .base (.tup (ok.f _ _ e))
    · exact .fTuple (ok.f _ _ e)
    · exact .kTuple hk hc
  | dct ks ds =>
    simp only [Rep] at r
    obtain ⟨a, kvs, vs, rfl, h1, h2⟩ := r
    cases h
    exact .base (.dK (ok.f _ _ h1))
/-! ### isinstance -/
def kinds : List String := ["NoneType", "bool", "int", "str", "list", "tuple", "dict"]
def tyIs (t n : String) : Option Bool := if kinds.contains t && kinds.contains n && n != "NoneType" then some (t == n || (t == "bool" && n == "int")) else none
theorem tyIs_kit {K : PySem.W.Frag} {t n : String} {b : Bool} (h : tyIs t n = some b) : PySem.W.kitOne K (.type t) (.type n) = some b := by
  have all : ∀ t ∈ kinds, ∀ n ∈ kinds, n ≠ "NoneType" → kitB t n = some (t == n || (t == "bool" && n == "int")) := by decide +kernel
  unfold tyIs at h
  split at h
  · rename_i c
    simp only [Bool.and_eq_true, List.contains_iff_mem, bne_iff_ne, ne_eq] at c
    rw [← h]
    exact kit_ty (all t c.1.1 n c.1.2 c.2)
  · cases h
/-- what isinstance asks of own classes: none of them is below another one or a built-in kind -/
structure IsF (Γ : Pg) (cs : List Nat) : Prop where
  b : ∀ j ∈ cs, ∀ t ∈ kinds, PySem.W.kitOne Γ.K (.type t) (.ref (Γ.cl j)) = some false
  t : ∀ k ∈ cs, ∀ n ∈ kinds, PySem.W.kitOne Γ.K (.ref (Γ.cl k)) (.type n) = some false
  c : ∀ k ∈ cs, ∀ j ∈ cs, PySem.W.kitOne Γ.K (.ref (Γ.cl k)) (.ref (Γ.cl j)) = some (k == j)
  o : ∀ k ∈ cs, ObF Γ k
def isi1 (cs : List Nat) : D → D → Option Bool := fun x c => match kind x, x, c with
  | some t, _, .ty n => tyIs t n
  | some _, _, .cls j => if j ∈ cs then some false else none
  | none, .obj k _, .ty n => if k ∈ cs ∧ n ∈ kinds then some false else none
  | none, .obj k _, .cls j => if k ∈ cs ∧ j ∈ cs then some (k == j) else none
  | _, _, _ => none
theorem kind_mem {x : D} {t : String} (h : kind x = some t) : t ∈ kinds := by
  cases x <;> cases h <;> decide
def gIsi (cs : List Nat) : D → D → Store → Res := fun x c S => match isi1 cs x c with
  | some b => .ok (.bl b) S
  | none => .bad
theorem cr_isi {cs : List Nat} (hK : X.K = Γ.K) (T : IsF Γ cs) : CallR X (.builtin "isinstance") (rC2 Γ (gIsi cs)) := by
  intro pins s σ H vs us Q I r ⟨x, y, W, S, a, b, e, ok, ra, rb, h⟩
  subst e
  unfold gIsi at h
  split at h
  case h_2 => exact h.elim
  rename_i v hv
  have fin : Q (.bl v) H := h W _ H (Le.refl W) ok (by simp only [Rep])
  unfold isi1 at hv
  split at hv
  · rename_i t n hk
    simp only [Rep] at rb
    subst rb
    exact call_isi pins s σ H _ us Q I r ⟨x, .ty n, .type t, .type n, v, rfl, .ty n, by rw [hK]; exact tyX ok ra hk, tyIs_kit hv, fin⟩
  · rename_i t j hk
    simp only [Rep] at rb
    subst rb
    split at hv
    case isFalse => cases hv
    rename_i hj
    cases hv
    exact call_isi pins s σ H _ us Q I r ⟨x, _, .type t, _, false, rfl, .own _, by rw [hK]; exact tyX ok ra hk, by rw [hK]; exact T.b j hj t (kind_mem hk), fin⟩
  · rename_i k ds n hk
    simp only [Rep] at rb
    subst rb
    split at hv
    case isFalse => cases hv
    rename_i hj
    cases hv
    rcases T.o k hj.1 with c | ⟨ns, c⟩
    · obtain ⟨p, dx, ws, rfl, q2, q3⟩ := asO c ok ra
      exact SlX.call_isiSl (.type n) pins s σ H _ us Q I r ⟨p, _, dx, _, .ty n, false, rfl, rfl, fun w hw => hw, q2, by rw [hK]; exact c.sc, by rw [hK]; exact c.si, by rw [hK]; exact T.t k hj.1 n hj.2, fin⟩
    · obtain ⟨p, dx, ws, rfl, q2, hl, q3⟩ := asC c ok ra
      exact call_isi pins s σ H _ us Q I r ⟨_, .ty n, .ref (Γ.cl k), .type n, false, rfl, .ty n, .base (.ins q2 (by rw [hK]; exact c.cl) (by rw [hK]; exact c.si.ca) (by rw [hK]; exact c.si.cn) (by rw [hK]; exact c.si.ct) (by rw [hK]; exact c.si.cm)), by rw [hK]; exact T.t k hj.1 n hj.2, fin⟩
  · rename_i k ds j hk
    simp only [Rep] at rb
    subst rb
    split at hv
    case isFalse => cases hv
    rename_i hj
    cases hv
    rcases T.o k hj.1 with c | ⟨ns, c⟩
    · obtain ⟨p, dx, ws, rfl, q2, q3⟩ := asO c ok ra
      exact SlX.call_isiSl (.ref (Γ.cl j)) pins s σ H _ us Q I r ⟨p, _, dx, _, .ref (Γ.cl j), _, rfl, rfl, fun w hw => hw, q2, by rw [hK]; exact c.sc, by rw [hK]; exact c.si, by rw [hK]; exact T.c k hj.1 j hj.2, fin⟩
    · obtain ⟨p, dx, ws, rfl, q2, hl, q3⟩ := asC c ok ra
      exact call_isi pins s σ H _ us Q I r ⟨_, _, .ref (Γ.cl k), _, _, rfl, .own _, .base (.ins q2 (by rw [hK]; exact c.cl) (by rw [hK]; exact c.si.ca) (by rw [hK]; exact c.si.cn) (by rw [hK]; exact c.si.ct) (by rw [hK]; exact c.si.cm)), by rw [hK]; exact T.c k hj.1 j hj.2, fin⟩
  · cases hv

/-! ### is, is not: beside None and truths -/
def isNon : D → Bool
  | .non => true
  | _ => false
theorem isNon_rep {W : Wd} {d : D} {v : V} (r : Rep Γ W d v) : decide (v = .non) = isNon d := by
  cases d with
  | non => simp only [Rep] at r; subst r; rfl
  | bl b => simp only [Rep] at r; subst r; rfl
  | int b => simp only [Rep] at r; subst r; rfl
  | str b => simp only [Rep] at r; subst r; rfl
  | ty b => simp only [Rep] at r; subst r; rfl
  | cls b => simp only [Rep] at r; subst r; rfl
  | cell i => simp only [Rep] at r; obtain ⟨a, rfl, _⟩ := r; rfl
  | lst ds => simp only [Rep] at r; obtain ⟨a, vs, rfl, _⟩ := r; rfl
  | tup ds => simp only [Rep] at r; obtain ⟨a, vs, rfl, _⟩ := r; rfl
  | obj k ds => simp only [Rep] at r; obtain ⟨a, dx, vs, rfl, _⟩ := r; rfl
  | dct k ds => simp only [Rep] at r; obtain ⟨a, dx, vs, rfl, _⟩ := r; rfl
def gIs (neg : Bool) : D → D → Store → Res := fun x y S => match x, y with
  | x, .non => .ok (.bl (xor neg (isNon x))) S
  | .bl a, .bl b => .ok (.bl (xor neg (decide (a = b)))) S
  | _, _ => .bad
theorem op_gIs : OpR X (compareOp .Is) (rD Γ (gIs false)) := by
  intro pins s σ H x y v u Q I rx ry ⟨W, S, a, b, ok, ra, rb, h⟩
  unfold gIs at h
  split at h
  · simp only [Rep] at rb
    subst rb
    refine op_isN pins s σ H _ _ v u Q I rx ry ⟨rfl, ?_⟩
    rw [isNon_rep ra]
    exact h W _ H (Le.refl W) ok (by simp only [Rep, Bool.false_xor])
  · simp only [Rep] at ra rb
    subst ra rb
    exact op_is_bl pins s σ H _ _ v u Q I rx ry ⟨_, _, rfl, rfl, h W _ H (Le.refl W) ok (by simp only [Rep, Bool.false_xor])⟩
  · exact h.elim
theorem op_gIsNot : OpR X (compareOp .IsNot) (rD Γ (gIs true)) := by
  intro pins s σ H x y v u Q I rx ry ⟨W, S, a, b, ok, ra, rb, h⟩
  unfold gIs at h
  split at h
  · simp only [Rep] at rb
    subst rb
    refine op_notN pins s σ H _ _ v u Q I rx ry ⟨rfl, ?_⟩
    rw [isNon_rep ra]
    exact h W _ H (Le.refl W) ok (by simp only [Rep, Bool.true_xor])
  · simp only [Rep] at ra rb
    subst ra rb
    exact op_isnot_bl pins s σ H _ _ v u Q I rx ry ⟨_, _, rfl, rfl, h W _ H (Le.refl W) ok (by simp only [Rep, Bool.true_xor])⟩
  · exact h.elim

/-! ### x == y, x an instance of an own class -/
def gOwnEq (cs : List Nat) (k : Nat) (den : List D → Store → Res) : D → D → Store → Res := fun x y S => if isObj k x then match kind y, y with
  | some _, _ => chk 2 den [x, y] S
  | none, .obj j _ => if j ∈ cs then chk 2 den [x, y] S else .bad
  | _, _ => .bad
  else .bad
structure EqF (Γ : Pg) (cs : List Nat) (k : Nat) (g : Addr) : Prop where
  hs : PySem.W.findIn Γ.K (.ref (Γ.cl k)) "__eq__" = some (some (.ref g))
  hf : PySem.W.isFn Γ.K (.ref g) = true
  hb : ∀ t ∈ kinds, PySem.W.notFirst Γ.K (Γ.cl k) (.type t) = true
  hc : ∀ j ∈ cs, PySem.W.notFirst Γ.K (Γ.cl k) (.ref (Γ.cl j)) = true
theorem op_ownEq {cs : List Nat} {k j n : Nat} {g : Addr} {P : Program} {w : World} {mg : Str → Option Value} {base : Heap} {den : List D → Store → Res} (hh : Here Γ P w mg base n X E) (b : EqF Γ cs k g) (G : CalR Γ P w mg base j g 2 den) (hj : j ≤ n := by decide) : OpR X (compareOp .Eq) (rD Γ (gOwnEq cs k den)) := by
  obtain ⟨h1, h2, h3, h4, h5, h6, h7⟩ := hh
  subst h1 h2 h4 h5
  intro pins s σ H x y v u Q I rx ry ⟨W, S, a, b', ok, ra, rb, h⟩
  unfold gOwnEq at h
  split at h
  case isFalse => exact h.elim
  rename_i hx
  obtain ⟨ds, rfl⟩ := isObj_of hx
  obtain ⟨p, dx, vs, rfl, q2, q3⟩ := asI ok ra
  obtain rfl : v = Value.ref p := rx
  obtain ⟨m, hF⟩ := I.fr
  obtain ⟨o, od, J⟩ := objInst I q2
  have run : Cont Γ (chk 2 den [.obj k ds, b'] S) W Q (fun _ _ _ => False) → wpAny (model X.prog X.w) X.A (call (.ref g) [.ref p, u]) (PySem.W.CmpBack (EP X pins σ Q)) X.xe s := fun h' =>
    wpAny_mono (wpAny_call (runA (us := [.ref p, u]) (vs := [.ref p, y]) (E := fun _ _ _ => False) (by rw [h3]; exact G.run) (h6.mono hj) I.env0 (fun _ _ _ _ _ _ z => by
      obtain ⟨_, _, _, _, _, _, _, _, _, _, _, _, z⟩ := z
      exact z.elim) I (.cons rfl (.cons ry .nil)) (spD_of ok (Reps.cons ra (Reps.cons rb Reps.nil)) h'))) (fun w s' z => by
        obtain ⟨z', H', I', rz, qz⟩ := z
        exact SlX.cmpback rz ⟨z', H', I', rz, qz⟩) fun _ _ x => x
  refine PySem.W.cmp_ofEq ?_
  split at h
  · rename_i t hk
    obtain ⟨P, Z, pz, _⟩ := kit_of I ry (show TyX X.K H y (.type t) by rw [h3]; exact tyX ok rb hk)
    exact PySem.W.cmp_K (op := .Eq) h6.units0 hF I.ok.mod.kin J (Z.ty _ _ I.kIn pz) (by rw [h3]; exact b.hb t (kind_mem hk)) (by rw [h3]; exact b.hs) (by rw [h3]; exact b.hf) (run h)
  · rename_i j ds' hk
    split at h
    case isFalse => exact h.elim
    rename_i hj'
    obtain ⟨p', dx', vs', rfl, q2', q3'⟩ := asI ok rb
    obtain rfl : u = Value.ref p' := ry
    obtain ⟨o', od', J'⟩ := objInst I q2'
    exact PySem.W.cmp_K (op := .Eq) h6.units0 hF I.ok.mod.kin J J'.type (by rw [h3]; exact b.hc j hj') (by rw [h3]; exact b.hs) (by rw [h3]; exact b.hf) (run h)
  · exact h.elim

/-! ### names of the module, of the built-ins -/
structure GlobF (Γ : Pg) (mg : Str → Option Value) (x : Str) (d : D) : Prop where
  ex : ∃ u v, mg x = some u ∧ RelV v u ∧ ∀ W, Rep Γ W d v
theorem de_glob {x : Str} {d : D} {p : Pos} {mg : Str → Option Value} (hm : X.mg = mg) (g : GlobF Γ mg x d) (hg : Gl X x := by rfl) (hd : (x == ("__debug__" : Str)) = false := by decide) : PE X (.Name x p) (dE Γ ξ (eC d) E) := by
  obtain ⟨u, v, h1, h2, h3⟩ := g.ex
  exact de_c (pe_glob hg (by rw [hm]; exact h1) h2 hd) h3
theorem de_ty {x : Str} {n : String} {p : Pos} (hm : X.mg x = none) (hv : bootBuiltins x = some (.type n)) (hg : Gl X x := by rfl) (hn : x ≠ "__name__" := by decide) (hd : (x == ("__debug__" : Str)) = false := by decide) : PE X (.Name x p) (dE Γ ξ (eC (.ty n)) E) :=
  de_c (pe_bltn hg hm hv (v := .ty n) rfl hn hd) fun W => by simp only [Rep]

/-! ### what is walked -/
theorem _root_.L2.PI.or {X : Cx} {tg e : Expr} {t t' : TI} (h : PI X tg e t) (h' : PI X tg e t') : PI X tg e (fun σ H R => t σ H R ∨ t' σ H R) := ⟨fun pins s σ H R I z => z.elim (h.run pins s σ H R I) (h'.run pins s σ H R I)⟩
/-- what a thing is walked by: a tuple?, its items, what must stand -/
def seqV (S : Store) : D → Option (Bool × List D × Gd)
  | .lst ds => some (false, ds, [])
  | .tup ds => some (true, ds, [])
  | .cell c => match S[c]? with
    | some ds => some (false, ds, [(c, ds)])
    | none => none
  | _ => none
theorem src_of {W : Wd} {S : Store} {H : Hp} {d : D} {v : V} {t : Bool} {ds : List D} {g : Gd} (ok : Ok Γ W S H) (r : Rep Γ W d v) (h : seqV S d = some (t, ds, g)) :
    ∃ a, v = .ref a ∧ (∃ vs, SqX Γ.K H ⟨t, a⟩ vs ∧ Reps Γ W ds vs) ∧ ∀ W' S' H', LeS W W' → Ok Γ W' S' H' → g.ok S' → ∃ vs, SqX Γ.K H' ⟨t, a⟩ vs ∧ Reps Γ W' ds vs := by
  cases d with
  | lst fs =>
    cases h
    simp only [Rep] at r
    obtain ⟨a, vs, rfl, q1, q2⟩ := r
    exact ⟨a, rfl, ⟨vs, sqL_H ok.f q1, q2⟩, fun W' S' H' l o _ => ⟨vs, sqL_H o.f (sqL_le l q1), q2.mono l⟩⟩
  | tup fs =>
    cases h
    simp only [Rep] at r
    obtain ⟨a, vs, rfl, q1, q2⟩ := r
    exact ⟨a, rfl, ⟨vs, sqT_H ok.f q1, q2⟩, fun W' S' H' l o _ => ⟨vs, sqT_H o.f (sqT_le l q1), q2.mono l⟩⟩
  | cell c =>
    simp only [Rep] at r
    obtain ⟨a, rfl, hm⟩ := r
    obtain ⟨fs, vs, h3, h4, h5⟩ := ok.cell hm
    simp only [seqV, h3] at h
    cases h
    refine ⟨a, rfl, ⟨vs, .inl (.inl h4), h5⟩, fun W' S' H' l o hg => ?_⟩
    obtain ⟨fs', vs', k3, k4, k5⟩ := o.cell (l.m _ _ hm)
    have := hg _ (List.mem_singleton.mpr rfl)
    rw [k3] at this
    obtain rfl := Option.some.inj this
    exact ⟨vs', .inl (.inl k4), k5⟩
  | _ => cases h
def itSeq (f : EF) : IF := fun es S => (f es S).bindI fun d S1 => match d with
  | .lst ds => .ok ds [] S1
  | .tup ds => .ok ds [] S1
  | .cell c => match S1[c]? with
    | some ds => .ok ds [(c, ds)] S1
    | none => .bad
  | .str z => .ok (z.cps.toList.map fun c => .str ⟨#[c]⟩) [] S1
  | _ => .bad
theorem yld_str {W : Wd} {z : Str} : Yld Γ W (Its z) (z.cps.toList.map fun c => .str ⟨#[c]⟩) [] := fun W' S H l ok _ => by
  refine ⟨by simp [Its], fun i d hd => ?_⟩
  rw [List.getElem?_map] at hd
  by_cases hi : i < z.cps.size
  · refine ⟨hi, fun x H' ⟨e1, c, e2, e3⟩ => ⟨W', Le.refl _, by rw [e1]; exact ok, ?_⟩⟩
    have e4 : z.cps.toList[i]? = some c := by rw [Array.getElem?_toList]; exact e2
    rw [e4] at hd
    obtain rfl := Option.some.inj hd
    simp only [Rep]
    exact e3
  · rw [List.getElem?_eq_none (by simp; omega)] at hd
    cases hd
theorem di_seq {tg e : Expr} {f : EF} (hK : X.K = Γ.K) (he : PE X e (dE Γ ξ f E)) : PI X tg e (dI Γ ξ (itSeq f) E) :=
  (((pi_list he).or (pi_tup he)).or (pi_str he)).imp fun σ H R ⟨W, es, S, P0, ok, fr, h⟩ => by
    unfold itSeq at h
    cases e : f es S with
    | bad => rw [e] at h; exact h.elim
    | exc k fs S1 => rw [e] at h; exact .inl (.inl ⟨W, es, S, P0, ok, fr, by rw [e]; exact h⟩)
    | ok d S1 =>
      rw [e] at h
      cases d with
      | lst ds =>
        refine .inl (.inl ⟨W, es, S, P0, ok, fr, ?_⟩)
        rw [e]
        intro W1 v H1 l ok1 rv
        simp only [Rep] at rv
        obtain ⟨a, vs, rfl, q1, q2⟩ := rv
        rw [hK]
        exact ⟨a, rfl, ⟨vs, sqL_H ok1.f q1⟩, h W1 _ H1 l ok1 (yld_list q1 q2)⟩
      | tup ds =>
        refine .inl (.inr ⟨W, es, S, P0, ok, fr, ?_⟩)
        rw [e]
        intro W1 v H1 l ok1 rv
        simp only [Rep] at rv
        obtain ⟨a, vs, rfl, q1, q2⟩ := rv
        rw [hK]
        exact ⟨a, rfl, ⟨vs, sqT_H ok1.f q1⟩, h W1 _ H1 l ok1 (yld_tup q1 q2)⟩
      | cell c =>
        refine .inl (.inl ⟨W, es, S, P0, ok, fr, ?_⟩)
        rw [e]
        intro W1 v H1 l ok1 rv
        simp only [Rep] at rv
        obtain ⟨a, rfl, hm⟩ := rv
        obtain ⟨ds, vs, h3, h4, h5⟩ := ok1.cell hm
        simp only [Res.bindI, h3] at h
        rw [hK]
        exact ⟨a, rfl, ⟨vs, .inl (.inl h4)⟩, h W1 _ H1 l ok1 (yld_cell hm)⟩
      | str z =>
        refine .inr ⟨W, es, S, P0, ok, fr, ?_⟩
        rw [e]
        intro W1 v H1 l ok1 rv
        simp only [Rep] at rv
        exact ⟨z, rv, h W1 _ H1 l ok1 yld_str⟩
      | _ => exact h.elim
/-- what is walked in a comprehension may be a list of the frame's own -/
theorem diq_seqT {tg e : Expr} {f : EF} (hK : X.K = Γ.K) (he : PE X e (dV Γ ξ f E)) : PI X tg e (dIQ Γ ξ (itSeq f) E) :=
  (((pi_list he).or (pi_tup he)).or (pi_str he)).imp fun σ H R ⟨W, es, S, P0, ok, fr, h⟩ => by
    unfold itSeq at h
    cases e : f es S with
    | bad => rw [e] at h; exact h.elim
    | exc k fs S1 => rw [e] at h; exact .inl (.inl ⟨W, es, S, P0, ok, fr, by rw [e]; exact h⟩)
    | ok d S1 =>
      rw [e] at h
      cases d with
      | lst ds =>
        refine .inl (.inl ⟨W, es, S, P0, ok, fr, ?_⟩)
        rw [e]
        intro W1 v H1 l ok1 rv
        rw [hK]
        rcases rv with rv | ⟨a, vs, ds', e1, rfl, q1, q2⟩
        · simp only [Rep] at rv
          obtain ⟨a, vs, rfl, q1, q2⟩ := rv
          exact ⟨a, rfl, ⟨vs, sqL_H ok1.f q1⟩, h W1 _ H1 l ok1 (yld_list q1 q2).q⟩
        · cases e1
          refine ⟨a, rfl, ⟨vs, .inl (.inl (ok1.p _ _ q1).1)⟩, h W1 _ H1 l ok1 fun W' S H lq o _ => ?_⟩
          have q : SqL Γ.K H a vs := .inl (.inl (o.p _ _ (lq.p _ _ q1)).1)
          refine ⟨⟨vs, q, by rw [q2.length]; exact Nat.le_refl _⟩, fun i d hd => ?_⟩
          obtain ⟨v, hv, rv⟩ := q2.get hd
          exact ⟨⟨vs, v, q, hv⟩, fun x H' ⟨e1, e2⟩ => ⟨W', Le.refl _, by rw [e1]; exact o, by
            have := e2 vs q
            rw [hv] at this
            obtain rfl := Option.some.inj this
            exact rv.mono lq.s⟩⟩
      | tup ds =>
        refine .inl (.inr ⟨W, es, S, P0, ok, fr, ?_⟩)
        rw [e]
        intro W1 v H1 l ok1 rv
        rcases rv with rv | ⟨a, vs, ds', e1, _⟩
        · simp only [Rep] at rv
          obtain ⟨a, vs, rfl, q1, q2⟩ := rv
          rw [hK]
          exact ⟨a, rfl, ⟨vs, sqT_H ok1.f q1⟩, h W1 _ H1 l ok1 (yld_tup q1 q2).q⟩
        · cases e1
      | cell c =>
        refine .inl (.inl ⟨W, es, S, P0, ok, fr, ?_⟩)
        rw [e]
        intro W1 v H1 l ok1 rv
        rcases rv with rv | ⟨a, vs, ds', e1, _⟩
        · simp only [Rep] at rv
          obtain ⟨a, rfl, hm⟩ := rv
          obtain ⟨ds, vs, h3, h4, h5⟩ := ok1.cell hm
          simp only [Res.bindI, h3] at h
          rw [hK]
          exact ⟨a, rfl, ⟨vs, .inl (.inl h4)⟩, h W1 _ H1 l ok1 (yld_cell hm).q⟩
        · cases e1
      | str z =>
        refine .inr ⟨W, es, S, P0, ok, fr, ?_⟩
        rw [e]
        intro W1 v H1 l ok1 rv
        rcases rv with rv | ⟨a, vs, ds', e1, _⟩
        · simp only [Rep] at rv
          exact ⟨z, rv, h W1 _ H1 l ok1 yld_str.q⟩
        · cases e1
      | _ => exact h.elim
/-- zip of two -/
theorem yld_zip2 {W : Wd} {a b : Src} {ds fs : List D} {g g' : Gd} (q1 : ∀ W' S' H', LeS W W' → Ok Γ W' S' H' → g.ok S' → ∃ vs, SqX Γ.K H' a vs ∧ Reps Γ W' ds vs) (q2 : ∀ W' S' H', LeS W W' → Ok Γ W' S' H' → g'.ok S' → ∃ vs, SqX Γ.K H' b vs ∧ Reps Γ W' fs vs) : Yld Γ W (Itz2 Γ.K a b) ((ds.zip fs).map fun p => .tup [p.1, p.2]) (g ++ g') := fun W' S H l ok hg => by
  obtain ⟨vs, q, r⟩ := q1 W' S H l ok fun p hp => hg p (List.mem_append_left _ hp)
  obtain ⟨us, q', r'⟩ := q2 W' S H l ok fun p hp => hg p (List.mem_append_right _ hp)
  refine ⟨⟨vs, us, q, q', ?_⟩, fun i d hd => ?_⟩
  · rw [r.length, r'.length, List.length_map, List.length_zip]
    omega
  · rw [List.getElem?_map, Option.map_eq_some_iff] at hd
    obtain ⟨⟨x, y⟩, h1, rfl⟩ := hd
    rw [List.getElem?_zip_eq_some] at h1
    obtain ⟨v, hv, rv⟩ := r.get h1.1
    obtain ⟨u, hu, ru⟩ := r'.get h1.2
    refine ⟨⟨vs, us, v, u, q, q', hv, hu⟩, fun z H' ⟨T, x', y', e1, hT, e2, e3, e4⟩ => ?_⟩
    have e3 := e3 vs q
    have e4 := e4 us q'
    rw [hv] at e3
    rw [hu] at e4
    obtain rfl := Option.some.inj e3
    obtain rfl := Option.some.inj e4
    subst e1 e2
    have l2 := Le.lay (o := .tup [v, u]) (ok.fresh hT).1
    exact ⟨_, l2, ok.lay hT _, rep_tup (Reps.cons (rv.mono l2.s) (Reps.cons (ru.mono l2.s) Reps.nil))⟩
def itZip (a : AF) : IF := fun es S => (a es S).bindI fun ds S1 => match ds with
  | [x, y] => match seqV S1 x, seqV S1 y with
    | some (_, xs, g), some (_, ys, g') => .ok ((xs.zip ys).map fun p => .tup [p.1, p.2]) (g ++ g') S1
    | _, _ => .bad
  | _ => .bad

/-! ### a cell's item is stored -/
def sStore (fo fi fe : EF) : SF := fun es S => (fe es S).toS es fun d S1 => (fo es S1).toS es fun o S2 => (fi es S2).toS es fun i S3 => match o, i with
  | .cell c, .int k => match S3[c]? with
    | some ds => match ixN ds.length k with
      | some j => .next es (S3.set c (ds.set j d))
      | none => .bad
    | none => .bad
  | _, _ => .bad
theorem Reps.set {W : Wd} {d : D} {v : V} (r : Rep Γ W d v) : ∀ {ds : List D} {vs : List V} (j : Nat), Reps Γ W ds vs → Reps Γ W (ds.set j d) (vs.set j v)
  | [], vs, j, h => by simp only [Reps] at h; subst h; exact Reps.nil
  | d0 :: ds, vs, j, h => by
    simp only [Reps] at h
    obtain ⟨v0, vs', rfl, h1, h2⟩ := h
    cases j with
    | zero => exact Reps.cons r h2
    | succ j => exact Reps.cons h1 (Reps.set r j h2)
theorem Ok.cellSet {W : Wd} {S : Store} {H : Hp} (ok : Ok Γ W S H) {c : Nat} {a : Addr} (hm : W.m[c]? = some a) {ds : List D} {vs : List V} (r : Reps Γ W ds vs) : Ok Γ W (S.set c ds) (upd H a (.lst vs)) := by
  obtain ⟨hF, hP⟩ := ok.m c a hm
  refine ⟨fun b u e => ?_, fun b u e => ?_, ok.m, ok.nd, by rw [List.length_set]; exact ok.len, fun i b fs e1 e2 => ?_⟩
  · rw [upd_ne (ne_of_none e hF)]
    exact ok.f b u e
  · rw [upd_ne (ne_of_none e hP)]
    exact ok.p b u e
  · by_cases z : c = i
    · subst z
      rw [hm] at e1
      obtain rfl := Option.some.inj e1
      have hl : c < S.length := by rw [← ok.len]; exact (List.getElem?_eq_some_iff.mp hm).1
      rw [List.getElem?_set_self hl] at e2
      obtain rfl := Option.some.inj e2
      exact ⟨vs, upd_same, r⟩
    · rw [List.getElem?_set_ne z] at e2
      have n : b ≠ a := fun q => z (by
        subst q
        have h1 := List.getElem?_eq_some_iff.mp hm
        have h2 := List.getElem?_eq_some_iff.mp e1
        exact (List.getElem_inj ok.nd).mp (h1.2.trans h2.2.symm))
      obtain ⟨us, q3, q4⟩ := ok.c i b fs e1 e2
      exact ⟨us, by rw [upd_ne n]; exact q3, q4⟩
theorem ds_store {o i e : Expr} {fo fi fe : EF} {tpos pos : Pos} (ho : PE X o (dE Γ ξ fo E)) (hi : PE X i (dE Γ ξ fi E)) (he : PE X e (dE Γ ξ fe E)) (hs : swapsWithSole [.Subscript o i tpos] e pos.line X.env = pure false := by rfl) (hw : swappedStores [.Subscript o i tpos] e X.env = pure none := by rfl)
    (h1 : (assignEach [.Subscript o i tpos] X.env).map (·.2) = [assign (.Subscript o i tpos) X.env] := by rfl)
    (ha : ∀ v, assign (.Subscript o i tpos) X.env v = (do
      let ov ← holding [v] (eval o X.env)
      let iv ← holding [v, ov] (eval i X.env)
      standAt tpos
      holding [v, ov, iv] (setItem ov iv v)
      release [v, ov, iv] []) := by intro _; rfl) : PS X (.Assign [.Subscript o i tpos] e pos) (dS Γ ξ (sStore fo fi fe) E) :=
  (ps_asg he (pg_sub ho hi set_list ha) hs hw h1).imp fun Dn σ H ⟨W, es, S, P0, ok, fr, h⟩ => by
    refine ⟨W, es, S, P0, ok, fr, ContS.toS fr h fun d S1 W1 v H1 l1 ok1 r1 h1 => ?_⟩
    refine ⟨W1, es, S1, P0, ok1, fr.le l1, ContS.toS (fr.le l1) h1 fun o S2 W2 ov H2 l2 ok2 r2 h2 => ?_⟩
    refine ⟨W2, es, S2, P0, ok2, (fr.le l1).le l2, ContS.toS ((fr.le l1).le l2) h2 fun i S3 W3 iv H3 l3 ok3 r3 h3 => ?_⟩
    split at h3
    case h_2 => exact h3.elim
    rename_i c k
    split at h3
    case h_2 => exact h3.elim
    rename_i ds hc
    split at h3
    case h_2 => exact h3.elim
    rename_i j hj
    have r2' := r2.mono l3.s
    simp only [Rep] at r2' r3
    obtain ⟨a, rfl, hm⟩ := r2'
    subst r3
    obtain ⟨ds', vs, q1, q2, q3⟩ := ok3.cell hm
    rw [hc] at q1
    obtain rfl := Option.some.inj q1
    refine ⟨a, vs, k, j, rfl, rfl, q2, by rw [q3.length]; exact hj, ?_⟩
    exact h3 W3 σ _ (LeS.refl _) (ok3.cellSet hm (q3.set (r1.mono (l2.trans l3).s) j)) (((fr.le l1).le l2).le l3)
end
end DL
set_option Elab.async false
set_option linter.all false
set_option maxRecDepth 100000
namespace DL
open PySem PySem.Spec PyProof.Rows L2
section
variable {Γ : Pg} {ξ : Xx} {X : Cx} {E : WX}
/-! ### zip of two -/
theorem di_zip {e e2 : Expr} {ta : AF} {p pos tpos : Pos} {elts : List Expr} {kk : Nat} (hK : X.K = Γ.K) (hm : X.mg "zip" = none) (ha : PA X [e, e2] (dA Γ ξ ta E)) (hg : Gl X "zip" := by rfl)
    (hs : starEach [e, e2] X.env = (false, eval e X.env) :: starEach [e2] X.env := by rfl) (hpl : (backTo pos (starEach [e2] X.env)).any (·.1) = false := by rfl) :
    PI X (.Tuple elts kk tpos) (.Call (.Name "zip" p) [e, e2] [] pos) (dI Γ ξ (itZip ta) E) :=
  (pi_zip2X hg hm ha hs hpl).imp fun σ H R ⟨W, es, S, P0, ok, fr, h⟩ => by
    refine ⟨W, es, S, P0, ok, fr, ?_⟩
    unfold itZip at h
    cases e : ta es S with
    | bad => rw [e] at h; exact h.elim
    | exc k fs S1 => rw [e] at h; exact h
    | ok ds S1 =>
      rw [e] at h
      intro W1 vs H1 l1 ok1 rs
      simp only [ResA.bindI] at h
      split at h
      case h_2 => exact h.elim
      rename_i x y
      split at h
      case h_2 => exact h.elim
      rename_i t1 xs g1 t2 ys g2 hx hy
      simp only [Reps] at rs
      obtain ⟨v, vs', rfl, r1, u, us', rfl, r2, rfl⟩ := rs
      obtain ⟨a, rfl, ⟨va, q1, q2⟩, q3⟩ := src_of ok1 r1 hx
      obtain ⟨b, rfl, ⟨vb, q4, q5⟩, q6⟩ := src_of ok1 r2 hy
      rw [hK]
      exact ⟨⟨t1, a⟩, ⟨t2, b⟩, va, vb, rfl, q1, q4, h W1 _ H1 l1 ok1 (yld_zip2 q3 q6)⟩

/-! ### {} -/
def eDict0 : EF := fun _ S => .ok (.dct [] []) S
theorem de_dict0 {pos : Pos} : PE X (.Dict [] [] pos) (dE Γ ξ eDict0 E) := pe_dnewK.imp fun σ H Q ⟨W, es, S, P0, ok, fr, h⟩ p hp => by
  have l : Le W { W with F := upd W.F p (.dK []) } := Le.lay (ok.fresh hp).1
  refine h _ _ _ l (ok.lay hp _) ?_
  simp only [Rep]
  exact ⟨p, [], [], rfl, upd_same, rfl, rfl, Reps.nil⟩

/-! ### == of lists of plain data and empty dicts -/
def eqI : D → D → Option Bool
  | .dct [] [], .dct [] [] => some true
  | a, b => match toP a, toP b with
    | some p, some q => if SeqAt.shaped p && SeqAt.shaped q then some (PyData.eqv p q) else none
    | _, _ => none
def eqIs : List D → List D → Option Bool
  | [], [] => some true
  | a :: as, b :: bs => (eqI a b).bind fun x => (eqIs as bs).map fun y => x && y
  | _, _ => none
def eqLB (S : Store) (a b : D) : Option Bool := match deref S a, deref S b with
  | .lst xs, .lst ys => eqIs xs ys
  | _, _ => none
def gEqL : D → D → Store → Res := fun x y S => match eqLB S x y with
  | some b => .ok (.bl b) S
  | none => .bad
def gNeL : D → D → Store → Res := fun x y S => match eqLB S x y with
  | some b => .ok (.bl (!b)) S
  | none => .bad
theorem eqAt_dict0 {A : Around} {P : Program} {w : World} {s : Shared} {a b : Addr} (hu : A.units < cLine) (ha : (a == sysModules) = false) (hb : (b == sysModules) = false) (da : s.heap.DictOf (mixKind P w) a []) (db : s.heap.DictOf (mixKind P w) b []) : SeqAt.EqAt A s (.ref a) (.ref b) true := fun prog w' => by
  have z : ∀ c, s.heap.DictOf (mixKind P w) c [] → s.heap.DictOf (mixKind prog w') c [] := fun c ⟨o, es, ep, h1, h2, h3, h4, h5, h6⟩ => by
    have e : es = #[] := by
      have := h5.length
      simpa using this
    subst e
    exact ⟨o, #[], ep, h1, h2, h3, fun _ he => by simp at he, .nil, List.nodup_nil⟩
  by_cases hab : a = b
  · subst hab
    exact SeqAt.EqAt.same _ prog w'
  · exact SeqAt.eqP_refs hab fun E Q h => PySem.W.rcP_dicts ha hb (z _ da) (z _ db) hu (fun _ => .nil) E Q h
theorem eqAt_I {A : Around} {W : Wd} {S : Store} {H : Hp} {pins : List (Addr × Obj)} {σ : L2.St} {s : Shared} (hK : X.K = Γ.K) (hu : A.units + 64 < cLine) (ok : Ok Γ W S H) (I : Inv X pins σ H s) {d e : D} {x y : V} {v u : Value} {b : Bool} (h : eqI d e = some b) (r : Rep Γ W d x) (r' : Rep Γ W e y) (rx : RelV x v) (ry : RelV y u) : SeqAt.EqAt A s v u b := by
  unfold eqI at h
  split at h
  · cases h
    simp only [Rep] at r r'
    obtain ⟨a, kvs, vs, rfl, q1, q2, q3, _⟩ := r
    obtain ⟨a', kvs', vs', rfl, q1', q2', q3', _⟩ := r'
    have e1 : kvs = [] := List.map_eq_nil_iff.mp q2
    have e2 : kvs' = [] := List.map_eq_nil_iff.mp q2'
    subst e1 e2
    obtain ⟨_, hS, xs, z1, z2⟩ := dk_of I.hok (ok.f _ _ q1)
    obtain ⟨_, hS', xs', z1', z2'⟩ := dk_of I.hok (ok.f _ _ q1')
    cases z1
    cases z1'
    obtain rfl : v = Value.ref a := rx
    obtain rfl : u = Value.ref a' := ry
    exact eqAt_dict0 (by omega) hS hS' z2 z2'
  · split at h
    · rename_i p q hp hq
      split at h
      · rename_i hs
        cases h
        have hs := Bool.and_eq_true_iff.mp hs
        obtain ⟨as, r1⟩ := Dp.reads I p x v (by rw [hK]; exact dp_of ok.f r hp) rx
        obtain ⟨bs, r2⟩ := Dp.reads I q y u (by rw [hK]; exact dp_of ok.f r' hq) ry
        exact SeqAt.eqAt_reads p q A s v u as bs r1 r2 (SeqAt.canLay_of_shaped hs.1) (SeqAt.canLay_of_shaped hs.2) (SeqAt.room_of_shaped hs.1 hu)
      · cases h
    · cases h
theorem eqAt_Is {A : Around} {W : Wd} {S : Store} {H : Hp} {pins : List (Addr × Obj)} {σ : L2.St} {s : Shared} (hK : X.K = Γ.K) (hu : A.units + 64 < cLine) (ok : Ok Γ W S H) (I : Inv X pins σ H s) : ∀ {ds es : List D} {xs ys : List V} {vs us : List Value} {b : Bool}, eqIs ds es = some b → Reps Γ W ds xs → Reps Γ W es ys → Vals xs vs → Vals ys us →
    ∃ e : Nat → Bool, vs.length = us.length ∧ b = (List.range vs.length).all e ∧ ∀ j (h1 : j < vs.length) (h2 : j < us.length), SeqAt.EqAt A s vs[j] us[j] (e j)
  | [], [], xs, ys, vs, us, b, h, r, r', rv, ru => by
    simp only [Reps] at r r'
    subst r r'
    cases rv
    cases ru
    simp only [eqIs, Option.some.injEq] at h
    subst h
    exact ⟨fun _ => true, rfl, rfl, fun j h1 => absurd h1 (Nat.not_lt_zero _)⟩
  | d :: ds, e :: es, xs, ys, vs, us, b, h, r, r', rv, ru => by
    simp only [Reps] at r r'
    obtain ⟨x, xs', rfl, r1, r2⟩ := r
    obtain ⟨y, ys', rfl, r1', r2'⟩ := r'
    cases rv with
    | cons w1 w2 =>
      cases ru with
      | cons t1 t2 =>
        simp only [eqIs, Option.bind_eq_some_iff, Option.map_eq_some_iff] at h
        obtain ⟨b1, h1, b2, h2, rfl⟩ := h
        obtain ⟨f, l, rfl, q⟩ := eqAt_Is hK hu ok I h2 r2 r2' w2 t2
        have q0 := eqAt_I (A := A) hK hu ok I h1 r1 r1' w1 t1
        refine ⟨fun j => match j with | 0 => b1 | j + 1 => f j, congrArg Nat.succ l, ?_, fun j h1 h2 => ?_⟩
        · rw [List.length_cons, List.range_succ_eq_map, List.all_cons, List.all_map]
          rfl
        · cases j with
          | zero => exact q0
          | succ j => exact q j (Nat.lt_of_succ_lt_succ h1) (Nat.lt_of_succ_lt_succ h2)
  | [], e :: es, _, _, _, _, _, h, _, _, _, _ => by cases h
  | d :: ds, [], _, _, _, _, _, h, _, _, _, _ => by cases h
theorem lst_of {W : Wd} {S : Store} {H : Hp} (ok : Ok Γ W S H) {d : D} {ds : List D} {v : V} (r : Rep Γ W d v) (h : deref S d = .lst ds) : ∃ a vs, v = .ref a ∧ SqL Γ.K H a vs ∧ Reps Γ W ds vs := by
  cases d with
  | cell i =>
    simp only [Rep] at r
    obtain ⟨a, rfl, h2⟩ := r
    obtain ⟨fs, vs, h3, h4, h5⟩ := ok.cell h2
    simp only [deref, h3, D.lst.injEq] at h
    subst h
    exact ⟨a, vs, rfl, .inl (.inl h4), h5⟩
  | lst fs =>
    simp only [deref, D.lst.injEq] at h
    subst h
    simp only [Rep] at r
    obtain ⟨a, vs, rfl, h2, h3⟩ := r
    exact ⟨a, vs, rfl, sqL_H ok.f h2, h3⟩
  | _ => cases h
theorem op_gEqL (hK : X.K = Γ.K) (hu : X.A.units + 66 < cLine) : OpR X (compareOp .Eq) (rD Γ gEqL) := by
  intro pins s σ H x y v u Q I rx ry ⟨W, S, a, b, ok, ra, rb, h⟩
  unfold gEqL eqLB at h
  split at h
  case h_2 => exact h.elim
  rename_i r hr
  split at hr
  case h_2 => cases hr
  rename_i xs ys hx hy
  obtain ⟨p, vs, rfl, q1, q2⟩ := lst_of ok ra hx
  obtain ⟨p', vs', rfl, q1', q2'⟩ := lst_of ok rb hy
  obtain rfl : v = Value.ref p := rx
  obtain rfl : u = Value.ref p' := ry
  obtain ⟨its, rv, pl, _⟩ := I.list (by rw [hK]; exact q1)
  obtain ⟨its', rv', pl', _⟩ := I.list (by rw [hK]; exact q1')
  obtain ⟨e, l, rfl, q⟩ := eqAt_Is (A := X.A.in1) hK (by show X.A.units + 1 + 64 < cLine; omega) ok I hr q2 q2' rv rv'
  exact (SeqAt.RcAt.lists pl.isList pl'.isList (by simpa using l) (by omega) (e := e) fun j h1 h2 => by simpa using q j (by simpa using h1) (by simpa using h2)) _ _ _ _ ⟨.bl _, H, I, rfl, by simpa using h W _ H (Le.refl W) ok (by simp only [Rep])⟩
theorem op_gNeL (hK : X.K = Γ.K) (hu : X.A.units + 66 < cLine) : OpR X (compareOp .NotEq) (rD Γ gNeL) := by
  intro pins s σ H x y v u Q I rx ry ⟨W, S, a, b, ok, ra, rb, h⟩
  unfold gNeL eqLB at h
  split at h
  case h_2 => exact h.elim
  rename_i r hr
  split at hr
  case h_2 => cases hr
  rename_i xs ys hx hy
  obtain ⟨p, vs, rfl, q1, q2⟩ := lst_of ok ra hx
  obtain ⟨p', vs', rfl, q1', q2'⟩ := lst_of ok rb hy
  obtain rfl : v = Value.ref p := rx
  obtain rfl : u = Value.ref p' := ry
  obtain ⟨its, rv, pl, _⟩ := I.list (by rw [hK]; exact q1)
  obtain ⟨its', rv', pl', _⟩ := I.list (by rw [hK]; exact q1')
  obtain ⟨e, l, rfl, q⟩ := eqAt_Is (A := X.A.in1) hK (by show X.A.units + 1 + 64 < cLine; omega) ok I hr q2 q2' rv rv'
  exact (SeqAt.RcNeAt.lists pl.isList pl'.isList (by simpa using l) (by omega) (e := e) fun j h1 h2 => by simpa using q j (by simpa using h1) (by simpa using h2)) _ _ _ _ ⟨.bl _, H, I, rfl, by simpa using h W _ H (Le.refl W) ok (by simp only [Rep])⟩

/-! ### keywords -/
theorem _root_.L2.PK.imp {X : Cx} {ks : List Keyword} {t t' : TA} (h : PK X ks t) (q : ∀ σ H Q, t' σ H Q → t σ H Q) : PK X ks t' := ⟨fun p pins s σ H Q I z => h.run p pins s σ H Q I (q σ H Q z)⟩
theorem dk_nil : PK X [] (dA Γ ξ aNil E) := pk_nil.imp fun σ H Q ⟨W, es, S, P0, ok, fr, h⟩ => h W _ H (Le.refl W) ok Reps.nil
theorem dk_cons {nm : Option Str} {kpos : Pos} {e : Expr} {ks : List Keyword} {f : EF} {g : AF} (he : PE X e (dE Γ ξ f E)) (hr : PK X ks (dA Γ ξ g E)) : PK X (⟨nm, e, kpos⟩ :: ks) (dA Γ ξ (aCons f g) E) :=
  (pk_cons he hr).imp fun σ H Q ⟨W, es, S, P0, ok, fr, h⟩ => ⟨W, es, S, P0, ok, fr, Cont.bindA h fun d S1 W1 v H1 le ok1 rv h1 => ⟨W1, es, S1, P0, ok1, fr.le le, by
    cases e : g es S1 with
    | bad => rw [e] at h1; exact h1.elim
    | exc k fs S' => rw [e] at h1; exact h1
    | ok ds S' =>
      rw [e] at h1
      intro W2 vs H2 l2 ok2 rs
      exact h1 W2 _ H2 l2 ok2 (Reps.cons (rv.mono l2.s) rs)⟩⟩

/-- a def that is called with keywords: m values are written, then the keywords ks; gD puts them in the parameters' order -/
structure KFn (Γ : Pg) (P : Program) (w : World) (mg : Str → Option Value) (base : Heap) (k : Nat) (g : Addr) (m : Nat) (ks : List Str) (sp : Sp) (gV : List V → List V → List V) : Prop where
  ex : ∃ (fd : FuncData) (ps : List Str) (gv : List Value → List Value → List Value), FnOk P w Γ.K mg base (L2.CX P w) k g fd ps sp ∧ KBn Γ.K fd ps m ks gv gV
theorem runK {CX : CXT} {k n : Nat} {f : Addr} {fd : FuncData} {ps ks : List Str} {sp : Sp} {Ex : XK} {g : List Value → List Value → List Value} {gV : List V → List V → List V} {A : Around} {pins : List (Addr × Obj)} {σ : L2.St} {H : Hp} {s : Shared} {Q : VK} {us ws : List Value} {vs zs : List V} (F : FnOk X.prog X.w X.K X.mg X.base CX k f fd ps sp) (hr : Room k A) (hb : KBn X.K fd ps n ks g gV) (hx : PassesAt CX X σ Ex)
    (e0 : Env0 X.prog X.w X.K X.mg X.base A X.stack s H) (I : Inv X pins σ H s) (r : Vals vs us) (rz : Vals zs ws) (l1 : vs.length = n) (l2 : zs.length = ks.length) (h : sp (gV vs zs) H Q Ex) :
    codeAny (model X.prog X.w) A (.call (.ref f) ⟨us, ks.zip ws⟩) (fun r s' => match r with | .ok (.ret v) => EP X pins σ Q v s' | .ok _ => False | .error e => X.xe e s') s :=
  codeAny_mono (F.run A X.stack s H ⟨us, ks.zip ws⟩ (g us ws) (gV vs zs) Q Ex hr e0 (hb.to s us ws I.kIn (r.length.symm.trans l1) (rz.length.symm.trans l2)) (hb.rel r rz) h) fun r s' hq => match r, hq with
    | .error e, hq => hx pins H s e s' I hq
    | .ok (.ret _), hq => I.after hq
    | .ok .next, hq => hq.elim
    | .ok .brk, hq => hq.elim
    | .ok .cont, hq => hq.elim
/-- o.m(k = v, ..) -/
def eMethK (k n m : Nat) (gD : List D → List D → List D) (den : List D → Store → Res) (f : EF) (a : AF) : EF := fun es S => (f es S).bind fun d S1 => if isObj k d then (a es S1).bind fun ds S2 => if ds.length = m then chk n den (gD [d] ds) S2 else .bad else .bad
theorem de_methK {o : Expr} {kws : List Keyword} {ks : List Str} {m : Str} {fo : EF} {fa : AF} {k j n l : Nat} {g : Addr} {pos apos : Pos} {P : Program} {w : World} {mg : Str → Option Value} {base : Heap} {den : List D → Store → Res} {gD : List D → List D → List D} {gV : List V → List V → List V} {pl : Sem Bool} (hh : Here Γ P w mg base l X E) (c : ObF Γ k) (hm : L2.Meth Γ.K (Γ.cl k) m g)
    (G : KFn Γ P w mg base j g 1 ks (spD Γ n den) gV) (hg : ∀ W ds es vs zs, Reps Γ W ds vs → Reps Γ W es zs → Reps Γ W (gD ds es) (gV vs zs)) (ho : PE X o (dE Γ ξ fo E)) (ha : PK X kws (dA Γ ξ fa E)) (hj : j ≤ l := by decide) (hno : noF (Γ.at_ k) m = true := by first | rfl | kernel_rfl)
    (hall : (backToKw pos (keywordEach kws X.env)).all (·.1.isSome) = true := by rfl) (hks : (backToKw pos (keywordEach kws X.env)).filterMap (·.1) = ks := by rfl)
    (hpl : ((backTo pos (starEach [] X.env)).any (·.1) || (backToKw pos (keywordEach kws X.env)).any (·.1.isNone)) = false := by rfl)
    (ht : eval (.Call (.Attribute o m apos) [] kws pos) X.env = (do
      let ov ← eval o X.env
      standAt apos.atName
      let (f, first) ← holding [ov] (getMethod ov m pl)
      callWith pos f first (backTo pos (starEach [] X.env)) (backToKw pos (keywordEach kws X.env))) := by rfl) :
    PE X (.Call (.Attribute o m apos) [] kws pos) (dE Γ ξ (eMethK k n ks.length gD den fo fa) E) := by
  obtain ⟨h1, h2, h3, h4, h5, h6, h7⟩ := hh
  subst h1 h2 h4 h5
  obtain ⟨fd, ps, gv, hF, hb⟩ := G.ex
  refine ⟨fun pins s σ H Q I ⟨W, ds, S, P0, ok, fr, h⟩ => ?_⟩
  refine PySem.W.methodCall_KW (pl := pl) (thn (ho.run pins s σ H (fun x H1 => ∃ W1 S1 d, Ok Γ W1 S1 H1 ∧ Frame Γ ξ W1 ds σ P0 ∧ Rep Γ W1 d x ∧ Cont Γ (if isObj k d then (fa ds S1).bind fun es S2 => if es.length = ks.length then chk n den (gD [d] es) S2 else .bad else .bad) W1 Q (at_ E σ)) I
    ⟨W, ds, S, P0, ok, fr, h.bind fun d S1 W1 v H1 le ok1 rv h1 => ⟨W1, S1, d, ok1, fr.le le, rv, h1⟩⟩) fun u s1 ⟨x, H1, I1, rx, W1, S1, d, ok1, fr1, rd, h1⟩ => ?_) ht
  split at h1
  case isFalse => exact h1.elim
  rename_i hd
  obtain ⟨fs, rfl⟩ := isObj_of hd
  obtain ⟨a, dx, vs, rfl, q2, q3⟩ := asI ok1 rd
  obtain rfl : u = Value.ref a := rx
  have hm' : L2.Meth X.K (Γ.cl k) m g := by rw [h3]; exact hm
  refine getO h3 I1 q2 c hm' hno ?_
  refine PySem.W.callWith_KW0 (first := [.ref a]) (h₀ := X.base) I.ok.mod.kin hm'.kp hall (thn (ha.run pos pins s1 σ H1 (fun vs H2 => ∃ W2 S2 es, Ok Γ W2 S2 H2 ∧ Reps Γ W2 es vs ∧ Rep Γ W2 (.obj k fs) (.ref a) ∧ Cont Γ (if es.length = ks.length then chk n den (gD [.obj k fs] es) S2 else .bad) W2 Q (at_ E σ)) I1
    ⟨W1, ds, S1, P0, ok1, fr1, ContA.bind h1 fun es S2 W2 vs H2 le ok2 rs h2 => ⟨W2, S2, es, ok2, rs, rd.mono le.s, h2⟩⟩) fun us s2 ⟨ws, H2, I2, r, W2, S2, es2, ok2, rs, rd2, h2⟩ => ⟨I2.kIn, ?_⟩) hpl
  split at h2
  case isFalse => exact h2.elim
  rename_i hl
  rw [hks]
  exact wpAny_call (runK (us := [.ref a]) (vs := [.ref a]) (by rw [h3]; exact hF) (h6.mono hj) (by rw [h3]; exact hb) (pass_of h7 σ) I2.env0 I2 (.cons rfl .nil) r rfl (rs.length.trans hl) (spD_of ok2 (hg W2 _ _ _ _ (Reps.cons rd2 Reps.nil) rs) h2))
/-- C(k = v, ..) -/
def eNewK (c n m : Nat) (gD : List D → List D) (F : List D → Store → ResA) (a : AF) : EF := fun es S => (a es S).bind fun ds S1 => if ds.length = m then newD c n F (gD ds) S1 else .bad
structure MakK (Γ : Pg) (P : Program) (w : World) (mg : Str → Option Value) (base : Heap) (k : Nat) (x : Str) (c n : Nat) (ks : List Str) (gV : List V → List V) (F : List D → Store → ResA) : Prop where
  no : Γ.at_ c = none
  ex : ∃ (fI : Addr) (fd : FuncData) (ps : List Str) (gv : List Value → List Value → List Value) (g : List V → List V → List V), Mk Γ.K (Γ.cl c) fI ∧ FnOk P w Γ.K mg base (L2.CX P w) k fI fd ps (spI Γ c n F) ∧ mg x = some (.ref (Γ.cl c)) ∧ KBn Γ.K fd ps 1 ks gv g ∧ ∀ x zs, zs.length = ks.length → g [x] zs = x :: gV zs
theorem runMkK {CX : CXT} {k : Nat} {f C : Addr} {fd : FuncData} {ps ks : List Str} {sp : Sp} {Ex : XK} {g : List Value → List Value → List Value} {gV : List V → List V → List V} {pins : List (Addr × Obj)} {σ : L2.St} {H : Hp} {s : Shared} {Q : VK} {ws : List Value} {zs : List V} (M : Mk X.K C f) (F : FnOk X.prog X.w X.K X.mg X.base CX k f fd ps sp)
    (hr : Room (k + 1) X.A) (hb : KBn X.K fd ps 1 ks g gV) (hx : PassesAt CX X σ Ex) (I : Inv X pins σ H s) (rz : Vals zs ws) (l2 : zs.length = ks.length)
    (h : ∀ x dx, H x = none → H dx = none → dx ≠ x → sp (gV [.ref x] zs) (upd (upd H dx (.own x)) x (.ins C dx [])) (fun v H2 => v = .non ∧ Q (.ref x) H2) Ex) : wpAny (model X.prog X.w) X.A (call (.ref C) [] (ks.zip ws)) (EP X pins σ Q) X.xe s := by
  let x : Addr := s.heap.objs.size + 1
  let dx : Addr := s.heap.objs.size
  have hs := h x dx (I.hok.fresh (Nat.le_succ _)) (I.hok.fresh (Nat.le_refl _)) (Nat.ne_of_lt (Nat.lt_succ_self _))
  have J := Inv.made (C := C) I
  have rr : Vals [V.ref x] [Value.ref x] := .cons rfl .nil
  have run := F.run _ X.stack _ _ ⟨[Value.ref x], ks.zip ws⟩ (g [Value.ref x] ws) _ _ Ex (hr.make C [] (ks.zip ws)) (J.env0.make C [] (ks.zip ws)) (hb.to _ [Value.ref x] ws J.kIn rfl (rz.length.symm.trans l2)) (hb.rel rr rz) hs
  refine wpAny_call (make_map (f := f) I.kIn M.makes M.init (beq_iff_eq.mp M.fn) (codeAny_mono run fun r s' hq => ?_))
  match r, hq with
  | .error e, hq => exact hx pins _ _ e s' J hq
  | .ok (.ret u), hq =>
    obtain ⟨v, H', J2, rv, ev, q3⟩ := J.after hq
    subst ev
    exact ⟨rv, ⟨V.ref x, H', J2, rfl, q3⟩⟩
  | .ok .next, hq => exact hq.elim
  | .ok .brk, hq => exact hq.elim
  | .ok .cont, hq => exact hq.elim
theorem de_newK {kws : List Keyword} {ks : List Str} {x : Str} {fa : AF} {c n j l : Nat} {p pos : Pos} {P : Program} {w : World} {mg : Str → Option Value} {base : Heap} {F : List D → Store → ResA} {gD : List D → List D} {gV : List V → List V} (hh : Here Γ P w mg base l X E) (M : MakK Γ P w mg base j x c n ks gV F) (hgd : ∀ W ds vs, Reps Γ W ds vs → Reps Γ W (gD ds) (gV vs))
    (ha : PK X kws (dA Γ ξ fa E)) (hj : j + 1 ≤ l := by decide) (hg : Gl X x := by rfl) (hdb : (x == ("__debug__" : Str)) = false := by decide)
    (hall : (backToKw pos (keywordEach kws X.env)).all (·.1.isSome) = true := by rfl) (hks : (backToKw pos (keywordEach kws X.env)).filterMap (·.1) = ks := by rfl)
    (hpl : ((backTo pos (starEach [] X.env)).any (·.1) || (backToKw pos (keywordEach kws X.env)).any (·.1.isNone)) = false := by rfl) :
    PE X (.Call (.Name x p) [] kws pos) (dE Γ ξ (eNewK c n ks.length gD F fa) E) := by
  obtain ⟨h1, h2, h3, h4, h5, h6, h7⟩ := hh
  subst h1 h2 h4 h5
  obtain ⟨fI, fd, ps, gv, g, hM, hF, hm, hb, hgv⟩ := M.ex
  rw [← h3] at hM hF hb
  refine ⟨fun pins s σ H Q I ⟨W, es', S, P0, ok, fr, h⟩ => ?_⟩
  refine wpAny_Call_Name_kw (ld_glob I hg hm ?_ hdb)
  refine PySem.W.callWith_KW0 (h₀ := X.base) I.ok.mod.kin hM.kp hall (thn (ha.run pos pins s σ H (fun vs H1 => ∃ W1 S1 ds1, Ok Γ W1 S1 H1 ∧ Reps Γ W1 ds1 vs ∧ Cont Γ (if ds1.length = ks.length then newD c n F (gD ds1) S1 else .bad) W1 Q (at_ E σ)) I
    ⟨W, es', S, P0, ok, fr, ContA.bind h fun ds1 S1 W1 vs H1 le ok1 rs h1 => ⟨W1, S1, ds1, ok1, rs, h1⟩⟩) fun us s1 ⟨vs, H1, I1, r, W1, S1, ds1, ok1, rs, h1⟩ => ⟨I1.kIn, ?_⟩) hpl
  split at h1
  case isFalse => exact h1.elim
  rename_i hl
  rw [hks]
  refine runMkK (gV := g) hM hF (h6.mono hj) hb (pass_of h7 σ) I1 r (rs.length.trans hl) fun x dx hx hd hne => ?_
  rw [hgv _ _ (rs.length.trans hl)]
  exact spI_of M.no ok1 (hgd W1 _ _ rs) h1 hx hd hne
end
end DL
set_option Elab.async false
set_option linter.all false
set_option maxRecDepth 100000
set_option maxHeartbeats 2000000
set_option autoImplicit false
/-! The data layer, 13: the head's facts. -/
namespace DL
open PySem PySem.Spec PyProof.Rows L2 He

/-! ### addresses by paths -/
def pa (K : PySem.W.Frag) (C : Addr) (f : Str) : Addr := match PySem.W.recIn K (ma K C f) "property" with
  | some (.ref g :: _) => g
  | _ => 0
/-! ### defs at addresses -/
structure DefA where
  at_ : PySem.W.Frag → Addr
  name : Str
  qual : Str
  params : Arguments
  body : List Stmt
  scope : Scope
  dfl : List Dv := []
def fnA (K : PySem.W.Frag) (a : Addr) : FnW := match K.lookup a with
  | some ⟨_, _, .func fd, _⟩ => some (fd.name, fd.qualname, fd.params, fd.body, fd.scope, fd.globals, fd.closure, fd.builtins)
  | _ => none
def DefA.val (d : DefA) : FnW := some (d.name, d.qual, d.params, .stmts d.body, d.scope, mainGlobals, [], builtinsNs)
def DefA.dvs (K : PySem.W.Frag) (d : DefA) : List V := d.dfl.map (Dv.v K)
def DefA.ok (K : PySem.W.Frag) (d : DefA) : Bool := PySem.W.keepIn K (.ref (d.at_ K)) && (match K.lookup (d.at_ K) with
  | some ⟨_, _, .func fd, _⟩ => PySem.W.codeIn K fd.code d.qual && dflB K fd.defaults (d.dvs K)
  | _ => false)
theorem DefA.funD {K : PySem.W.Frag} {d : DefA} (e : fnA K (d.at_ K) = d.val) (c : d.ok K = true) : ∃ fd, FunD K d.name d.qual d.params d.body d.scope (d.dvs K) [] (d.at_ K) fd := by
  obtain ⟨kp, c2⟩ := ba c
  unfold fnA at e
  cases q : K.lookup (d.at_ K) with
  | none =>
    rw [q] at c2
    cases c2
  | some o =>
    obtain ⟨oc, od, dt, osl⟩ := o
    rw [q] at c2 e
    cases dt with
    | func fd =>
      obtain ⟨n1, n2, n3, n4, n5, n6, n7, n8, n9, n10, n11, n12, n13, n14, n15⟩ := fd
      have e2 : (some (n1, n2, n3, n4, n5, n6, n7, n15) : FnW) = some (d.name, d.qual, d.params, .stmts d.body, d.scope, mainGlobals, [], builtinsNs) := e
      simp only [Option.some.injEq, Prod.mk.injEq] at e2
      obtain ⟨h1, h2, h3, h4, h5, h6, h7, h8⟩ := e2
      subst h1 h2 h3 h4 h5 h6 h7 h8
      obtain ⟨k1, k2⟩ := ba (show (PySem.W.codeIn K n13 d.qual && dflB K n8 (d.dvs K)) = true from c2)
      exact ⟨_, ⟨oc, od, n8, n9, n10, n11, n12, n13, n14, osl, rfl, q, k1, dflB_ok k2, .inl rfl⟩, kp⟩
    | _ => cases c2

/-! ### the Hook -/
abbrev AlA : Type := Bool × List FnW
def obsA (fn : List DefA) (ex : PySem.W.Frag → Bool) (K : PySem.W.Frag) : AlA := (ex K && fn.all fun d => d.ok K, fn.map fun d => fnA K (d.at_ K))
def valA (fn : List DefA) : AlA := (true, fn.map DefA.val)
structure SaysA (fn : List DefA) (ex : PySem.W.Frag → Bool) (K : PySem.W.Frag) : Prop where
  more : ex K = true
  def_ : ∀ d ∈ fn, ∃ fd, FunD K d.name d.qual d.params d.body d.scope (d.dvs K) [] (d.at_ K) fd
theorem saysA_of {fn : List DefA} {ex : PySem.W.Frag → Bool} {K : PySem.W.Frag} (e : obsA fn ex K = valA fn) : SaysA fn ex K := by
  obtain ⟨c1, c2⟩ := ba (show (ex K && fn.all fun d => d.ok K) = true from congrArg (fun z : AlA => z.1) e)
  have e2 : fn.map (fun d => fnA K (d.at_ K)) = fn.map DefA.val := congrArg (fun z : AlA => z.2) e
  refine ⟨c1, fun d hd => ?_⟩
  obtain ⟨i, hi, ei⟩ := List.mem_iff_getElem.mp hd
  have e3 : (fn.map fun d => fnA K (d.at_ K))[i]? = (fn.map DefA.val)[i]? := by rw [e2]
  rw [List.getElem?_map, List.getElem?_map, List.getElem?_eq_getElem hi, ei] at e3
  exact DefA.funD (Option.some.inj e3) (List.all_eq_true.mp c2 d hd)
def obsAG (n : Nat) (fn : List DefA) (ex : PySem.W.Frag → Bool) (g : Addr → Option Obj) : AlA := obsA fn ex (frG g (cStatics :: asD g n))
def hookA (n : Nat) (fn : List DefA) (ex : PySem.W.Frag → Bool) : PySem.W.Hook where
  α := AlA
  obs := fun s => obsAG n fn ex s.heap.get?
  val := fun _ => valA fn
  says := fun _ h => ∃ K : PySem.W.Frag, K.In h ∧ SaysA fn ex K
  of := fun _ _ e => ⟨_, frG_in, saysA_of e⟩
  keeps := fun _ _ _ ⟨K, hK, c⟩ k => ⟨K, PySem.W.Frag.In.keeps hK k, c⟩
theorem obsAG_eq {n : Nat} {fn : List DefA} {ex : PySem.W.Frag → Bool} {g : Addr → Option Obj} {s : Shared} (h : ∀ a, g a = s.heap.get? a) : obsAG n fn ex g = (hookA n fn ex).obs s := by
  have e : g = s.heap.get? := funext h
  rw [e] <;> rfl
/-! ### facts by Bools -/
section
variable {K : PySem.W.Frag}
def bOB (a b : Option Bool) : Bool := decide (a = b)
theorem bOB_ok {a b : Option Bool} (h : bOB a b = true) : a = b := of_decide_eq_true h
def bOV (a b : Option Value) : Bool := decide (a = b)
theorem bOV_ok {a b : Option Value} (h : bOV a b = true) : a = b := of_decide_eq_true h
/-- a class with slots -/
def slB (K : PySem.W.Frag) (C : Addr) : Bool := PySem.W.plainGet K C Str.empty && (PySem.W.isClsIn K C && (PySem.W.plainOver K C && eqO (PySem.W.findIn K (.ref C) "__setattr__") (some (some (.builtin "object.__setattr__")))))
theorem slB_ok {C : Addr} (h : slB K C = true) : SlX.SCls K C := by
  obtain ⟨h1, h⟩ := ba h
  obtain ⟨h2, h⟩ := ba h
  obtain ⟨h3, h4⟩ := ba h
  exact ⟨h1, h2, h3, eqO_ok h4⟩
def clB (K : PySem.W.Frag) (C : Addr) (ns : List Str) : Bool := PySem.W.plainGet K C Str.empty && (PySem.W.hasDictIn K C && (PySem.W.plainOver K C && (eqO (PySem.W.findIn K (.ref C) "__setattr__") (some (some (.builtin "object.__setattr__"))) && ns.all fun f => eqO (PySem.W.findIn K (.ref C) f) (some none))))
theorem clB_ok {C : Addr} {ns : List Str} (h : clB K C ns = true) : Cls K C ∧ ∀ f ∈ ns, NoAttr K C f := by
  obtain ⟨h1, h⟩ := ba h
  obtain ⟨h2, h⟩ := ba h
  obtain ⟨h3, h⟩ := ba h
  obtain ⟨h4, h5⟩ := ba h
  exact ⟨⟨h1, h2, h3, eqO_ok h4⟩, fun f hf => eqO_ok (List.all_eq_true.mp h5 f hf)⟩
def siB (K : PySem.W.Frag) (C : Addr) : Bool := eqO (PySem.W.findIn K (.ref C) "__class__") (some (some (.builtin "object.__class__"))) && (eqO (PySem.W.specialIn K (.builtin "object.__class__") "__get__") (some (some (.builtin "getset_descriptor.__get__"))) && (bOB (PySem.W.takesIn K (.builtin "object.__class__")) (some true) && bOB (PySem.W.mroIn K C (.type "object")) (some true)))
theorem siB_ok {C : Addr} (h : siB K C = true) : SlX.SIsi K C := by
  obtain ⟨h1, h⟩ := ba h
  obtain ⟨h2, h⟩ := ba h
  obtain ⟨h3, h4⟩ := ba h
  exact ⟨eqO_ok h1, eqO_ok h2, bOB_ok h3, bOB_ok h4⟩
def stB (K : PySem.W.Frag) (C : Addr) (f : Str) (i : Nat) : Bool := eqO (PySem.W.findIn K (.ref C) f) (some (some (.ref (ma K C f)))) && (eqO (PySem.W.specialIn K (.ref (ma K C f)) "__get__") (some (some (.builtin "member_descriptor.__get__"))) && (bOB (PySem.W.takesIn K (.ref (ma K C f))) (some true) &&
  (bOV (PySem.W.typeIn K (.ref (ma K C f))) (some (.type "member_descriptor")) && (decide (PySem.W.slotIn K (ma K C f) C = some i) && decide (i < 1000)))))
theorem stB_ok {C : Addr} {f : Str} {i : Nat} (h : stB K C f i = true) : SlX.Slot1 K C f (ma K C f) i := by
  obtain ⟨h1, h⟩ := ba h
  obtain ⟨h2, h⟩ := ba h
  obtain ⟨h3, h⟩ := ba h
  obtain ⟨h4, h⟩ := ba h
  obtain ⟨h5, h6⟩ := ba h
  exact ⟨eqO_ok h1, eqO_ok h2, bOB_ok h3, bOV_ok h4, of_decide_eq_true h5, of_decide_eq_true h6⟩
def mtB (K : PySem.W.Frag) (C : Addr) (m : Str) : Bool := eqO (PySem.W.findIn K (.ref C) m) (some (some (.ref (ma K C m)))) && (PySem.W.isFn K (.ref (ma K C m)) && PySem.W.keepIn K (.ref (ma K C m)))
theorem mtB_ok {C : Addr} {m : Str} (h : mtB K C m = true) : Meth K C m (ma K C m) := by
  obtain ⟨h1, h⟩ := ba h
  obtain ⟨h2, h3⟩ := ba h
  exact ⟨eqO_ok h1, h2, h3⟩
def prB (K : PySem.W.Frag) (C : Addr) (f : Str) : Bool := eqO (PySem.W.findIn K (.ref C) f) (some (some (.ref (ma K C f)))) && (eqO (PySem.W.specialIn K (.ref (ma K C f)) "__get__") (some (some (.builtin "property.__get__"))) && (bOB (PySem.W.takesIn K (.ref (ma K C f))) (some true) &&
  (match PySem.W.recIn K (ma K C f) "property" with
    | some (.ref _ :: _) => true
    | _ => false)))
theorem prB_ok {Γ : Pg} {k : Nat} {f : Str} (h : prB Γ.K (Γ.cl k) f = true) : PropF Γ k f (pa Γ.K (Γ.cl k) f) := by
  obtain ⟨h1, h⟩ := ba h
  obtain ⟨h2, h⟩ := ba h
  obtain ⟨h3, h4⟩ := ba h
  split at h4
  case h_2 => cases h4
  rename_i g rest q
  have e : pa Γ.K (Γ.cl k) f = g := by
    unfold pa
    rw [q]
  rw [e]
  exact ⟨_, rest, eqO_ok h1, eqO_ok h2, bOB_ok h3, q⟩
def mkB (K : PySem.W.Frag) (C : Addr) : Bool := PySem.W.makesIn K C && (eqO (PySem.W.findIn K (.ref C) "__init__") (some (some (.ref (ma K C "__init__")))) && (PySem.W.isFn K (.ref (ma K C "__init__")) && PySem.W.keepIn K (.ref C)))
theorem mkB_ok {C : Addr} (h : mkB K C = true) : Mk K C (ma K C "__init__") := by
  obtain ⟨h1, h⟩ := ba h
  obtain ⟨h2, h⟩ := ba h
  obtain ⟨h3, h4⟩ := ba h
  exact ⟨h1, eqO_ok h2, h3, h4⟩
def isO (a : Option (Option Value)) : Bool := match a with
  | some none => true
  | some (some (.ref _)) => true
  | _ => false
def bnB (K : PySem.W.Frag) (C : Addr) (op : Operator) : Bool := PySem.W.selfFirst K C && (eqO (PySem.W.findIn K (.ref C) (PySem.dunder op.info.2)) (some (some (.ref (ma K C (PySem.dunder op.info.2))))) && (PySem.W.isFn K (.ref (ma K C (PySem.dunder op.info.2))) &&
  (isO (PySem.W.findIn K (.ref C) (dunderR op.info.2)) && ((PySem.W.findIn K (.type "int") (PySem.dunder op.info.2)).isSome && ((PySem.W.findIn K (.type "int") (dunderR op.info.2)).isSome && bOB (PySem.W.subIn K (.type "int") (.ref C)) (some false))))))
theorem bnB_ok {Γ : Pg} {k : Nat} {op : Operator} (h : bnB Γ.K (Γ.cl k) op = true) : BinF Γ k op (ma Γ.K (Γ.cl k) (PySem.dunder op.info.2)) := by
  obtain ⟨h1, h⟩ := ba h
  obtain ⟨h2, h⟩ := ba h
  obtain ⟨h3, h⟩ := ba h
  obtain ⟨h4, h⟩ := ba h
  obtain ⟨h5, h⟩ := ba h
  obtain ⟨h6, h7⟩ := ba h
  obtain ⟨a, ea⟩ := Option.isSome_iff_exists.mp h5
  obtain ⟨b, eb⟩ := Option.isSome_iff_exists.mp h6
  refine ⟨h1, eqO_ok h2, h3, ?_, ⟨a, b, ea, eb⟩, bOB_ok h7⟩
  unfold isO at h4
  split at h4
  · rename_i q
    exact ⟨_, q, .inl rfl⟩
  · rename_i g q
    exact ⟨_, q, .inr ⟨g, rfl⟩⟩
  · cases h4
/-- an own special of one operand, == -/
def spB (K : PySem.W.Frag) (C : Addr) (m : Str) : Bool := eqO (PySem.W.findIn K (.ref C) m) (some (some (.ref (ma K C m)))) && PySem.W.isFn K (.ref (ma K C m))
theorem spB_ok {C : Addr} {m : Str} (h : spB K C m = true) : PySem.W.findIn K (.ref C) m = some (some (.ref (ma K C m))) ∧ PySem.W.isFn K (.ref (ma K C m)) = true := by
  obtain ⟨h1, h2⟩ := ba h
  exact ⟨eqO_ok h1, h2⟩
def eqFB (K : PySem.W.Frag) (C : Addr) (cs : List Addr) : Bool := spB K C "__eq__" && ((kinds.all fun t => PySem.W.notFirst K C (.type t)) && cs.all fun c => PySem.W.notFirst K C (.ref c))
theorem eqFB_ok {Γ : Pg} {cs : List Nat} {k : Nat} (h : eqFB Γ.K (Γ.cl k) (cs.map Γ.cl) = true) : EqF Γ cs k (ma Γ.K (Γ.cl k) "__eq__") := by
  obtain ⟨h1, h⟩ := ba h
  obtain ⟨h2, h3⟩ := ba h
  obtain ⟨h4, h5⟩ := spB_ok h1
  exact ⟨h4, h5, List.all_eq_true.mp h2, fun j hj => List.all_eq_true.mp h3 _ (List.mem_map_of_mem hj)⟩
def isB (K : PySem.W.Frag) (cl : Nat → Addr) (cs : List Nat) : Bool := (cs.all fun j => kinds.all fun t => bOB (PySem.W.kitOne K (.type t) (.ref (cl j))) (some false)) && ((cs.all fun k => kinds.all fun n => bOB (PySem.W.kitOne K (.ref (cl k)) (.type n)) (some false)) && (cs.all fun k => cs.all fun j => bOB (PySem.W.kitOne K (.ref (cl k)) (.ref (cl j))) (some (k == j))))
theorem isB_ok {Γ : Pg} {cs : List Nat} (h : isB Γ.K Γ.cl cs = true) (o : ∀ k ∈ cs, ObF Γ k) : IsF Γ cs := by
  obtain ⟨h1, h⟩ := ba h
  obtain ⟨h2, h3⟩ := ba h
  exact ⟨fun j hj t ht => bOB_ok (List.all_eq_true.mp (List.all_eq_true.mp h1 j hj) t ht), fun j hj t ht => bOB_ok (List.all_eq_true.mp (List.all_eq_true.mp h2 j hj) t ht), fun j hj t ht => bOB_ok (List.all_eq_true.mp (List.all_eq_true.mp h3 j hj) t ht), o⟩
/-- an own exception, its base a ValueError -/
def oexB (K : PySem.W.Frag) (C : Addr) : Bool := (match K.lookup C with
  | some ⟨.type "type", _, .cls cd, sl⟩ => (match cd.mro, sl.toList with
    | .ref C' :: bm, [_, _, _, _, some (.builtin n), _] => C' == C && n == "ValueError.__new__" && !cd.hasDel && cd.hasDict && PySem.HandSPX.refsVE bm
    | _, _ => false)
  | _ => false) && (eqO (PySem.W.findIn K (.ref C) "__setattr__") (some (some (.builtin "object.__setattr__"))) && (bOB (PySem.W.subIn K (.ref C) (.type "BaseException")) (some true) && (bOV (PySem.W.typeIn K (.ref C)) (some (.type "type")) && PySem.W.keepIn K (.ref C))))
theorem oexB_ok {C : Addr} (h : oexB K C = true) : OexC K C := by
  obtain ⟨h1, h⟩ := ba h
  obtain ⟨h2, h⟩ := ba h
  obtain ⟨h3, h⟩ := ba h
  obtain ⟨h4, h5⟩ := ba h
  refine ⟨?_, eqO_ok h2, bOB_ok h3, bOV_ok h4, h5⟩
  split at h1
  · rename_i dd cd sl ho
    split at h1
    · rename_i C' bm k0 k1 k2 k3 n k5 hm hs
      simp only [Bool.and_eq_true, beq_iff_eq, Bool.not_eq_true'] at h1
      obtain ⟨⟨⟨⟨rfl, rfl⟩, hdel⟩, hdict⟩, hr⟩ := h1
      obtain ⟨nm, bs, mro, ns, qn, hd, sn, sub, ab, col, del⟩ := cd
      dsimp only at hm hdel hdict
      subst hm hdel hdict
      have hsl : sl = #[k0, k1, k2, k3, some (.builtin "ValueError.__new__"), k5] := by
        obtain ⟨l⟩ := sl
        simp only at hs
        rw [hs]
      subst hsl
      exact ⟨nm, qn, ns, bs, bm, sn, sub, ab, col, dd, k0, k1, k2, k3, k5, ho, hr⟩
    · cases h1
  · cases h1
/-- its __init__ -/
def oinB (K : PySem.W.Frag) (C : Addr) : Bool := oexB K C && (eqO (PySem.W.findIn K (.ref C) "__init__") (some (some (.ref (ma K C "__init__")))) && bOV (PySem.W.typeIn K (.ref (ma K C "__init__"))) (some (.type "function")))
theorem oinB_ok {C : Addr} (h : oinB K C = true) : OexC K C ∧ PySem.W.findIn K (.ref C) "__init__" = some (some (.ref (ma K C "__init__"))) ∧ PySem.W.typeIn K (.ref (ma K C "__init__")) = some (.type "function") := by
  obtain ⟨h1, h⟩ := ba h
  obtain ⟨h2, h3⟩ := ba h
  exact ⟨oexB_ok h1, eqO_ok h2, bOV_ok h3⟩
/-- B.__init__ is ValueError's -/
def bsB (K : PySem.W.Frag) (B : Addr) : Bool := PySem.W.readsIn K B (.type "type") && (eqO (PySem.W.specialIn K (.ref B) "__getattribute__") (some (some (.builtin "type.__getattribute__"))) && (match PySem.W.findCls K (.ref B) (.type "type") "__init__" with
  | some (.val (.builtin n)) => n == "ValueError.__init__"
  | _ => false))
theorem bsB_ok {mg : Str → Option Value} {x : Str} {B : Addr} (hm : mg x = some (.ref B)) (h : bsB K B = true) : BaseF K mg x := by
  obtain ⟨h1, h⟩ := ba h
  obtain ⟨h2, h3⟩ := ba h
  split at h3
  case h_2 => cases h3
  rename_i n q
  have e : n = "ValueError.__init__" := by simpa using h3
  subst e
  exact ⟨B, .type "type", hm, ⟨h1, eqO_ok h2⟩, q⟩
def mtsB (K : PySem.W.Frag) (cl : Nat → Addr) (ps : Mts) : Bool := ps.all fun p => bOB (PySem.W.exmOne K (.ref (cl p.1)) (.ref (cl p.2.1))) (some p.2.2)
theorem mtsB_ok {Γ : Pg} {ps : Mts} (h : mtsB Γ.K Γ.cl ps = true) : MtF Γ ps := fun p hp => bOB_ok (List.all_eq_true.mp h p hp)
def xffB (K : PySem.W.Frag) (cl : Nat → Addr) (ks : List Nat) (n : Str) : Bool := ks.all fun k => xfB K (cl k) && eqO (PySem.W.findIn K (.ref (cl k)) n) (some none)
theorem xffB_ok {Γ : Pg} {ks : List Nat} {n : Str} (h : xffB Γ.K Γ.cl ks n = true) : XfF Γ ks n := fun k hk => by
  obtain ⟨h1, h2⟩ := ba (List.all_eq_true.mp h k hk)
  exact ⟨xfB_ok h1, eqO_ok h2⟩
end
end DL
set_option Elab.async false
set_option linter.all false
set_option maxRecDepth 100000
set_option maxHeartbeats 2000000
set_option autoImplicit false
/-! The data layer, 14: the joints between the head's facts and the defs. -/
namespace DL
open PySem PySem.Spec PyProof.Rows L2 He

section
variable {Γ : Pg} {ξ : Xx} {X : Cx} {E : WX} {P : Program} {w : World} {mg : Str → Option Value} {base : Heap} {k : Nat}
/-! ### // and % by what is not 0 -/
def iDivN : D → D → Store → Res := gI (fun i j => .int (i.fdiv j)) fun _ j => decide (j ≠ 0) && decide (bits j < 9000)
def iModN : D → D → Store → Res := gI (fun i j => .int (i.fmod j)) fun _ j => decide (j ≠ 0)
theorem op_fdivA : OpR X (binaryOp .FloorDiv) (rI (fun _ j => j ≠ 0 ∧ j.natAbs.log2 < 9000) fun i j => .int (i.fdiv j)) := opI fun _ _ _ _ _ _ _ hc q => floordiv_int hc.1 q (.inl (PyProof.noPylong_of_log2 hc.2))
theorem op_iDivN : OpR X (binaryOp .FloorDiv) (rD Γ iDivN) := op_gI op_fdivA (fun i j H Q c q => ⟨i, j, rfl, rfl, ⟨of_decide_eq_true (Bool.and_eq_true_iff.mp c).1, of_decide_eq_true (Bool.and_eq_true_iff.mp c).2⟩, q⟩) fun W i j => by simp only [Rep]
theorem op_iModN : OpR X (binaryOp .Mod) (rD Γ iModN) := op_gI op_modN (fun i j H Q c q => ⟨i, j, rfl, rfl, of_decide_eq_true c, q⟩) fun W i j => by simp only [Rep]

/-! ### contexts -/
theorem Here.blk (hh : Here Γ P w mg base k X E) {s : Shared} {H : Hp} {scope : Scope} {cenv : Env} {fp : List Addr} : Here Γ P w mg base k (X.blk s H scope cenv fp) E0 := ⟨hh.p, hh.w, hh.K, hh.mg, hh.base, hh.room, takes0⟩
theorem Here.tr (hh : Here Γ P w mg base k X E) {pn : List (Addr × Obj)} {xe : Value → Shared → Prop} {E' : WX} (tk : Takes (X.tr pn xe) E') : Here Γ P w mg base k (X.tr pn xe) E' := ⟨hh.p, hh.w, hh.K, hh.mg, hh.base, hh.room, tk⟩
theorem here_of {N : List Str} {qual : Str} {scope : Scope} {f : Addr} {cdv : Value} {A : Around} {outer : List Env} {s : Shared} {H : Hp} {Ex : XK} (hr : Room k (A.deeper (envOfC qual scope s.heap.objs.size f cdv))) :
    Here Γ P w mg base k (cxOf (L2.CX P w) P w Γ.K mg base N qual scope f cdv A outer s H Ex) (fun c d _ H => Ex c d H) := ⟨rfl, rfl, rfl, rfl, rfl, hr, takes_of rfl rfl rfl rfl⟩
theorem Here.u64 (hh : Here Γ P w mg base k X E) : X.A.units + 64 < cLine := by have := hh.room.un; omega
theorem Here.u66 (hh : Here Γ P w mg base k X E) : X.A.units + 66 < cLine := by have := hh.room.un; omega

/-! ### what the head tells -/
structure Bs (fn : List DefA) (ck : PySem.W.Frag → List Bool) (K : PySem.W.Frag) (mg : Str → Option Value) : Prop where
  more : ∀ b ∈ ck K, b = true
  def_ : ∀ d ∈ fn, ∃ fd, FunD K d.name d.qual d.params d.body d.scope (d.dvs K) [] (d.at_ K) fd
  mg : ∃ h : Heap, K.In h ∧ h.Ns mainGlobals mg
variable {fn : List DefA} {cks : PySem.W.Frag → List Bool} {K : PySem.W.Frag}
theorem Bs.ck (B : Bs fn cks K mg) (i : Nat) {b : Bool} (h : (cks K)[i]? = some b := by rfl) : b = true := B.more b (List.mem_of_getElem? h)
theorem Bs.glo (B : Bs fn cks K mg) {x : Str} (c : (Fa.glo x).ok K = true) : mg x = some (.ref (ga K x)) := by
  obtain ⟨h, X, G⟩ := B.mg
  exact glo_ok X G c
theorem Bs.free (B : Bs fn cks K mg) {x : Str} (c : (Fa.free x).ok K = true) : mg x = none := by
  obtain ⟨h, X, G⟩ := B.mg
  exact free_ok X G c
theorem Bs.int (B : Bs fn cks K mg) {x : Str} {i : Int} (c : (Fa.int x i).ok K = true) : GlobF Γ mg x (.int i) := by
  obtain ⟨h, X, G⟩ := B.mg
  obtain ⟨t, e⟩ := int_ok X G c
  exact ⟨_, .int i, e, ⟨t, rfl⟩, fun W => by simp only [Rep]⟩
theorem Bs.str (B : Bs fn cks K mg) {x z : Str} (c : (Fa.str x z).ok K = true) : GlobF Γ mg x (.str z) := by
  obtain ⟨h, X, G⟩ := B.mg
  obtain ⟨t, e⟩ := str_ok X G c
  exact ⟨_, .str z, e, ⟨t, rfl⟩, fun W => by simp only [Rep]⟩
theorem Bs.cls (B : Bs fn cks K mg) {x : Str} {j : Nat} (c : (Fa.glo x).ok K = true) (hj : Γ.cl j = ga K x) : GlobF Γ mg x (.cls j) := ⟨_, .ref (ga K x), B.glo c, rfl, fun W => by simp only [Rep, hj]⟩

/-! ### a def, by its body's reading -/
theorem fnk_of {d : DefA} {fd : FuncData} {N ps : List Str} {n m : Nat} {body : SF} (F : FunD Γ.K d.name d.qual d.params d.body d.scope (d.dvs Γ.K) [] (d.at_ Γ.K) fd) (sc : FnScope N ps d.scope) (hn : ps.length = n) (hN : N.length = m)
    (hb : ∀ (cdv : Value) (A : Around) (outer : List Env) (s : Shared) (H : Hp) (Ex : XK), Room k (A.deeper (envOfC d.qual d.scope s.heap.objs.size (d.at_ Γ.K) cdv)) →
      PSs (cxOf (L2.CX P w) P w Γ.K mg base N d.qual d.scope (d.at_ Γ.K) cdv A outer s H Ex) d.body (dS Γ ξ body (fun c d' _ H => Ex c d' H))) :
    FnOk P w Γ.K mg base (L2.CX P w) (k + 1) (d.at_ Γ.K) fd ps (spD Γ n (fnD m body)) :=
  F.ok sc (spD_len hn) fun cdv A outer s H vs Q Ex hr hsp => ⟨_, hb cdv A outer s H Ex hr, enter hN hsp⟩
theorem cal_of {x : Str} {d : DefA} {N ps : List Str} {n m : Nat} {body : SF} (B : Bs fn cks Γ.K mg) (i : Nat) (sc : FnScope N ps d.scope) (hg : (Fa.glo x).ok Γ.K = true)
    (hb : ∀ (cdv : Value) (A : Around) (outer : List Env) (s : Shared) (H : Hp) (Ex : XK), Room k (A.deeper (envOfC d.qual d.scope s.heap.objs.size (d.at_ Γ.K) cdv)) →
      PSs (cxOf (L2.CX P w) P w Γ.K mg base N d.qual d.scope (d.at_ Γ.K) cdv A outer s H Ex) d.body (dS Γ ξ body (fun c d' _ H => Ex c d' H)))
    (hbd : ∀ (kV doc pm : Value) (an : Option Addr) (cdv ct : Value) (us : List Value), us.length = ps.length → bindArgs (PySem.W.fnOf d.name d.qual d.params d.body d.scope .none kV doc pm an cdv ct) ⟨us, []⟩ = pure (ps.zip us))
    (hd : fn[i]? = some d := by rfl) (ha : d.at_ Γ.K = ga Γ.K x := by rfl) (hdf : d.dfl = [] := by rfl) (hn : ps.length = n := by rfl) (hN : N.length = m := by rfl) : Cal Γ P w mg base (k + 1) x n (fnD m body) := by
  obtain ⟨fd, F⟩ := B.def_ d (List.mem_of_getElem? hd)
  have F' : FunD Γ.K d.name d.qual d.params d.body d.scope [] [] (d.at_ Γ.K) fd := by
    have e : d.dvs Γ.K = [] := by
      unfold DefA.dvs
      rw [hdf]
      rfl
    rw [← e]
    exact F
  exact ⟨_, fd, ps, fnk_of F sc hn hN hb, by rw [ha]; exact B.glo hg, F.kp, F'.bindsN hbd⟩
/-- a method, a getter -/
theorem calR_of {d : DefA} {N ps : List Str} {n m : Nat} {body : SF} {g : Addr} (B : Bs fn cks Γ.K mg) (i : Nat) (sc : FnScope N ps d.scope)
    (hb : ∀ (cdv : Value) (A : Around) (outer : List Env) (s : Shared) (H : Hp) (Ex : XK), Room k (A.deeper (envOfC d.qual d.scope s.heap.objs.size (d.at_ Γ.K) cdv)) →
      PSs (cxOf (L2.CX P w) P w Γ.K mg base N d.qual d.scope (d.at_ Γ.K) cdv A outer s H Ex) d.body (dS Γ ξ body (fun c d' _ H => Ex c d' H)))
    (hbd : ∀ (kV doc pm : Value) (an : Option Addr) (cdv ct : Value) (us : List Value), us.length = ps.length → bindArgs (PySem.W.fnOf d.name d.qual d.params d.body d.scope .none kV doc pm an cdv ct) ⟨us, []⟩ = pure (ps.zip us))
    (hd : fn[i]? = some d := by rfl) (ha : d.at_ Γ.K = g := by rfl) (hdf : d.dfl = [] := by rfl) (hn : ps.length = n := by rfl) (hN : N.length = m := by rfl) : CalR Γ P w mg base (k + 1) g n (fnD m body) := by
  obtain ⟨fd, F⟩ := B.def_ d (List.mem_of_getElem? hd)
  have F' : FunD Γ.K d.name d.qual d.params d.body d.scope [] [] (d.at_ Γ.K) fd := by
    have e : d.dvs Γ.K = [] := by
      unfold DefA.dvs
      rw [hdf]
      rfl
    rw [← e]
    exact F
  rw [← ha]
  exact ⟨((fnk_of F sc hn hN hb).raw (F'.bindsN hbd) .nil).imp fun vs H Q E h => by rw [List.append_nil]; exact h⟩
/-- the same def, called with keywords -/
theorem kfn_of {d : DefA} {N ps ks : List Str} {n m j : Nat} {body : SF} {g : Addr} {gv : List Value → List Value → List Value} {gV : List V → List V → List V} (B : Bs fn cks Γ.K mg) (i : Nat) (sc : FnScope N ps d.scope)
    (hb : ∀ (cdv : Value) (A : Around) (outer : List Env) (s : Shared) (H : Hp) (Ex : XK), Room k (A.deeper (envOfC d.qual d.scope s.heap.objs.size (d.at_ Γ.K) cdv)) →
      PSs (cxOf (L2.CX P w) P w Γ.K mg base N d.qual d.scope (d.at_ Γ.K) cdv A outer s H Ex) d.body (dS Γ ξ body (fun c d' _ H => Ex c d' H)))
    (hbd : ∀ (kV doc pm : Value) (an : Option Addr) (cdv ct : Value) (us ws : List Value), us.length = j → ws.length = ks.length → bindArgs (PySem.W.fnOf d.name d.qual d.params d.body d.scope .none kV doc pm an cdv ct) ⟨us, ks.zip ws⟩ = pure (ps.zip (gv us ws)))
    (hrel : ∀ {vs : List V} {us : List Value} {zs : List V} {ws : List Value}, Vals vs us → Vals zs ws → Vals (gV vs zs) (gv us ws))
    (hd : fn[i]? = some d := by rfl) (ha : d.at_ Γ.K = g := by rfl) (hdf : d.dfl = [] := by rfl) (hn : ps.length = n := by rfl) (hN : N.length = m := by rfl) : KFn Γ P w mg base (k + 1) g j ks (spD Γ n (fnD m body)) gV := by
  obtain ⟨fd, F⟩ := B.def_ d (List.mem_of_getElem? hd)
  obtain ⟨oc, od, dV, kV, doc, pm, an, cdv, ct, osl, e, lk, hcd, hD, hK⟩ := F.ex
  have ed : d.dvs Γ.K = [] := by
    unfold DefA.dvs
    rw [hdf]
    rfl
  have eV : dV = .none := by
    rcases hD with ⟨_, z⟩ | ⟨z, _⟩
    · exact z
    · exact absurd ed z
  subst eV
  rw [← ha]
  exact ⟨fd, ps, gv, fnk_of F sc hn hN hb, ⟨fun s us ws _ l1 l2 => by rw [e]; exact .of_eq (hbd kV doc pm an cdv ct us ws l1 l2), hrel⟩⟩
/-- __init__ of a class with two slots -/
theorem init_of {sw : Bool} {d : DefA} {fd : FuncData} {N ps : List Str} {n m c : Nat} {body : SF} {f1 f2 : EF} {n1 n2 : Str} (F : FunD Γ.K d.name d.qual d.params d.body d.scope (d.dvs Γ.K) [] (d.at_ Γ.K) fd) (sc : FnScope N ps d.scope) (hn : ps.length = n + 1) (hN : N.length = m)
    (cs : SlF Γ c) (t1 : SlotF Γ c n1 (ix1 sw)) (t2 : SlotF Γ c n2 (ix2 sw))
    (hb : ∀ (ξ : Xx) (cdv : Value) (A : Around) (outer : List Env) (s : Shared) (H : Hp) (Ex : XK), Room k (A.deeper (envOfC d.qual d.scope s.heap.objs.size (d.at_ Γ.K) cdv)) →
      PSs (cxOf (L2.CX P w) P w Γ.K mg base N d.qual d.scope (d.at_ Γ.K) cdv A outer s H Ex) d.body (tSeq (dS Γ ξ body (fun c' d' _ H => Ex c' d' H)) (tSeq (SlX.sSl Γ.K (tVar 0) (dE Γ ξ f1 (fun c' d' _ H => Ex c' d' H)) n1) (SlX.sSl Γ.K (tVar 0) (dE Γ ξ f2 (fun c' d' _ H => Ex c' d' H)) n2)))) :
    FnOk P w Γ.K mg base (L2.CX P w) (k + 1) (d.at_ Γ.K) fd ps (spI Γ c n (initD sw m body f1 f2)) :=
  F.ok sc (spI_len hn) fun cdv A outer s H vs Q Ex hr hsp => by
    obtain ⟨ξ, z⟩ := enterI rfl hN cs t1 t2 hsp
    exact ⟨_, hb ξ cdv A outer s H Ex hr, z⟩
theorem mak_of {d : DefA} {ps : List Str} {n c : Nat} {x : Str} {dfl : List D} {FF : List D → Store → ResA} (B : Bs fn cks Γ.K mg) (i : Nat) (hg : (Fa.glo x).ok Γ.K = true) (hmk : mkB Γ.K (ga Γ.K x) = true)
    (hI : ∀ fd, FunD Γ.K d.name d.qual d.params d.body d.scope (d.dvs Γ.K) [] (d.at_ Γ.K) fd → FnOk P w Γ.K mg base (L2.CX P w) k (d.at_ Γ.K) fd ps (spI Γ c n FF))
    (hbd : ∀ fd, FunD Γ.K d.name d.qual d.params d.body d.scope (d.dvs Γ.K) [] (d.at_ Γ.K) fd → ∃ (dvs : List V) (ds : List Value), Binds Γ.K fd ps ds ∧ Vals dvs ds ∧ ∀ W, Reps Γ W dfl dvs)
    (hd : fn[i]? = some d := by rfl) (ha : d.at_ Γ.K = ma Γ.K (ga Γ.K x) "__init__" := by rfl) (hc : Γ.cl c = ga Γ.K x := by rfl) (hno : Γ.at_ c = none := by rfl) : Mak Γ P w mg base k x c n dfl FF := by
  obtain ⟨fd, F⟩ := B.def_ d (List.mem_of_getElem? hd)
  obtain ⟨dvs, ds, b1, b2, b3⟩ := hbd fd F
  have z := hI fd F
  rw [ha] at z
  exact ⟨hno, _, fd, ps, ds, dvs, by rw [hc]; exact mkB_ok hmk, z, by rw [hc]; exact B.glo hg, b1, b2, b3⟩
theorem makK_of {d : DefA} {ps ks : List Str} {n c : Nat} {x : Str} {gV : List V → List V} {FF : List D → Store → ResA} (B : Bs fn cks Γ.K mg) (i : Nat) (hg : (Fa.glo x).ok Γ.K = true) (hmk : mkB Γ.K (ga Γ.K x) = true)
    (hI : ∀ fd, FunD Γ.K d.name d.qual d.params d.body d.scope (d.dvs Γ.K) [] (d.at_ Γ.K) fd → FnOk P w Γ.K mg base (L2.CX P w) k (d.at_ Γ.K) fd ps (spI Γ c n FF))
    (hbd : ∀ fd, FunD Γ.K d.name d.qual d.params d.body d.scope (d.dvs Γ.K) [] (d.at_ Γ.K) fd → ∃ (gv : List Value → List Value → List Value) (g : List V → List V → List V), KBn Γ.K fd ps 1 ks gv g ∧ ∀ x zs, zs.length = ks.length → g [x] zs = x :: gV zs)
    (hd : fn[i]? = some d := by rfl) (ha : d.at_ Γ.K = ma Γ.K (ga Γ.K x) "__init__" := by rfl) (hc : Γ.cl c = ga Γ.K x := by rfl) (hno : Γ.at_ c = none := by rfl) : MakK Γ P w mg base k x c n ks gV FF := by
  obtain ⟨fd, F⟩ := B.def_ d (List.mem_of_getElem? hd)
  obtain ⟨gv, g, b1, b2⟩ := hbd fd F
  have z := hI fd F
  rw [ha] at z
  exact ⟨hno, _, fd, ps, gv, g, by rw [hc]; exact mkB_ok hmk, z, by rw [hc]; exact B.glo hg, b1, b2⟩
/-- with one default, or without: how such a def binds -/
theorem binds_dfl {d : DefA} {fd : FuncData} {ps : List Str} {dfl : List D} (F : FunD Γ.K d.name d.qual d.params d.body d.scope (d.dvs Γ.K) [] (d.at_ Γ.K) fd) (n j : Nat) (hne : d.dvs Γ.K ≠ []) (hn : n + ((d.dvs Γ.K).length - j) = ps.length) (hr : ∀ W, Reps Γ W dfl ((d.dvs Γ.K).drop j))
    (h : ∀ (T : Addr) (kV doc pm : Value) (an : Option Addr) (cdv ct : Value) (us its : List Value), us.length = n → its.length = (d.dvs Γ.K).length →
      ∃ k, bindArgs (PySem.W.fnOf d.name d.qual d.params d.body d.scope (.ref T) kV doc pm an cdv ct) ⟨us, []⟩ = seqItems? (.ref T) >>= k ∧ k (some its.toArray) = pure (ps.zip (us ++ its.drop j))) :
    ∃ (dvs : List V) (ds : List Value), Binds Γ.K fd ps ds ∧ Vals dvs ds ∧ ∀ W, Reps Γ W dfl dvs := by
  obtain ⟨ds, r, b⟩ := F.binds1 (ps := ps) n j hne hn h
  exact ⟨_, ds, b, r, hr⟩
theorem kbind_dfl {d : DefA} {fd : FuncData} {ps ks : List Str} {n : Nat} {gv : List Value → List Value → List Value} {gV : List V → List V → List V} (F : FunD Γ.K d.name d.qual d.params d.body d.scope (d.dvs Γ.K) [] (d.at_ Γ.K) fd) (hne : d.dvs Γ.K ≠ [])
    (hrel : ∀ {vs : List V} {us : List Value} {zs : List V} {ws : List Value}, Vals vs us → Vals zs ws → Vals (gV vs zs) (gv us ws))
    (h : ∀ (T : Addr) (kV doc pm : Value) (an : Option Addr) (cdv ct : Value) (us its ws : List Value), us.length = n → ws.length = ks.length → its.length = (d.dvs Γ.K).length →
      ∃ k, bindArgs (PySem.W.fnOf d.name d.qual d.params d.body d.scope (.ref T) kV doc pm an cdv ct) ⟨us, ks.zip ws⟩ = seqItems? (.ref T) >>= k ∧ k (some its.toArray) = pure (ps.zip (gv us ws))) :
    KBn Γ.K fd ps n ks gv gV := by
  obtain ⟨oc, od, dV, kV, doc, pm, an, cdv, ct, osl, e, lk, hcd, hD, hK⟩ := F.ex
  rcases hD with ⟨z, _⟩ | ⟨_, T, o, its, m, rfl, lT, oT, rT⟩
  · exact absurd z hne
  · refine ⟨fun s us ws X l1 l2 => ?_, hrel⟩
    obtain ⟨k, e1, e2⟩ := h T kV doc pm an cdv ct us its ws l1 l2 rT.length.symm
    rw [e]
    refine BindsTo.of_looks fun M => ?_
    rw [e1]
    exact looks_items X lT oT (.of_pure e2)
/-- an own exception with a field -/
theorem exf_of {d : DefA} {N ps : List Str} {c : Nat} {x f t : Str} (B : Bs fn cks Γ.K mg) (i : Nat) (sc : FnScope N ps d.scope) (hg : (Fa.glo x).ok Γ.K = true) (ho : oinB Γ.K (ga Γ.K x) = true) (hno : eqO (PySem.W.findIn Γ.K (.ref (ga Γ.K x)) f) (some none) = true)
    (hb : ∀ (cdv : Value) (A : Around) (outer : List Env) (s : Shared) (H : Hp) (Ex : XK), PSs (cxOf (L2.CX P w) P w Γ.K mg base N d.qual d.scope (d.at_ Γ.K) cdv A outer s H Ex) d.body (tXInit Γ.K t f))
    (hbd : ∀ (kV doc pm : Value) (an : Option Addr) (cdv ct : Value) (us : List Value), us.length = ps.length → bindArgs (PySem.W.fnOf d.name d.qual d.params d.body d.scope .none kV doc pm an cdv ct) ⟨us, []⟩ = pure (ps.zip us))
    (hN : N.length = 2 := by rfl) (hn : ps.length = 2 := by rfl) (hd : fn[i]? = some d := by rfl) (hdf : d.dfl = [] := by rfl) (ha : d.at_ Γ.K = ma Γ.K (ga Γ.K x) "__init__" := by rfl) (hc : Γ.cl c = ga Γ.K x := by rfl) : ExF Γ P w mg base (k + 1) x c f := by
  obtain ⟨fd, F⟩ := B.def_ d (List.mem_of_getElem? hd)
  have F' : FunD Γ.K d.name d.qual d.params d.body d.scope [] [] (d.at_ Γ.K) fd := by
    have e : d.dvs Γ.K = [] := by
      unfold DefA.dvs
      rw [hdf]
      rfl
    rw [← e]
    exact F
  obtain ⟨h1, h2, h3⟩ := oinB_ok ho
  have z : FnOk P w Γ.K mg base (L2.CX P w) (k + 1) (d.at_ Γ.K) fd ps (spX (ga Γ.K x) f) := F.ok sc (fun vs H Q E h => by
    obtain ⟨a, v, rfl, _⟩ := h
    rw [hn]
    rfl) fun cdv A outer s H vs Q Ex hr hsp => ⟨_, hb cdv A outer s H Ex, xinit h1 (eqO_ok hno) hN hsp⟩
  rw [ha] at z
  exact ⟨_, fd, ps, by rw [hc]; exact h1, by rw [hc]; exact h2, h3, by rw [hc]; exact z, F'.bindsN hbd, by rw [hc]; exact B.glo hg⟩
theorem exf0_of {d : DefA} {N ps : List Str} {c : Nat} {x t : Str} (B : Bs fn cks Γ.K mg) (i : Nat) (sc : FnScope N ps d.scope) (hg : (Fa.glo x).ok Γ.K = true) (ho : oinB Γ.K (ga Γ.K x) = true)
    (hb : ∀ (cdv : Value) (A : Around) (outer : List Env) (s : Shared) (H : Hp) (Ex : XK), PSs (cxOf (L2.CX P w) P w Γ.K mg base N d.qual d.scope (d.at_ Γ.K) cdv A outer s H Ex) d.body (tXInit0 Γ.K t))
    (hbd : ∀ (kV doc pm : Value) (an : Option Addr) (cdv ct : Value) (us : List Value), us.length = ps.length → bindArgs (PySem.W.fnOf d.name d.qual d.params d.body d.scope .none kV doc pm an cdv ct) ⟨us, []⟩ = pure (ps.zip us))
    (hn : ps.length = 1 := by rfl) (hd : fn[i]? = some d := by rfl) (hdf : d.dfl = [] := by rfl) (ha : d.at_ Γ.K = ma Γ.K (ga Γ.K x) "__init__" := by rfl) (hc : Γ.cl c = ga Γ.K x := by rfl) : ExF0 Γ P w mg base (k + 1) x c := by
  obtain ⟨fd, F⟩ := B.def_ d (List.mem_of_getElem? hd)
  have F' : FunD Γ.K d.name d.qual d.params d.body d.scope [] [] (d.at_ Γ.K) fd := by
    have e : d.dvs Γ.K = [] := by
      unfold DefA.dvs
      rw [hdf]
      rfl
    rw [← e]
    exact F
  obtain ⟨h1, h2, h3⟩ := oinB_ok ho
  have z : FnOk P w Γ.K mg base (L2.CX P w) (k + 1) (d.at_ Γ.K) fd ps (spX0 (ga Γ.K x)) := F.ok sc (fun vs H Q E h => by
    obtain ⟨a, rfl, _⟩ := h
    rw [hn]
    rfl) fun cdv A outer s H vs Q Ex hr hsp => ⟨_, hb cdv A outer s H Ex, xinit0 h1 hsp⟩
  rw [ha] at z
  exact ⟨_, fd, ps, by rw [hc]; exact h1, by rw [hc]; exact h2, h3, by rw [hc]; exact z, F'.bindsN hbd, by rw [hc]; exact B.glo hg⟩
end
end DL
set_option Elab.async false
set_option linter.all false
set_option maxRecDepth 100000
set_option maxHeartbeats 2000000
set_option autoImplicit false
/-! The data layer, 15: words for printed terms. -/
namespace DL
open PySem PySem.Spec PyProof.Rows L2 He
section
variable {Γ : Pg} {ξ : Xx} {X : Cx} {E : WX}
theorem ds_lcs {i : Nat} {y : Str} {py : Pos} {elt tg iter : Expr} {ifs : List Expr} {scope : Scope} {own : List (Str × Nat)} {pos spos : Pos} {q : Bool} {fi : IF} {t : TF} {ix : List Nat} {fc fe : EF} (hc : X.calm = true) (hN : X.N.Nodup) (ok : BlkOk X.N X.env.scope scope own) (hi : PI X tg iter (dIQ Γ ξ fi E))
    (hg : ∀ (s : Shared) (H : Hp) (C : Addr) (cl : List (Str × Addr)) (fp : List Addr), PG (X.blk s H scope (PySem.compEnvC scope cl C X.env) fp) tg (dG Γ ξ t ix)) (ht : ∀ (s : Shared) (H : Hp) (C : Addr) (cl : List (Str × Addr)) (fp : List Addr), PTs (X.blk s H scope (PySem.compEnvC scope cl C X.env) fp) ifs (dT Γ ξ fc E0))
    (he : ∀ (s : Shared) (H : Hp) (C : Addr) (cl : List (Str × Addr)) (fp : List Addr), PE (X.blk s H scope (PySem.compEnvC scope cl C X.env) fp) elt (dE Γ ξ fe E0))
    (hy : X.N[i]? = some y := by rfl) (hyl : X.env.scope.names.lookup y = some .local := by rfl) (hsw : swapsWith (.ListComp elt [⟨tg, iter, ifs, 0⟩] scope pos) (some (.Name y py)) spos.line X.env = pure true := by rfl)
    (hix : ∀ j ∈ ix, j ∈ own.map (·.2) := by decide) (hs : ∀ x, foldedSetIterable iter X.env x = pure x := by intro _; rfl) :
    PS X (.Assign [.Name y py] (.ListComp elt [⟨tg, iter, ifs, 0⟩] scope pos) spos) (dS Γ ξ (sAsg (tgN i) (eLc q (own.map (·.2)) fi t fc fe)) E) := ds_setLc hc hN hi ok hg ht he (ps_setLc hc hN hy hyl hsw hi ok hg ht he hs) hix
theorem Reps.rev {W : Wd} : ∀ {ds : List D} {vs : List V}, Reps Γ W ds vs → Reps Γ W ds.reverse vs.reverse
  | [], vs, h => by simp only [Reps] at h; subst h; exact Reps.nil
  | d :: ds, vs, h => by
    simp only [Reps] at h
    obtain ⟨v, vs', rfl, h1, h2⟩ := h
    rw [List.reverse_cons, List.reverse_cons]
    exact (Reps.rev h2).append (Reps.cons h1 Reps.nil)
theorem valsRev : ∀ {vs : List V} {us : List Value}, Vals vs us → Vals vs.reverse us.reverse
  | _, _, .nil => .nil
  | _, _, .cons h r => by
    rw [List.reverse_cons, List.reverse_cons]
    exact (valsRev r).append (.cons h .nil)
end
end DL
set_option Elab.async false
set_option linter.all false
set_option maxRecDepth 100000
set_option maxHeartbeats 2000000
set_option autoImplicit false
/-! The data layer, 16: a law's end. -/
namespace DL
open PySem PySem.Spec PyProof.Rows L2 He
theorem sp_law {K : PySem.W.Frag} {cl : Nat → Addr} {at_ : Nat → Option (List Str)} {den : List D → Store → Res} {H : Hp} {a : Addr} {ns : List Int} {S : Store} (hS : SqL K H a (ns.map V.int)) (h : den [.lst (ns.map D.int)] [] = .ok (.bl true) S) :
    spD ⟨K, cl, at_⟩ 1 den [.ref a] H (fun v _ => v = .bl true) fun _ _ _ => False := by
  have reps : ∀ (W : Wd) (ns : List Int), Reps ⟨K, cl, at_⟩ W (ns.map D.int) (ns.map V.int) := fun W ns => by
    induction ns with
    | nil => exact Reps.nil
    | cons n r ih => exact Reps.cons (by simp only [Rep]) ih
  refine ⟨⟨H, fun _ => none, []⟩, [], [.lst (ns.map D.int)], ⟨fun a o h => h, fun a o h => ?_, fun i a h => ?_, List.nodup_nil, rfl, fun i a ds h => ?_⟩, Reps.cons ?_ Reps.nil, rfl, ?_⟩
  · cases h
  · cases h
  · cases h
  · simp only [Rep]
    exact ⟨a, _, rfl, hS, reps _ ns⟩
  · rw [h]
    intro W' v H' l ok r
    simpa only [Rep] using r
theorem walk_dl {l : PySem.W.OpenLaw} {n k : Nat} {q : Program} {loose : List Str} {XP : (Str → Option Value) → Heap → Prop} {YP : World → Heap → Prop} {d : DefRec} {x : Str}
    (hn : l.most = some n) (hn2 : n ≤ sizeLine) (hdf : d.params.defaults = []) (hr : Room k callerA)
    (F : ∀ (w : World) (mg : Str → Option Value) (fa : Addr) (h : Heap), YP w h → h.Ns mainGlobals mg → mg d.name = some (.ref fa) →
      ∃ (K : PySem.W.Frag) (fd : FuncData) (cl : Nat → Addr) (at_ : Nat → Option (List Str)) (den : List D → Store → Res), K.In h ∧ (∀ (s : Shared) (u : Value), BindsTo s fd ⟨[u], []⟩ [(x, u)]) ∧
        (∀ ns : List Int, ns.length ≤ n → (∀ z ∈ ns, Builtin.Int.intBits z ≤ 1048576) → ∃ S, den [.lst (ns.map D.int)] [] = .ok (.bl true) S) ∧
        ∀ base : Heap, K.In base → base.Ns mainGlobals mg → FnOk l.prog w K mg base (L2.CX l.prog w) k fa fd [x] (spD ⟨K, cl, at_⟩ 1 den)) :
    PySem.W.WalkO q loose XP YP l.row.toRowW d [] (fun f vs => PySem.call f vs) := by
  refine Att.attach_callB hn hdf fun w s₀ s₁ mg mb fa o pm cd doc a vs ns G Y ho hd hcd hmg hobj hints hlen hbits hg => ?_
  obtain ⟨K, fd, cl, at_, den, KX, hb, hsp, hF⟩ := F w mg fa _ Y G.T.g hmg
  obtain ⟨S, e⟩ := hsp ns hlen hbits
  refine law_call KX G.T.g G.T.b G.T.builtins G.T.nolimit hg hobj hints (Nat.le_trans hlen hn2) hr hF hb (fun H hO hS => sp_law hS e) fun H e s' z => ?_
  obtain ⟨_, _, _, _, _, _, _, _, _, _, _, _, z⟩ := z
  exact z.elim
/-- a global def is at the address its name tells -/
theorem cal_fn {Γ : Pg} {P : Program} {w : World} {mg : Str → Option Value} {base : Heap} {k n : Nat} {x : Str} {den : List D → Store → Res} {fa : Addr} (c : Cal Γ P w mg base k x n den) (h : mg x = some (.ref fa)) : ∃ (fd : FuncData) (ps : List Str), FnOk P w Γ.K mg base (L2.CX P w) k fa fd ps (spD Γ n den) := by
  obtain ⟨f, fd, ps, F, h1, _, _⟩ := c.ex
  rw [h] at h1
  cases h1
  exact ⟨fd, ps, F⟩
end DL
set_option Elab.async false
set_option linter.all false
set_option maxRecDepth 100000
set_option maxHeartbeats 2000000
set_option autoImplicit false
/-! The data layer, 17: evaluation. -/
namespace DL
open PySem L2

section
variable {es : List SD} {S S' : Store} {d x y : D} {ds : List D} {k : Nat} {fs : List (Str × D)}
@[simp] theorem Res.bind_ok {f : D → Store → Res} : (Res.ok d S).bind f = f d S := rfl
@[simp] theorem Res.bind_exc {f : D → Store → Res} : (Res.exc k fs S).bind f = .exc k fs S := rfl
@[simp] theorem Res.bindA_ok {f : D → Store → ResA} : (Res.ok d S).bindA f = f d S := rfl
@[simp] theorem Res.bindA_exc {f : D → Store → ResA} : (Res.exc k fs S).bindA f = .exc k fs S := rfl
@[simp] theorem ResA.bind_ok {f : List D → Store → Res} : (ResA.ok ds S).bind f = f ds S := rfl
@[simp] theorem ResA.bind_exc {f : List D → Store → Res} : (ResA.exc k fs S).bind f = .exc k fs S := rfl
@[simp] theorem ResA.bindL_ok {f : List D → Store → ResA} : (ResA.ok ds S).bindL f = f ds S := rfl
@[simp] theorem ResA.bindL_exc {f : List D → Store → ResA} : (ResA.exc k fs S).bindL f = .exc k fs S := rfl
@[simp] theorem Res.nox_ok : (Res.ok d S).nox = .ok d S := rfl
@[simp] theorem Fl.bind_next {f : SF} : (Fl.next es S).bind f = f es S := rfl
@[simp] theorem Fl.bind_ret {f : SF} : (Fl.ret d S).bind f = .ret d S := rfl
@[simp] theorem Fl.bind_brk {f : SF} : (Fl.brk es S).bind f = .brk es S := rfl
@[simp] theorem Fl.bind_ct {f : SF} : (Fl.ct es S).bind f = .ct es S := rfl
@[simp] theorem Fl.bind_exc {f : SF} : (Fl.exc k fs es S).bind f = .exc k fs es S := rfl
@[simp] theorem Res.toS_ok {f : D → Store → Fl} : (Res.ok d S).toS es f = f d S := rfl
@[simp] theorem Res.toS_exc {f : D → Store → Fl} : (Res.exc k fs S).toS es f = .exc k fs es S := rfl
@[simp] theorem eVar_eq {i : Nat} : eVar i es S = match es[i]? with | some (.val d) => .ok d S | _ => .bad := rfl
@[simp] theorem eVarT_acc {i : Nat} : eVarT i es S = match es[i]? with | some (.val d) => .ok d S | some (.acc ds) => .ok (.lst ds) S | _ => .bad := by
  unfold eVarT
  rfl
@[simp] theorem eC_eq : eC d es S = .ok d S := rfl
@[simp] theorem eOp2_eq {g : D → D → Store → Res} {a b : EF} : eOp2 g a b es S = (a es S).bind fun x S1 => (b es S1).bind fun y S2 => (g x y S2).nox := rfl
@[simp] theorem eOp1_eq {g : D → Store → Res} {a : EF} : eOp1 g a es S = (a es S).bind fun x S1 => (g x S1).nox := rfl
@[simp] theorem aNil_eq : aNil es S = .ok [] S := rfl
@[simp] theorem aCons_eq {f : EF} {g : AF} : aCons f g es S = (f es S).bindA fun d S1 => (g es S1).bindL fun ds S2 => .ok (d :: ds) S2 := rfl
@[simp] theorem eCall_eq {n : Nat} {den : List D → Store → Res} {a : AF} : eCall n den a es S = (a es S).bind (chk n den) := rfl
@[simp] theorem chk_eq {n : Nat} {f : List D → Store → Res} : chk n f ds S = if ds.length = n then f ds S else .bad := rfl
@[simp] theorem eTup_eq {a : AF} : eTup a es S = (a es S).bind fun ds S1 => if ds.length ≤ 16777216 then .ok (.tup ds) S1 else .bad := rfl
@[simp] theorem eLst_eq {a : AF} : eLst a es S = (a es S).bind fun ds S1 => if ds.length ≤ 16777216 then .ok (.lst ds) S1 else .bad := rfl
@[simp] theorem eCell_eq {a : AF} : eCell a es S = (a es S).bind fun ds S1 => if ds.length ≤ 16777216 then .ok (.cell S1.length) (S1 ++ [ds]) else .bad := rfl
@[simp] theorem eNot_eq {f : EF} : eNot f es S = (f es S).bind nB := rfl
@[simp] theorem nB_eq {b : Bool} : nB (.bl b) S = .ok (.bl (!b)) S := rfl
@[simp] theorem eAnd_eq {a b : EF} : eAnd a b es S = (a es S).bind fun d S1 => match d with | .bl true => b es S1 | .bl false => .ok (.bl false) S1 | _ => .bad := rfl
@[simp] theorem eOr_eq {a b : EF} : eOr a b es S = (a es S).bind fun d S1 => match d with | .bl false => b es S1 | .bl true => .ok (.bl true) S1 | _ => .bad := rfl
@[simp] theorem eIf_eq {c a b : EF} : eIf c a b es S = (c es S).bind fun d S1 => match d with | .bl true => a es S1 | .bl false => b es S1 | _ => .bad := rfl
@[simp] theorem sSeq_eq {f g : SF} : sSeq f g es S = (f es S).bind g := rfl
@[simp] theorem sPass_eq : sPass es S = .next es S := rfl
@[simp] theorem sBrk_eq : sBrk es S = .brk es S := rfl
@[simp] theorem sExpr_eq {f : EF} : sExpr f es S = (f es S).toS es fun _ S' => .next es S' := rfl
@[simp] theorem sIf_eq {c : EF} {a b : SF} : sIf c a b es S = (c es S).toS es fun d S1 => match d with | .bl true => a es S1 | .bl false => b es S1 | _ => .bad := by
  unfold sIf
  rfl
@[simp] theorem sAsg_eq {t : TF} {f : EF} : sAsg t f es S = (f es S).toS es fun d S1 => match t d es S1 with | some es1 => .next es1 S1 | none => .bad := by
  unfold sAsg
  rfl
@[simp] theorem tgN_eq {i : Nat} : tgN i d es S = some (es.set i (.val d)) := rfl
@[simp] theorem tsNil_eq : tsNil [] es S = some es := rfl
@[simp] theorem tsCons_eq {t : TF} {u : TFs} : tsCons t u (d :: ds) es S = (t d es S).bind fun es1 => u ds es1 S := by
  unfold tsCons
  rfl
@[simp] theorem tgT_tup {n : Nat} {t : TFs} : tgT n t (.tup ds) es S = if ds.length = n then t ds es S else none := by
  unfold tgT
  rfl
@[simp] theorem tgT_lst {n : Nat} {t : TFs} : tgT n t (.lst ds) es S = if ds.length = n then t ds es S else none := by
  unfold tgT
  rfl
@[simp] theorem sPar_eq {i j : Nat} {a : AF} : sPar i j a es S = match a es S with | .ok [d1, d2] S1 => .next ((es.set i (.val d1)).set j (.val d2)) S1 | .exc k fs S1 => .exc k fs es S1 | _ => .bad := rfl
@[simp] theorem frz1_val : frz1 (.val d) = .val d := rfl
@[simp] theorem frz1_no : frz1 .no = .no := rfl
@[simp] theorem frz1_acc : frz1 (.acc ds) = .val (.lst ds) := rfl
@[simp] theorem frz1_exn : frz1 (.exn k fs) = .exn k fs := rfl
@[simp] theorem frz1_slf : frz1 .slf = .slf := rfl
@[simp] theorem sRet_eq {f : EF} : sRet f es S = match f (es.map frz1) S with | .ok d S1 => .ret d S1 | .exc k fs S1 => .exc k fs (es.map frz1) S1 | .bad => .bad := rfl
@[simp] theorem sRetN_eq : sRetN es S = .ret .non S := rfl
@[simp] theorem gd_nil : Gd.ok [] S ↔ True := ⟨fun _ => trivial, fun _ => Gd.ok_nil S⟩
theorem gd_one {c : Nat} (h : S[c]? = some ds) : Gd.ok [(c, ds)] S := fun p hp => by
  rw [List.mem_singleton.mp hp]
  exact h
@[simp] theorem forL_nil {t : TF} {b : SF} : forL [] t b [] es S = .next es S := by simp [forL]
theorem forL_cons {t : TF} {b : SF} : forL [] t b (d :: ds) es S = match t d es S with
    | none => .bad
    | some es1 => match b es1 S with
      | .next es2 S2 => forL [] t b ds es2 S2
      | .ct es2 S2 => forL [] t b ds es2 S2
      | .brk es2 S2 => .next es2 S2
      | r => r := by
  rw [forL, if_pos (Gd.ok_nil S)]
  all_goals
    cases t d es S with
    | none => rfl
    | some es1 =>
      simp only
      cases b es1 S <;> rfl
@[simp] theorem lcL_nil {t : TF} {c e : EF} {acc : List D} : lcL false [] t c e es [] S acc = .ok (.lst acc) S := by simp [lcL]
@[simp] theorem lcL_nilC {t : TF} {c e : EF} {acc : List D} : lcL true [] t c e es [] S acc = .ok (.cell S.length) (S ++ [acc]) := by simp [lcL]
theorem lcL_cons {q : Bool} {t : TF} {c e : EF} {acc : List D} : lcL q [] t c e es (d :: ds) S acc = match t d es S with
    | none => .bad
    | some es1 => (c es1 S).nox.bind fun b S1 => match b with
      | .bl true => (e es1 S1).nox.bind fun y S2 => lcL q [] t c e es ds S2 (acc ++ [y])
      | .bl false => lcL q [] t c e es ds S1 acc
      | _ => .bad := by
  rw [lcL, if_pos (Gd.ok_nil S)]
  all_goals
    cases t d es S with
    | none => rfl
    | some es1 =>
      simp only
      congr
@[simp] theorem eYes_eq : eYes es S = .ok (.bl true) S := rfl
@[simp] theorem eLc_eq {q : Bool} {vs : List Nat} {it : IF} {t : TF} {c e : EF} : eLc q vs it t c e es S = match it es S with
  | .ok ds g S1 => if ds.length < 1000000 ∧ noAcc es vs = true then lcL q g t c e (wipeD es vs) ds S1 [] else .bad
  | .exc k fs S1 => .exc k fs S1
  | .bad => .bad := rfl
@[simp] theorem Res.bindI_ok {f : D → Store → ResI} : (Res.ok d S).bindI f = f d S := rfl
@[simp] theorem ResA.bindI_ok {f : List D → Store → ResI} : (ResA.ok ds S).bindI f = f ds S := rfl
@[simp] theorem Res.bindI_exc {f : D → Store → ResI} : (Res.exc k fs S).bindI f = .exc k fs S := rfl
@[simp] theorem ResA.bindI_exc {f : List D → Store → ResI} : (ResA.exc k fs S).bindI f = .exc k fs S := rfl
@[simp] theorem seqV_lst : seqV S (.lst ds) = some (false, ds, []) := rfl
@[simp] theorem seqV_tup : seqV S (.tup ds) = some (true, ds, []) := rfl
@[simp] theorem sFor_eq {it : IF} {t : TF} {b : SF} : sFor it t b es S = match it es S with | .ok ds g S1 => forL g t b ds es S1 | .exc k fs S1 => .exc k fs es S1 | .bad => .bad := rfl
@[simp] theorem itSeq_eq {f : EF} : itSeq f es S = (f es S).bindI fun d S1 => match d with
  | .lst ds => .ok ds [] S1
  | .tup ds => .ok ds [] S1
  | .cell c => match S1[c]? with
    | some ds => .ok ds [(c, ds)] S1
    | none => .bad
  | .str z => .ok (z.cps.toList.map fun c => .str ⟨#[c]⟩) [] S1
  | _ => .bad := by
  unfold itSeq
  rfl
@[simp] theorem itZip_eq {a : AF} : itZip a es S = (a es S).bindI fun ds S1 => match ds with
  | [x, y] => match seqV S1 x, seqV S1 y with
    | some (_, xs, g), some (_, ys, g') => .ok ((xs.zip ys).map fun p => .tup [p.1, p.2]) (g ++ g') S1
    | _, _ => .bad
  | _ => .bad := by
  unfold itZip
  rfl
@[simp] theorem itRange1_eq {a : AF} : itRange1 a es S = (a es S).bindI fun ds S1 => match ds with
  | [.int n] => if -(2 ^ 62) ≤ n ∧ n < 2 ^ 62 then .ok ((List.range n.toNat).map fun (i : Nat) => D.int i) [] S1 else .bad
  | _ => .bad := rfl
@[simp] theorem itRange2_eq {a : AF} : itRange2 a es S = (a es S).bindI fun ds S1 => match ds with
  | [.int m, .int n] => if (-(2 ^ 62) ≤ m ∧ m < 2 ^ 62) ∧ -(2 ^ 62) ≤ n ∧ n < 2 ^ 62 then .ok ((List.range (n - m).toNat).map fun (i : Nat) => D.int (m + i)) [] S1 else .bad
  | _ => .bad := rfl
@[simp] theorem iAdd_eq {i j : Int} : iAdd (.int i) (.int j) S = .ok (.int (i + j)) S := rfl
@[simp] theorem iSub_eq {i j : Int} : iSub (.int i) (.int j) S = .ok (.int (i - j)) S := rfl
@[simp] theorem iLt_eq {i j : Int} : iLt (.int i) (.int j) S = .ok (.bl (decide (i < j))) S := rfl
@[simp] theorem iLe_eq {i j : Int} : iLe (.int i) (.int j) S = .ok (.bl (decide (i ≤ j))) S := rfl
@[simp] theorem iGt_eq {i j : Int} : iGt (.int i) (.int j) S = .ok (.bl (decide (j < i))) S := rfl
@[simp] theorem iGe_eq {i j : Int} : iGe (.int i) (.int j) S = .ok (.bl (decide (j ≤ i))) S := rfl
@[simp] theorem iNeg_eq {i : Int} : iNeg (.int i) S = .ok (.int (-i)) S := rfl
theorem iMul_ok {i j : Int} (h : bits i + bits j < 1000000) : iMul (.int i) (.int j) S = .ok (.int (i * j)) S := by
  show (if decide (bits i + bits j < 1000000) = true then _ else _) = _
  rw [if_pos (decide_eq_true h)]
theorem iDiv_ok {i j : Int} (h : 0 < j) (h2 : bits j < 9000) : iDiv (.int i) (.int j) S = .ok (.int (i / j)) S := by
  show (if (decide (0 < j) && decide (bits j < 9000)) = true then _ else _) = _
  rw [if_pos (by simp [h, h2])]
theorem iMod_ok {i j : Int} (h : 0 < j) : iMod (.int i) (.int j) S = .ok (.int (i % j)) S := by
  show (if decide (0 < j) = true then _ else _) = _
  rw [if_pos (by simp [h])]
theorem iDivN_ok {i j : Int} (h : j ≠ 0) (h2 : bits j < 9000) : iDivN (.int i) (.int j) S = .ok (.int (i.fdiv j)) S := by
  show (if (decide (j ≠ 0) && decide (bits j < 9000)) = true then _ else _) = _
  rw [if_pos (by simp [h, h2])]
theorem iModN_ok {i j : Int} (h : j ≠ 0) : iModN (.int i) (.int j) S = .ok (.int (i.fmod j)) S := by
  show (if decide (j ≠ 0) = true then _ else _) = _
  rw [if_pos (by simp [h])]
theorem iPow_ok {i j : Int} (h : 0 ≤ j) (h2 : j ≤ 1000000) (h3 : i.natAbs < 2 ^ 64) : iPow (.int i) (.int j) S = .ok (.int (i ^ j.toNat)) S := by
  show (if (decide (0 ≤ j) && decide (j ≤ 1000000) && decide (i.natAbs < 2 ^ 64)) = true then _ else _) = _
  rw [if_pos (by simp [h, h2, h3])]
@[simp] theorem gAbs_eq {i : Int} : gAbs (.int i) S = .ok (.int (if i < 0 then -i else i)) S := rfl
@[simp] theorem gMax_eq {i j : Int} : gMax (.int i) (.int j) S = .ok (.int (if j > i then j else i)) S := rfl
@[simp] theorem gMin_eq {i j : Int} : gMin (.int i) (.int j) S = .ok (.int (if j < i then j else i)) S := rfl
@[simp] theorem gLen_lst : gLen (.lst ds) S = .ok (.int ds.length) S := rfl
@[simp] theorem gLen_tup : gLen (.tup ds) S = .ok (.int ds.length) S := rfl
@[simp] theorem gTupOf_lst : gTupOf (.lst ds) S = .ok (.tup ds) S := rfl
@[simp] theorem gListOf_lst : gListOf (.lst ds) S = .ok (.lst ds) S := rfl
@[simp] theorem gSlot_0 {j : Nat} : gSlot j 0 (.obj j (d :: ds)) S = .ok d S := by simp [gSlot]
@[simp] theorem gSlot_1 {j : Nat} : gSlot j 1 (.obj j (x :: d :: ds)) S = .ok d S := by simp [gSlot]
@[simp] theorem gIx_tup0 : gIx (.tup (d :: ds)) (.int 0) S = .ok d S := by
  have e : L2.atI (d :: ds) 0 = some d := by
    unfold L2.atI ixN
    simp
  show (match L2.atI (d :: ds) 0 with | some d => Res.ok d S | none => .bad) = _
  rw [e]
@[simp] theorem gIx_tup1 : gIx (.tup (x :: d :: ds)) (.int 1) S = .ok d S := by
  have e : L2.atI (x :: d :: ds) 1 = some d := by
    unfold L2.atI ixN
    simp
    rw [if_pos (by omega)]
    rfl
  show (match L2.atI (x :: d :: ds) 1 with | some d => Res.ok d S | none => .bad) = _
  rw [e]
theorem atI_nat {α : Type} {l : List α} {i : Nat} {a : α} (h : l[i]? = some a) : L2.atI l (i : Int) = some a := by
  have hl : i < l.length := (List.getElem?_eq_some_iff.mp h).1
  unfold L2.atI ixN
  rw [if_pos (by omega), if_pos (by omega)]
  simpa using h
theorem gIx_lst {i : Nat} (h : ds[i]? = some d) : gIx (.lst ds) (.int i) S = .ok d S := by
  show (match L2.atI ds (i : Int) with | some d => Res.ok d S | none => .bad) = _
  rw [atI_nat h]
theorem gIx_cell {c i : Nat} (hc : S[c]? = some ds) (h : ds[i]? = some d) : gIx (.cell c) (.int i) S = .ok d S := by
  have e : deref S (.cell c) = .lst ds := by
    unfold deref
    simp only [hc]
  unfold gIx
  rw [e]
  show (match L2.atI ds (i : Int) with | some d => Res.ok d S | none => .bad) = _
  rw [atI_nat h]
@[simp] theorem gProp_eq {j : Nat} {den : List D → Store → Res} : gProp j den (.obj j ds) S = den [.obj j ds] S := by
  unfold gProp isObj chk
  simp
@[simp] theorem gOwn1_eq {j : Nat} {den : List D → Store → Res} : gOwn1 j den (.obj j ds) S = den [.obj j ds] S := by
  unfold gOwn1 isObj chk
  simp
@[simp] theorem gOwn_obj {j : Nat} {den : List D → Store → Res} {fs : List D} : gOwn j den (.obj j ds) (.obj j fs) S = den [.obj j ds, .obj j fs] S := by
  unfold gOwn isObj chk
  simp
@[simp] theorem gOwn_int {j : Nat} {den : List D → Store → Res} {i : Int} : gOwn j den (.obj j ds) (.int i) S = den [.obj j ds, .int i] S := by
  unfold gOwn isObj chk
  simp
@[simp] theorem eMeth_eq {j n : Nat} {den : List D → Store → Res} {f : EF} {a : AF} : eMeth j n den f a es S = (f es S).bind fun d S1 => if isObj j d then (a es S1).bind fun ds S2 => chk n den (d :: ds) S2 else .bad := rfl
@[simp] theorem eMethK_eq {j n m : Nat} {gD : List D → List D → List D} {den : List D → Store → Res} {f : EF} {a : AF} : eMethK j n m gD den f a es S = (f es S).bind fun d S1 => if isObj j d then (a es S1).bind fun ds S2 => if ds.length = m then chk n den (gD [d] ds) S2 else .bad else .bad := rfl
@[simp] theorem isObj_eq {j : Nat} : isObj j (.obj j ds) = true := by
  unfold isObj
  simp
@[simp] theorem eNew_eq {c n : Nat} {dfl : List D} {F : List D → Store → ResA} {a : AF} : eNew c n dfl F a es S = (a es S).bind fun ds S1 => newD c n F (ds ++ dfl) S1 := rfl
@[simp] theorem eNewK_eq {c n m : Nat} {gD : List D → List D} {F : List D → Store → ResA} {a : AF} : eNewK c n m gD F a es S = (a es S).bind fun ds S1 => if ds.length = m then newD c n F (gD ds) S1 else .bad := rfl
@[simp] theorem gEq_int {i j : Int} : gEq (.int i) (.int j) S = .ok (.bl (decide (i = j))) S := by
  show Res.ok (.bl (i == j)) S = _
  congr
@[simp] theorem gNe_int {i j : Int} : gNe (.int i) (.int j) S = .ok (.bl (!decide (i = j))) S := by
  show Res.ok (.bl (!(i == j))) S = _
  congr
@[simp] theorem gEq_fr {a b c e : Int} : gEq (.tup [.int a, .int b]) (.tup [.int c, .int e]) S = .ok (.bl (decide (a = c) && decide (b = e))) S := by
  show Res.ok (.bl (a == c && (b == e && true))) S = _
  rw [Bool.and_true]
  congr
@[simp] theorem gNe_bls3 {a b c a' b' c' : Bool} : gNe (.lst [.bl a, .bl b, .bl c]) (.lst [.bl a', .bl b', .bl c']) S = .ok (.bl (!(a == a' && (b == b' && c == c')))) S := by
  show Res.ok (.bl (!(a == a' && (b == b' && (c == c' && true))))) S = _
  rw [Bool.and_true]
@[simp] theorem gOr_left {g1 g2 : D → D → Store → Res} (h : g1 x y S = .ok d S') : gOr g1 g2 x y S = .ok d S' := by
  unfold gOr
  rw [h]
theorem fnD_eq {N : Nat} {body : SF} : fnD N body ds S = match body (startD N ds) S with | .next _ S' => .ok .non S' | .ret d S' => .ok d S' | .exc k fs _ S' => .exc k fs S' | _ => .bad := rfl
theorem initD_eq {sw : Bool} {N : Nat} {body : SF} {f1 f2 : EF} : initD sw N body f1 f2 ds S = match body (startI N ds) S with
  | .next es S1 => if isSlf es = true then (f1 es S1).bindA fun d1 S2 => (f2 es S2).bindA fun d2 S3 => .ok (ord sw d1 d2) S3 else .bad
  | .exc k fs _ S1 => .exc k fs S1
  | _ => .bad := rfl
@[simp] theorem isi_int_int {cs : List Nat} {i : Int} : gIsi cs (.int i) (.ty "int") S = .ok (.bl true) S := by
  have e : tyIs "int" "int" = some true := by decide +kernel
  show (match tyIs "int" "int" with | some b => Res.ok (.bl b) S | none => .bad) = _
  rw [e]
@[simp] theorem isi_int_bool {cs : List Nat} {i : Int} : gIsi cs (.int i) (.ty "bool") S = .ok (.bl false) S := by
  have e : tyIs "int" "bool" = some false := by decide +kernel
  show (match tyIs "int" "bool" with | some b => Res.ok (.bl b) S | none => .bad) = _
  rw [e]
@[simp] theorem isi_int_cls {cs : List Nat} {i : Int} {j : Nat} (h : j ∈ cs) : gIsi cs (.int i) (.cls j) S = .ok (.bl false) S := by
  unfold gIsi isi1 kind
  simp only [if_pos h]
@[simp] theorem isi_obj_ty {cs : List Nat} {j : Nat} {n : String} (h : j ∈ cs) (hn : n ∈ kinds) : gIsi cs (.obj j ds) (.ty n) S = .ok (.bl false) S := by
  unfold gIsi isi1 kind
  simp only [if_pos (And.intro h hn)]
@[simp] theorem isi_obj_cls {cs : List Nat} {i j : Nat} (h : i ∈ cs) (hj : j ∈ cs) : gIsi cs (.obj i ds) (.cls j) S = .ok (.bl (i == j)) S := by
  unfold gIsi isi1 kind
  simp only [if_pos (And.intro h hj)]
/-! ### sizes -/
theorem bits_lt {i : Int} {n : Nat} (h : i.natAbs < 2 ^ n) (hn : 0 < n) : bits i < n := PySem.Flt.log2_lt_of hn h
theorem bits_small {i : Int} (h : i.natAbs < 2 ^ 8000) : bits i < 9000 := Nat.lt_trans (bits_lt h (by decide)) (by decide)
end
end DL
set_option Elab.async false
set_option linter.all false
set_option maxRecDepth 100000
set_option maxHeartbeats 2000000
set_option autoImplicit false
/-! The data layer, 18: __init__ of a class whose instances have a dict; properties of such. -/
namespace DL
open PySem PySem.Spec PyProof.Rows L2 He
section
variable {Γ : Pg} {ξ : Xx} {X : Cx} {E : WX}
/-- the fields at the end, in order; the frame's own lists are data by then -/
def evF (es : List SD) : List EF → Store → ResA
  | [], S => .ok [] S
  | f :: fs, S => (f es S).bindA fun d S1 => (evF es fs S1).bindL fun ds S2 => .ok (d :: ds) S2
def initC (N : Nat) (body : SF) (fs : List EF) : List D → Store → ResA := fun ds S => match body (startI N ds) S with
  | .next es S1 => if isSlf es = true then evF (es.map frz1) fs S1 else .bad
  | .exc k fs _ S1 => .exc k fs S1
  | _ => .bad
/-- its promise: n values beside self -/
def spC (Γ : Pg) (k n : Nat) (ns : List Str) (F : List D → Store → ResA) : Sp := fun vs H Q E => ∃ (x dx : Addr) (ws : List V) (W : Wd) (S : Store) (ds : List D), vs = .ref x :: ws ∧ Ok Γ W S H ∧ Reps Γ W ds ws ∧ ds.length = n ∧
  W.F x = none ∧ W.P x = none ∧ (∀ (i : Nat) (a : Addr), W.m[i]? = some a → a ≠ x) ∧ H x = some (.ins (Γ.cl k) dx []) ∧
  match F ds S with
  | .ok fs S1 => ∀ W' H' us, Le W W' → Ok Γ W' S1 H' → W'.F x = none → (∀ (i : Nat) (a : Addr), W'.m[i]? = some a → a ≠ x) → Reps Γ W' fs us → ns.length = us.length → H' x = some (.ins (Γ.cl k) dx (ns.zip us)) → Q .non H'
  | .exc c fs S1 => ∀ W' d H', Le W W' → Ok Γ W' S1 H' → RepX (Γ := Γ) W' fs d → E (.ref (Γ.cl c)) d H'
  | .bad => False
theorem spC_len {k n : Nat} {ns : List Str} {F : List D → Store → ResA} {ps : List Str} (hn : ps.length = n + 1) : ∀ vs H Q E, spC Γ k n ns F vs H Q E → vs.length = ps.length := fun vs H Q E ⟨x, dx, ws, W, S, ds, e, ok, r, hl, _⟩ => by rw [e, List.length_cons, r.length, hl, hn]
/-- the stores, one behind another -/
def tFs (K : PySem.W.Frag) (Γ : Pg) (ξ : Xx) (E : WX) : List Str → List EF → TS
  | n :: ns, f :: fs => tSeq (sFld K (tVar 0) (dE Γ ξ f E) n) (tFs K Γ ξ E ns fs)
  | _, _ => tNext
/-- a property of an instance with a dict -/
theorem de_propC {e : Expr} {f : Str} {fe : EF} {k j n : Nat} {g : Addr} {ns : List Str} {pos : Pos} {P : Program} {w : World} {mg : Str → Option Value} {base : Heap} {den : List D → Store → Res} (hh : Here Γ P w mg base n X E) (c : ClF Γ k ns) (t : PropF Γ k f g) (G : CalR Γ P w mg base j g 1 den)
    (he : PE X e (dE Γ ξ fe E)) (hj : j + 1 ≤ n := by decide) (hb : attributeBase e f X.env (eval e X.env) = eval e X.env := by rfl) : PE X (.Attribute e f pos) (dE Γ ξ (eOp1 (gProp k den) fe) E) := by
  obtain ⟨h1, h2, h3, h4, h5, h6, h7⟩ := hh
  subst h1 h2 h4 h5
  obtain ⟨p, rest, t1, t2, t3, t4⟩ := t.ex
  refine ⟨fun pins s σ H Q I ⟨W, es, S, P0, ok, fr, h⟩ => ?_⟩
  refine attr_of hb (thn (he.run pins s σ H (fun x H1 => ∃ W1 S1 d, Ok Γ W1 S1 H1 ∧ Rep Γ W1 d x ∧ Cont Γ (gProp k den d S1) W1 Q (fun _ _ _ => False)) I
    ⟨W, es, S, P0, ok, fr, h.bind fun d S1 W1 v H1 le ok1 rv h1 => ⟨W1, S1, d, ok1, rv, Cont.nox h1⟩⟩) fun u s1 ⟨x, H1, I1, rx, W1, S1, d, ok1, rd, h1⟩ => ?_)
  unfold gProp at h1
  split at h1
  case isFalse => exact h1.elim
  rename_i hd
  obtain ⟨ds, rfl⟩ := isObj_of hd
  obtain ⟨a, dx, vs, rfl, q2, hl, q3⟩ := asC c ok1 rd
  obtain rfl : u = Value.ref a := rx
  obtain ⟨mA, O, _, _, _, _⟩ := ins_get I1.hok q2
  obtain ⟨od, J, _⟩ := O.look
  have I2 := I1.tok (s1.toks + 1)
  have cc : Cls X.K (Γ.cl k) := by rw [h3]; exact c.cl
  have hc : (PySem.W.clsIn X.K (Γ.cl k)).isSome = true := by
    obtain ⟨cd, hc, _⟩ := PySem.W.any_some cc.hd
    rw [hc]
    rfl
  refine PySem.W.get_bind I1.kIn J (PySem.W.plainGet_of (cc.get f)).1 (PySem.W.findObj_data hc (by rw [h3]; exact t1) (by rw [h3]; exact t2) (by rw [h3]; exact t3)) (PySem.W.plainGet_of (cc.get f)).2 (wpAny_call (PySem.W.prop_get (s := { s1 with toks := s1.toks + 1 }) I1.kIn (by rw [h3]; exact t4) ?_))
  have G' : FnR X.prog X.w X.K X.mg X.base (L2.CX X.prog X.w) j g (spD Γ 1 den) := by rw [h3]; exact G.run
  refine codeAny_mono (G' X.A.in1 X.stack { s1 with toks := s1.toks + 1 } H1 [.ref a] [.ref a] Q (fun _ _ _ => False) (h6.mono hj).in1 I2.env0.in1 (.cons rfl .nil) (spD_of ok1 (Reps.cons rd Reps.nil) h1)) fun r s' hq => ?_
  cases r with
  | error er =>
    obtain ⟨_, _, _, _, _, _, _, _, _, _, _, _, z⟩ := hq
    exact z.elim
  | ok fl =>
    cases fl with
    | ret u =>
      obtain ⟨v, H', I3, rv, q3⟩ := I2.after hq
      show wpAny _ _ (handedOut u) _ _ _
      rw [PySem.W.handedOut_of (handed_of rv)]
      exact wpAny_pure ⟨v, H', I3, rv, q3⟩
    | next => exact False.elim hq
    | brk => exact False.elim hq
    | cont => exact False.elim hq
theorem putF_zip {f : Str} {y : V} : ∀ {done : List Str} {vs : List V}, f ∉ done → done.length = vs.length → putF f y (done.zip vs) = (done ++ [f]).zip (vs ++ [y])
  | [], [], _, _ => rfl
  | [], v :: vs, _, h => by simp at h
  | n :: done, [], _, h => by simp at h
  | n :: done, v :: vs, hn, h => by
    have h1 : ¬ n = f := fun e => hn (e ▸ List.mem_cons_self ..)
    rw [List.zip_cons_cons]
    show (if n = f then _ else _) = _
    rw [if_neg h1, putF_zip (fun q => hn (List.mem_cons_of_mem _ q)) (by simpa using h)]
    rfl
theorem tailC {k : Nat} {ns : List Str} {x dx : Addr} {PC : Hp} {Qe : Hp → Prop} {Dn : Ends} (c : ClF Γ k ns) (hz : ns.length < 900) (hD : ∀ σ H', Qe H' → Dn.nx σ H') (hPx : PC x = none) (ha : ξ.a = x) : ∀ (n2 : List Str) (f2 : List EF) (done : List Str) (vd : List V) (dd : List D) (W : Wd) (es : List SD) (S : Store) (P0 : Hp) (σ : L2.St) (H : Hp),
    done ++ n2 = ns → f2.length = n2.length → done.length = vd.length → Ok Γ W S H → Frame Γ ξ W es σ P0 → P0 x = some (.ins (Γ.cl k) dx (done.zip vd)) → isSlf es = true → Reps Γ W dd vd → (∀ a u, PC a = some u → P0 a = some u) →
    (match evF es f2 S with
      | .ok fs S1 => ∀ W' H' us, (∀ a o, W.F a = some o → W'.F a = some o) → (∀ (i : Nat) (a : Addr), W.m[i]? = some a → W'.m[i]? = some a) → W'.P = PC → Ok Γ W' S1 H' → Reps Γ W' (dd ++ fs) us → ns.length = us.length → H' x = some (.ins (Γ.cl k) dx (ns.zip us)) → W'.F x = none → (∀ (i : Nat) (a : Addr), W'.m[i]? = some a → a ≠ x) → Qe H'
      | .exc q fs S1 => ∀ W' d H', (∀ a o, W.F a = some o → W'.F a = some o) → (∀ (i : Nat) (a : Addr), W.m[i]? = some a → W'.m[i]? = some a) → W'.P = PC → Ok Γ W' S1 H' → RepX (Γ := Γ) W' fs d → ∀ σ, E (.ref (Γ.cl q)) d σ H'
      | .bad => False) →
    tFs Γ.K Γ ξ E n2 f2 Dn σ H
  | [], [], done, vd, dd, W, es, S, P0, σ, H, hd, _, hv, ok, fr, h0, hs, rs, hP, h => by
    rw [List.append_nil] at hd
    subst hd
    obtain ⟨own, _, o⟩ := id fr
    have hWx := o.of0 h0
    refine hD σ H (h { W with P := PC } H vd (fun _ _ q => q) (fun _ _ q => q) rfl (ok.less fun a u q => o.of0 (hP a u q)) (by rw [List.append_nil]; exact repsP W rs) hv (ok.p _ _ hWx).1 (ok.p _ _ hWx).2 fun i a q z => ?_)
    have := (ok.m i a q).2
    rw [z, hWx] at this
    cases this
  | [], f :: f2, _, _, _, _, _, _, _, _, _, _, h, _, _, _, _, _, _, _, _ => by simp at h
  | n :: n2, [], _, _, _, _, _, _, _, _, _, _, h, _, _, _, _, _, _, _, _ => by simp at h
  | n :: n2, f :: f2, done, vd, dd, W, es, S, P0, σ, H, hd, hl, hv, ok, fr, h0, hs, rs, hP, h => by
    have hn : n ∈ ns := by rw [← hd]; exact List.mem_append_right _ (List.mem_cons_self ..)
    have hnd : n ∉ done := fun q => by
      have nd := c.nd
      rw [← hd] at nd
      exact (List.nodup_append.mp nd).2.2 n q n (List.mem_cons_self ..) rfl
    have hσ : σ[0]? = some (some (V.ref x)) := by
      obtain ⟨own, q, _⟩ := id fr
      rw [← ha]
      exact q.slf (isSlf_at hs)
    show sFld Γ.K (tVar 0) (dE Γ ξ f E) n _ σ H
    refine ⟨W, es, S, P0, ok, fr, ?_⟩
    unfold evF at h
    cases ef : f es S with
    | bad => rw [ef] at h; exact h.elim
    | exc q fs S1 =>
      rw [ef] at h
      intro W1 d H1 l ok1 rx
      obtain ⟨own, _, o⟩ := (fr.le l)
      exact h { W1 with P := PC } d H1 l.f l.m rfl (ok1.less fun a u z => o.of0 (hP a u z)) (repX_le rx ⟨fun _ _ h => h, fun _ _ h => h⟩) _
    | ok d1 S1 =>
      rw [ef] at h
      intro W1 y H1 l ok1 r1
      have fr1 := fr.le l
      obtain ⟨own, _, o⟩ := id fr1
      have hWx := o.of0 h0
      have hlen : (done.zip vd).length < 1000 := by
        rw [List.length_zip, ← hv, Nat.min_self]
        have : (done ++ n :: n2).length < 900 := by rw [hd]; exact hz
        rw [List.length_append] at this
        omega
      refine ⟨.ref x, hσ, x, Γ.cl k, dx, _, rfl, (ok1.p _ _ hWx).1, c.cl, c.na n hn, hlen, ?_⟩
      rw [putF_zip hnd hv]
      have Mx : ∀ (i : Nat) (b : Addr), W1.m[i]? = some b → b ≠ x := fun i b q z => by
        have := (ok1.m i b q).2
        rw [z, hWx] at this
        cases this
      have ok2 := ok1.swap (x := x) (.ins (Γ.cl k) dx ((done ++ [n]).zip (vd ++ [y]))) (ok1.p _ _ hWx).2 Mx
      have fr2 := fr1.swap (x := x) h0 (.ins (Γ.cl k) dx ((done ++ [n]).zip (vd ++ [y])))
      have rs2 := (rs.mono l.s).append (Reps.cons r1 Reps.nil)
      refine tailC c hz hD hPx ha n2 f2 (done ++ [n]) (vd ++ [y]) (dd ++ [d1]) _ es S1 _ σ _ (by rw [List.append_assoc]; exact hd) (by simpa using hl) (by simp [hv]) ok2 fr2 upd_same hs (repsP W1 rs2) (fun a u q => ?_) ?_
      · rw [upd_ne (ne_of_none q hPx)]
        exact hP a u q
      · simp only [Res.bindA] at h
        cases eg : evF es f2 S1 with
        | bad => rw [eg] at h; exact h.elim
        | exc q fs S2 =>
          rw [eg] at h
          exact fun W' d H' e1 e2 e3 o2 rx => h W' d H' (fun a o q => e1 a o (l.f a o q)) (fun i a q => e2 i a (l.m i a q)) e3 o2 rx
        | ok fs S2 =>
          rw [eg] at h
          intro W' H' us e1 e2 e3 o2 r2 hl2 hx2 hf2 hm2
          refine h W' H' us (fun a o q => e1 a o (l.f a o q)) (fun i a q => e2 i a (l.m i a q)) e3 o2 ?_ hl2 hx2 hf2 hm2
          rw [List.append_assoc] at r2
          exact r2
theorem enterC {N k n : Nat} {body : SF} {fs : List EF} {ns : List Str} {vs : List V} {H : Hp} {Q : VK} {Ex : XK} {names : List Str} (hN : names.length = N) (c : ClF Γ k ns) (hz : ns.length < 900) (hlen : fs.length = ns.length) (h : spC Γ k n ns (initC N body fs) vs H Q Ex) :
    ∃ ξ : Xx, tSeq (dS Γ ξ body (fun c d _ H => Ex c d H)) (tFs Γ.K Γ ξ (fun c d _ H => Ex c d H) ns fs) { nx := fun _ H' => Q .non H', rt := Q } (L2.start names vs) H := by
  obtain ⟨x, dx, ws, W, S, ds, rfl, ok, r, hl, hFx, hPx, hM, hHx, h⟩ := h
  refine ⟨⟨x, .none, none⟩, ?_⟩
  have e2 : upd H x (.ins (Γ.cl k) dx []) = H := by
    funext b
    by_cases z : b = x
    · rw [z, upd_same, hHx]
    · rw [upd_ne z]
  have okB := ok.swap (x := x) (.ins (Γ.cl k) dx []) hFx hM
  rw [e2] at okB
  let PB : Hp := upd W.P x (.ins (Γ.cl k) dx [])
  have hPBx : PB x = some (.ins (Γ.cl k) dx []) := upd_same
  have hPW : ∀ a u, W.P a = some u → PB a = some u := fun a u q => by
    show upd W.P x _ a = _
    rw [upd_ne (ne_of_none q hPx)]
    exact q
  refine ⟨{ W with P := PB }, startI N ds, S, PB, okB, ⟨[], ?_, ⟨List.nodup_nil, fun p hp => absurd hp (by simp), fun a _ => rfl⟩⟩, ?_⟩
  · unfold startI L2.start
    have hlen : (V.ref x :: ws).length = ds.length + 1 := by rw [List.length_cons, r.length]
    rw [hN, hlen]
    exact ⟨_, rfl, (slots_start _ r).p⟩
  unfold initC at h
  cases eb : body (startI N ds) S with
  | bad => rw [eb] at h; exact h.elim
  | brk es S1 => rw [eb] at h; exact h.elim
  | ct es S1 => rw [eb] at h; exact h.elim
  | ret d S1 => rw [eb] at h; exact h.elim
  | exc q fs' es S1 =>
    rw [eb] at h
    intro W' σ' d H' l ok' fr' rx
    obtain ⟨own, _, o⟩ := fr'
    exact h { W' with P := W.P } d H' ⟨l.f, rfl, l.m⟩ (ok'.less fun a u q => o.of0 (hPW a u q)) (repX_le rx ⟨fun _ _ h => h, fun _ _ h => h⟩)
  | next es S1 =>
    rw [eb] at h
    simp only at h
    by_cases hs : isSlf es = true
    case neg => rw [if_neg hs] at h; exact h.elim
    rw [if_pos hs] at h
    intro W1 σ1 H1 l1 ok1 fr1
    obtain ⟨W2, l2, p2, ok2, fr2⟩ := fr1.frz ok1
    have hs2 : isSlf (es.map frz1) = true := by
      cases es with
      | nil => cases hs
      | cons e r =>
        cases e <;> first | (cases hs; done) | rfl
    refine tailC (PC := W.P) (Qe := fun H' => Q .non H') (x := x) (dx := dx) c hz (fun _ _ q => q) hPx rfl ns fs [] [] [] W2 (es.map frz1) S1 PB σ1 H1 rfl hlen rfl ok2 fr2 hPBx hs2 Reps.nil hPW ?_
    have lF : ∀ a o, W.F a = some o → W2.F a = some o := fun a o q => l2.f _ _ (l1.f _ _ q)
    have lM : ∀ (i : Nat) (a : Addr), W.m[i]? = some a → W2.m[i]? = some a := fun i a q => l2.m _ _ (l1.m _ _ q)
    cases eg : evF (es.map frz1) fs S1 with
    | bad => rw [eg] at h; exact h.elim
    | exc q fs' S2 =>
      rw [eg] at h
      exact fun W' d H' q1 q2 q3 o rx σ => h W' d H' ⟨fun a o z => q1 a o (lF a o z), q3, fun i a z => q2 i a (lM i a z)⟩ o rx
    | ok ds' S2 =>
      rw [eg] at h
      exact fun W' H' us q1 q2 q3 o rs hl hx hf hm => h W' H' us ⟨fun a o z => q1 a o (lF a o z), q3, fun i a z => q2 i a (lM i a z)⟩ o hf hm rs hl hx
/-- what a caller wants of such a class -/
structure MakC (Γ : Pg) (P : Program) (w : World) (mg : Str → Option Value) (base : Heap) (k : Nat) (x : Str) (c n : Nat) (ns : List Str) (dfl : List D) (F : List D → Store → ResA) : Prop where
  at_ : Γ.at_ c = some ns
  ex : ∃ (fI : Addr) (fd : FuncData) (ps : List Str) (ds : List Value) (dvs : List V), Mk Γ.K (Γ.cl c) fI ∧ FnOk P w Γ.K mg base (L2.CX P w) k fI fd ps (spC Γ c n ns F) ∧ mg x = some (.ref (Γ.cl c)) ∧ Binds Γ.K fd ps ds ∧ Vals dvs ds ∧ ∀ W, Reps Γ W dfl dvs
def newC (c n l : Nat) (F : List D → Store → ResA) : List D → Store → Res := fun ds S => if ds.length = n then match F ds S with
  | .ok fs S1 => if fs.length = l then .ok (.obj c fs) S1 else .bad
  | .exc k fs S1 => .exc k fs S1
  | .bad => .bad
  else .bad
def eNewC (c n l : Nat) (dfl : List D) (F : List D → Store → ResA) (a : AF) : EF := fun es S => (a es S).bind fun ds S1 => newC c n l F (ds ++ dfl) S1
theorem spC_of {c n : Nat} {ns : List Str} {F : List D → Store → ResA} {W : Wd} {S : Store} {H : Hp} {ds : List D} {vs : List V} {Q : VK} {Ex : XK} (hat : Γ.at_ c = some ns) (ok : Ok Γ W S H) (r : Reps Γ W ds vs) (h : Cont Γ (newC c n ns.length F ds S) W Q Ex) {x dx : Addr} (hx : H x = none) (hd : H dx = none) (hne : dx ≠ x) :
    spC Γ c n ns F (.ref x :: vs) (upd (upd H dx (.own x)) x (.ins (Γ.cl c) dx [])) (fun v H2 => v = .non ∧ Q (.ref x) H2) Ex := by
  unfold newC at h
  split at h
  case isFalse => exact h.elim
  rename_i hl
  obtain ⟨Fx, Px, Mx⟩ := ok.fresh hx
  obtain ⟨Fd, Pd, Md⟩ := ok.fresh hd
  have okA := ((ok.swap (x := dx) (.own x) Fd Md).swap (x := x) (.ins (Γ.cl c) dx []) Fx Mx).less (P1 := W.P) fun a u q => by
    show upd (upd W.P dx _) x _ a = _
    rw [upd_ne (ne_of_none q Px), upd_ne (ne_of_none q Pd)]
    exact q
  refine ⟨x, dx, vs, W, S, ds, rfl, okA, r, hl, Fx, Px, Mx, upd_same, ?_⟩
  cases e : F ds S with
  | bad => rw [e] at h; exact h.elim
  | exc k fs S1 => rw [e] at h; exact h
  | ok fs S1 =>
    rw [e] at h
    simp only at h
    split at h
    case isFalse => exact h.elim
    rename_i h0
    intro W' H' us l ok' F'x M' rs hlu hHx
    refine ⟨rfl, ?_⟩
    let F1 : Hp := upd W'.F x (.ins (Γ.cl c) dx (ns.zip us))
    have le1 : ∀ a u, W'.F a = some u → F1 a = some u := fun a u q => by
      show upd W'.F x _ a = _
      rw [upd_ne (ne_of_none q F'x)]
      exact q
    have lS : LeS W' { W' with F := F1 } := ⟨le1, fun _ _ h => h⟩
    have hP' : ∀ a u, W'.P a = some u → a ≠ x := fun a u q => by
      rw [l.p] at q
      exact ne_of_none q Px
    refine h { W' with F := F1 } _ H' ⟨fun a o q => le1 a o (l.f a o q), l.p, l.m⟩ ⟨fun a u q => ?_, fun a u q => ?_, fun i a q => ?_, ok'.nd, ok'.len, fun i a ds q3 q4 => ?_⟩ ?_
    · have q : F1 a = some u := q
      by_cases z : a = x
      · subst z
        have : F1 a = some (.ins (Γ.cl c) dx (ns.zip us)) := upd_same
        rw [hHx, ← this]
        exact q
      · have e1 : F1 a = W'.F a := by
          show upd W'.F x _ a = _
          rw [upd_ne z]
        rw [e1] at q
        exact ok'.f a u q
    · have e1 : F1 a = W'.F a := by
        show upd W'.F x _ a = _
        rw [upd_ne (hP' a u q)]
      exact ⟨(ok'.p a u q).1, e1.trans (ok'.p a u q).2⟩
    · have e1 : F1 a = W'.F a := by
        show upd W'.F x _ a = _
        rw [upd_ne (M' i a q)]
      exact ⟨e1.trans (ok'.m i a q).1, (ok'.m i a q).2⟩
    · obtain ⟨ws, q5, q6⟩ := ok'.c i a ds q3 q4
      exact ⟨ws, q5, q6.mono lS⟩
    · simp only [Rep]
      refine ⟨x, dx, us, rfl, ?_, rs.mono lS⟩
      unfold ObjAt
      rw [hat]
      exact ⟨upd_same, hlu⟩
theorem de_newC {e : Expr} {es : List Expr} {x : Str} {fa : AF} {c n j l : Nat} {ns : List Str} {dfl : List D} {p pos : Pos} {P : Program} {w : World} {mg : Str → Option Value} {base : Heap} {F : List D → Store → ResA} (hh : Here Γ P w mg base l X E) (M : MakC Γ P w mg base j x c n ns dfl F)
    (ha : PA X (e :: es) (dA Γ ξ fa E)) (hj : j + 1 ≤ l := by decide) (hg : Gl X x := by rfl) (hdb : (x == ("__debug__" : Str)) = false := by decide) (he : starEach (e :: es) X.env = (false, eval e X.env) :: starEach es X.env := by rfl) (hpl : (backTo pos (starEach es X.env)).any (·.1) = false := by rfl) :
    PE X (.Call (.Name x p) (e :: es) [] pos) (dE Γ ξ (eNewC c n ns.length dfl F fa) E) := by
  obtain ⟨h1, h2, h3, h4, h5, h6, h7⟩ := hh
  subst h1 h2 h4 h5
  obtain ⟨fI, fd, ps, ds, dvs, hM, hF, hm, hb, hv, hrep⟩ := M.ex
  rw [← h3] at hM hF hb
  refine ⟨fun pins s σ H Q I ⟨W, es', S, P0, ok, fr, h⟩ => ?_⟩
  refine wpAny_Call_Name_kw (ld_glob I hg hm ?_ hdb)
  refine PySem.W.callWith_K (h₀ := X.base) I.ok.mod.kin hM.kp (thn (ha.run pos pins s σ H (fun vs H1 => ∃ W1 S1 ds1, Ok Γ W1 S1 H1 ∧ Reps Γ W1 ds1 vs ∧ Cont Γ (newC c n ns.length F (ds1 ++ dfl) S1) W1 Q (at_ E σ)) I
    ⟨W, es', S, P0, ok, fr, ContA.bind h fun ds1 S1 W1 vs H1 le ok1 rs h1 => ⟨W1, S1, ds1, ok1, rs, h1⟩⟩) fun us s1 ⟨vs, H1, I1, r, W1, S1, ds1, ok1, rs, h1⟩ => ⟨I1.kIn, ?_⟩) he hpl
  exact runMk (dvs := dvs) hM hF (h6.mono hj) hb hv (pass_of h7 σ) I1 r fun x dx hx hd hne => spC_of M.at_ ok1 (rs.append (hrep W1)) h1 hx hd hne
end
end DL
set_option Elab.async false
set_option linter.all false
set_option maxRecDepth 100000
set_option maxHeartbeats 2000000
set_option autoImplicit false
/-! The data layer, 19: enumerate. -/
namespace DL
open PySem PySem.Spec PyProof.Rows L2 He
section
variable {Γ : Pg} {ξ : Xx} {X : Cx} {E : WX}
def enumD (ds : List D) : List D := (List.range ds.length).zip ds |>.map fun p => .tup [.int (p.1 : Nat), p.2]
theorem enumD_get {ds : List D} {i : Nat} {d : D} (h : (enumD ds)[i]? = some d) : ∃ e, ds[i]? = some e ∧ d = .tup [.int (i : Nat), e] := by
  unfold enumD at h
  rw [List.getElem?_map, Option.map_eq_some_iff] at h
  obtain ⟨⟨j, e⟩, h1, rfl⟩ := h
  rw [List.getElem?_zip_eq_some] at h1
  obtain ⟨h2, h3⟩ := h1
  have hi : i < ds.length := (List.getElem?_eq_some_iff.mp h3).1
  rw [List.getElem?_range hi] at h2
  cases h2
  exact ⟨e, h3, rfl⟩
theorem enumD_len {ds : List D} : (enumD ds).length = ds.length := by
  unfold enumD
  rw [List.length_map, List.length_zip, List.length_range, Nat.min_self]
theorem yld_enum {W : Wd} {a : Addr} {ds : List D} {g : Gd} (q1 : ∀ W' S' H', LeS W W' → Ok Γ W' S' H' → g.ok S' → ∃ vs, SqX Γ.K H' ⟨false, a⟩ vs ∧ Reps Γ W' ds vs) : Yld Γ W (Ite Γ.K a) (enumD ds) g := fun W' S H l ok hg => by
  obtain ⟨vs, q, r⟩ := q1 W' S H l ok hg
  have q : SqL Γ.K H a vs := q
  refine ⟨⟨vs, q, by rw [r.length, enumD_len]; exact Nat.le_refl _⟩, fun i d hd => ?_⟩
  obtain ⟨e, he, rfl⟩ := enumD_get hd
  obtain ⟨v, hv, rv⟩ := r.get he
  refine ⟨⟨vs, v, q, hv⟩, fun z H' ⟨T, x', e1, hT, e2, e3⟩ => ?_⟩
  have e3 := e3 vs q
  rw [hv] at e3
  obtain rfl := Option.some.inj e3
  subst e1 e2
  have l2 := Le.lay (o := .tup [.int (i : Nat), v]) (ok.fresh hT).1
  exact ⟨_, l2, ok.lay hT _, rep_tup (Reps.cons (by simp only [Rep]) (Reps.cons (rv.mono l2.s) Reps.nil))⟩
def itEnum (a : AF) : IF := fun es S => (a es S).bindI fun ds S1 => match ds with
  | [x] => match seqV S1 x with
    | some (false, xs, g) => .ok (enumD xs) g S1
    | _ => .bad
  | _ => .bad
theorem di_enum {e : Expr} {ta : AF} {p pos tpos : Pos} {elts : List Expr} {kk : Nat} (hK : X.K = Γ.K) (hm : X.mg "enumerate" = none) (ha : PA X [e] (dA Γ ξ ta E)) (hg : Gl X "enumerate" := by rfl) (hs : starEach [e] X.env = [(false, eval e X.env)] := by rfl) :
    PI X (.Tuple elts kk tpos) (.Call (.Name "enumerate" p) [e] [] pos) (dI Γ ξ (itEnum ta) E) :=
  (pi_enum hg hm ha hs).imp fun σ H R ⟨W, es, S, P0, ok, fr, h⟩ => by
    refine ⟨W, es, S, P0, ok, fr, ?_⟩
    unfold itEnum at h
    cases e : ta es S with
    | bad => rw [e] at h; exact h.elim
    | exc k fs S1 => rw [e] at h; exact h
    | ok ds S1 =>
      rw [e] at h
      intro W1 vs H1 l1 ok1 rs
      simp only [ResA.bindI] at h
      split at h
      case h_2 => exact h.elim
      rename_i x
      split at h
      case h_2 => exact h.elim
      rename_i xs g hx
      simp only [Reps] at rs
      obtain ⟨v, vs', rfl, r1, rfl⟩ := rs
      obtain ⟨a, rfl, ⟨va, q1, q2⟩, q3⟩ := src_of ok1 r1 hx
      rw [hK]
      exact ⟨a, va, rfl, q1, h W1 _ H1 l1 ok1 (yld_enum q3)⟩
end
end DL
set_option Elab.async false
set_option linter.all false
set_option maxRecDepth 100000
set_option maxHeartbeats 2000000
set_option autoImplicit false
/-! The data layer, 20: slices. -/
namespace DL
open PySem PySem.Spec PyProof.Rows L2 He
section
variable {Γ : Pg} {ξ : Xx} {X : Cx} {E : WX}
def pOf (f : Option EF) (es : List SD) (S : Store) (k : Option Int → Store → Res) : Res := match f with
  | none => k none S
  | some f => (f es S).bind fun d S1 => match d with
    | .int i => k (some i) S1
    | _ => .bad
def dO (Γ : Pg) (ξ : Xx) (f : Option EF) (E : WX) : TO := fun σ H Q => ∃ W es S P0 k Qv, Ok Γ W S H ∧ Frame Γ ξ W es σ P0 ∧ Cont Γ (pOf f es S k) W Qv (at_ E σ) ∧ ∀ a S1 W1 H1, Le W W1 → Ok Γ W1 S1 H1 → Cont Γ (k a S1) W1 Qv (at_ E σ) → Q a H1
theorem do_none : PO X none (dO Γ ξ none E) := ⟨fun pins s σ H Q I ⟨W, es, S, P0, k, Qv, ok, fr, h, q⟩ => po_none.run pins s σ H Q I (q none S W H (Le.refl W) ok h)⟩
theorem do_some {e : Expr} {f : EF} (he : PE X e (dE Γ ξ f E)) : PO X (some e) (dO Γ ξ (some f) E) := ⟨fun pins s σ H Q I ⟨W, es, S, P0, k, Qv, ok, fr, h, q⟩ => (po_some he).run pins s σ H Q I ⟨W, es, S, P0, ok, fr, by
  unfold pOf at h
  exact h.bind fun d S1 W1 v H1 le ok1 rv h1 => by
    cases d with
    | int i =>
      simp only [Rep] at rv
      exact ⟨i, rv, q (some i) S1 W1 H1 le ok1 h1⟩
    | _ => exact h1.elim⟩⟩
def rSD (Γ : Pg) (g : D → Option Int → Option Int → Store → Res) : V → Option Int → Option Int → Hp → VK → Prop := fun x lo hi H Q => ∃ W S a, Ok Γ W S H ∧ RepT Γ W a x ∧ Cont Γ (g a lo hi S) W Q (fun _ _ _ => False)
def eSl (g : D → Option Int → Option Int → Store → Res) (fe : EF) (fl fh : Option EF) : EF := fun es S => (fe es S).bind fun x S1 => pOf fl es S1 fun a S2 => pOf fh es S2 fun b S3 => (g x a b S3).nox
theorem de_sl {g : D → Option Int → Option Int → Store → Res} {e : Expr} {lo hi : Option Expr} {fe : EF} {fl fh : Option EF} {pos p2 : Pos} (hr : SlR X (rSD Γ g)) (he : PE X e (dV Γ ξ fe E)) (hl : PO X lo (dO Γ ξ fl E)) (hu : PO X hi (dO Γ ξ fh E)) :
    PE X (.Subscript e (.Slice lo hi none p2) pos) (dE Γ ξ (eSl g fe fl fh) E) := (pe_slice hr he hl hu).imp fun σ H Q ⟨W, es, S, P0, ok, fr, h⟩ => by
  refine ⟨W, es, S, P0, ok, fr, ContV.bind h fun d S1 W1 v H1 le ok1 rv h1 => ?_⟩
  refine ⟨W1, es, S1, P0, _, Q, ok1, fr.le le, h1, fun a S2 W2 H2 le2 ok2 h2 => ?_⟩
  refine ⟨W2, es, S2, P0, _, Q, ok2, (fr.le le).le le2, h2, fun b S3 W3 H3 le3 ok3 h3 => ?_⟩
  exact ⟨W3, S3, d, ok3, (rv.mono le2).mono le3, h3.nox⟩
def cutD (ds : List D) (lo hi : Option Int) : List D := (ds.drop (HT.sIx ds.length 0 lo)).take (HT.sIx ds.length ds.length hi - HT.sIx ds.length 0 lo)
theorem Reps.drop {W : Wd} : ∀ {ds : List D} {vs : List V} (n : Nat), Reps Γ W ds vs → Reps Γ W (ds.drop n) (vs.drop n)
  | ds, vs, 0, h => h
  | [], vs, n + 1, h => by simp only [Reps] at h; subst h; exact Reps.nil
  | d :: ds, vs, n + 1, h => by
    simp only [Reps] at h
    obtain ⟨v, vs', rfl, h1, h2⟩ := h
    exact Reps.drop n h2
theorem Reps.take {W : Wd} : ∀ {ds : List D} {vs : List V} (n : Nat), Reps Γ W ds vs → Reps Γ W (ds.take n) (vs.take n)
  | ds, vs, 0, h => Reps.nil
  | [], vs, n + 1, h => by simp only [Reps] at h; subst h; exact Reps.nil
  | d :: ds, vs, n + 1, h => by
    simp only [Reps] at h
    obtain ⟨v, vs', rfl, h1, h2⟩ := h
    exact Reps.cons h1 (Reps.take n h2)
theorem Reps.cut {W : Wd} {ds : List D} {vs : List V} (lo hi : Option Int) (h : Reps Γ W ds vs) : Reps Γ W (cutD ds lo hi) (cutV vs lo hi) := by
  unfold cutD cutV
  rw [h.length]
  exact Reps.take _ (Reps.drop _ h)
def gSlL : D → Option Int → Option Int → Store → Res := fun x lo hi S => match deref S x with
  | .lst ds => .ok (.lst (cutD ds lo hi)) S
  | _ => .bad
theorem sl_gL (hK : X.K = Γ.K) : SlR X (rSD Γ gSlL) := by
  intro pins s σ H x v vl vu lo hi sl Q I rx hs pl pu ⟨W, S, d, ok, rd, h⟩
  unfold gSlL at h
  split at h
  case h_2 => exact h.elim
  rename_i ds hd
  obtain ⟨a, vs, rfl, q1, q2⟩ := asL ok rd hd
  refine sl_list pins s σ H _ v vl vu lo hi sl Q I rx hs pl pu ⟨a, vs, rfl, by rw [hK]; exact q1, fun p hp => ?_⟩
  have l : Le W (W.lay p (.lst (cutV vs lo hi))) := Le.lay (ok.fresh hp).1
  exact h _ _ _ l (ok.lay hp _) (rep_lst ((Reps.cut lo hi q2).mono l.s))
def gSlS : D → Option Int → Option Int → Store → Res := fun x lo hi S => match x with
  | .str z => if z.length ≤ 16777216 then .ok (.str (cutS z lo hi)) S else .bad
  | _ => .bad
theorem sl_gS : SlR X (rSD Γ gSlS) := by
  intro pins s σ H x v vl vu lo hi sl Q I rx hs pl pu ⟨W, S, d, ok, rd, h⟩
  unfold gSlS at h
  split at h
  case h_2 => exact h.elim
  rename_i z
  split at h
  case isFalse => exact h.elim
  rename_i hz
  obtain rfl := rd.str
  exact sl_str pins s σ H _ v vl vu lo hi sl Q I rx hs pl pu ⟨z, rfl, by rw [sizeLine_eq]; exact hz, h W _ H (Le.refl W) ok (by simp only [Rep])⟩
end
end DL
set_option Elab.async false
set_option linter.all false
set_option maxRecDepth 100000
set_option maxHeartbeats 2000000
set_option autoImplicit false
/-! The data layer, 21: stars in displays and arguments. -/
namespace DL
open PySem PySem.Spec PyProof.Rows L2 He
section
variable {Γ : Pg} {ξ : Xx} {X : Cx} {E : WX}
def seqD : D → Option (List D)
  | .lst xs => some xs
  | .tup xs => some xs
  | _ => none
theorem seqD_rep {W : Wd} {d : D} {xs : List D} {v : V} {S : Store} {H : Hp} (ok : Ok Γ W S H) (h : seqD d = some xs) (r : Rep Γ W d v) : ∃ a vs, v = .ref a ∧ (SqT Γ.K H a vs ∨ SqL Γ.K H a vs) ∧ Reps Γ W xs vs := by
  cases d with
  | lst ds =>
    cases h
    simp only [Rep] at r
    obtain ⟨a, vs, rfl, q1, q2⟩ := r
    exact ⟨a, vs, rfl, .inr (sqL_H ok.f q1), q2⟩
  | tup ds =>
    cases h
    simp only [Rep] at r
    obtain ⟨a, vs, rfl, q1, q2⟩ := r
    exact ⟨a, vs, rfl, .inl (sqT_H ok.f q1), q2⟩
  | _ => cases h
def aStar (f : EF) (g : AF) : AF := fun es S => (f es S).bindA fun d S1 => match seqD d with
  | some xs => (g es S1).bindL fun ds S2 => .ok (xs ++ ds) S2
  | none => .bad
theorem da_star {e : Expr} {es : List Expr} {p : Pos} {f : EF} {g : AF} (hK : X.K = Γ.K) (he : PE X e (dE Γ ξ f E)) (hr : PA X es (dA Γ ξ g E)) (hs : starEach (.Starred e p :: es) X.env = (true, eval e X.env) :: starEach es X.env := by rfl) : PA X (.Starred e p :: es) (dA Γ ξ (aStar f g) E) :=
  (StX.pa_star he hr hs).imp fun σ H Q ⟨W, es, S, P0, ok, fr, h⟩ => ⟨W, es, S, P0, ok, fr, Cont.bindA h fun d S1 W1 v H1 le ok1 rv h1 => by
    split at h1
    case h_2 => exact h1.elim
    rename_i xs hx
    obtain ⟨a, vs, rfl, q1, q2⟩ := seqD_rep ok1 hx rv
    refine ⟨a, vs, rfl, by rw [hK]; exact q1, W1, es, S1, P0, ok1, fr.le le, ?_⟩
    cases e : g es S1 with
    | bad => rw [e] at h1; exact h1.elim
    | exc k fs S' => rw [e] at h1; exact h1
    | ok ds S' =>
      rw [e] at h1
      intro W2 ws H2 l2 ok2 rs
      exact h1 W2 _ H2 l2 ok2 ((q2.mono l2.s).append rs)⟩
end
end DL
set_option Elab.async false
set_option linter.all false
set_option maxRecDepth 100000
set_option maxHeartbeats 2000000
set_option autoImplicit false
/-! The data layer, 22: texts and tuples joined. -/
namespace DL
open PySem PySem.Spec PyProof.Rows L2 He
section
variable {Γ : Pg} {ξ : Xx} {X : Cx} {E : WX}
def sCat : D → D → Store → Res := fun x y S => match x, y with
  | .str a, .str b => if a.length + b.length ≤ 16777216 then .ok (.str (a ++ b)) S else .bad
  | _, _ => .bad
theorem op_sCat : OpR X (binaryOp .Add) (rD Γ sCat) := by
  intro pins s σ H x y v u Q I rx ry ⟨W, S, a, b, ok, ra, rb, h⟩
  unfold sCat at h
  split at h
  case h_2 => exact h.elim
  rename_i i j
  split at h
  case isFalse => exact h.elim
  rename_i hz
  simp only [Rep] at ra rb
  subst ra rb
  exact op_add_str pins s σ H _ _ v u Q I rx ry ⟨i, j, rfl, rfl, by rw [sizeLine_eq]; exact hz, h W _ H (Le.refl W) ok (by simp only [Rep])⟩
end
end DL
set_option Elab.async false
set_option linter.all false
set_option maxRecDepth 100000
set_option maxHeartbeats 2000000
set_option autoImplicit false
/-! The data layer, 23: chains, isinstance of several, in, joining, len of one's own, defs in locals, lists of others changed. -/
namespace DL
open PySem PySem.Spec PyProof.Rows L2 He
section
variable {Γ : Pg} {ξ : Xx} {X : Cx} {E : WX}
/-! ### a op b op c -/
def eChain (g g' : D → D → Store → Res) (a b c : EF) : EF := fun es S => (a es S).bind fun x S1 => (b es S1).bind fun y S2 => (g x y S2).nox.bind fun r S3 => match r with
  | .bl true => (c es S3).bind fun z S4 => (g' y z S4).nox
  | .bl false => .ok (.bl false) S3
  | _ => .bad
theorem tChain_of {g g' : D → D → Store → Res} {fa fb fc : EF} {σ : L2.St} {H : Hp} {Q : VK} (h : dE Γ ξ (eChain g g' fa fb fc) E σ H Q) : tChain (rD Γ g) (rD Γ g') (dE Γ ξ fa E) (dE Γ ξ fb E) (dE Γ ξ fc E) σ H Q := by
  obtain ⟨W, es, S, P0, ok, fr, h⟩ := h
  refine ⟨W, es, S, P0, ok, fr, h.bind fun x S1 W1 v1 H1 le1 ok1 r1 h1 => ⟨W1, es, S1, P0, ok1, fr.le le1, h1.bind fun y S2 W2 v2 H2 le2 ok2 r2 h2 => ⟨W2, S2, x, y, ok2, r1.mono le2.s, r2, ?_⟩⟩⟩
  cases e : g x y S2 with
  | bad => rw [e] at h2; exact h2.elim
  | exc k fs S3 => rw [e] at h2; exact h2.elim
  | ok d S3 =>
    rw [e] at h2
    simp only [Res.nox, Res.bind] at h2
    cases d with
    | bl k =>
      intro W3 v H3 le3 ok3 rv
      simp only [Rep] at rv
      refine ⟨k, rv, ?_⟩
      cases k with
      | false =>
        rw [if_neg Bool.false_ne_true]
        exact h2 W3 _ H3 le3 ok3 (by simp only [Rep])
      | true =>
        rw [if_pos rfl]
        exact ⟨W3, es, S3, P0, ok3, ((fr.le le1).le le2).le le3, (h2.le le3).bind fun z S4 W4 v4 H4 le4 ok4 r4 h4 => ⟨W4, S4, y, z, ok4, (r2.mono le3.s).mono le4.s, r4, h4.nox⟩⟩
    | _ => exact h2.elim
section
variable {op op' : CmpOp} {a b c : Expr} {g g' : D → D → Store → Res} {fa fb fc : EF} {pos : Pos}
theorem de_chain (ho : OpR X (compareOp op) (rD Γ g)) (ho' : OpR X (compareOp op') (rD Γ g')) (ha : PE X a (dE Γ ξ fa E)) (hb : PE X b (dE Γ ξ fb E)) (hc : PE X c (dE Γ ξ fc E)) (hm : lastMarks [op, op'] [b, c] = false := by with_unfolding_all rfl) :
    PE X (.Compare a [op, op'] [b, c] pos) (dE Γ ξ (eChain g g' fa fb fc) E) := (pe_chain ho ho' ha hb hc hm).imp fun σ H Q h => tChain_of h
theorem dt_chain (ho : OpR X (compareOp op) (rD Γ g)) (ho' : OpR X (compareOp op') (rD Γ g')) (ha : PE X a (dE Γ ξ fa E)) (hb : PE X b (dE Γ ξ fb E)) (hc : PE X c (dE Γ ξ fc E)) (hm : lastMarks [op, op'] [b, c] = false := by with_unfolding_all rfl) :
    PT X (.Compare a [op, op'] [b, c] pos) (dT Γ ξ (eChain g g' fa fb fc) E) := (pt_chain ho ho' ha hb hc hm).imp fun σ H Q ⟨W, es, S, P0, ok, fr, h⟩ => tChain_of ⟨W, es, S, P0, ok, fr, h.val⟩
end
/-! ### isinstance(x, (A, B)) -/
def isiT (cs : List Nat) (x : D) : List D → Option Bool
  | [] => some false
  | c :: r => match isi1 cs x c, isiT cs x r with
    | some a, some b => some (a || b)
    | _, _ => none
theorem isi1_ty {cs : List Nat} (T : IsF Γ cs) {W : Wd} {x c : D} {b : Bool} {v : V} (h : isi1 cs x c = some b) (r : Rep Γ W c v) : ∃ u, ClsV v u ∧ (∀ t, kind x = some t → PySem.W.kitOne Γ.K (.type t) u = some b) ∧ ∀ k ds, x = .obj k ds → k ∈ cs ∧ PySem.W.kitOne Γ.K (.ref (Γ.cl k)) u = some b := by
  unfold isi1 at h
  split at h
  · rename_i t n hk
    simp only [Rep] at r
    subst r
    refine ⟨_, .ty n, ?_, ?_⟩
    · intro t' ht'
      rw [hk] at ht'
      cases ht'
      exact tyIs_kit h
    · intro k ds e
      subst e
      cases hk
  · rename_i t j hk
    simp only [Rep] at r
    subst r
    split at h
    case isFalse => cases h
    rename_i hj
    cases h
    refine ⟨_, .own _, ?_, ?_⟩
    · intro t' ht'
      exact T.b j hj t' (kind_mem ht')
    · intro k ds e
      subst e
      cases hk
  · rename_i k ds n hk
    simp only [Rep] at r
    subst r
    split at h
    case isFalse => cases h
    rename_i hj
    cases h
    refine ⟨_, .ty n, ?_, ?_⟩
    · intro t' ht'
      cases ht'
    · intro k' ds' e
      cases e
      exact ⟨hj.1, T.t k hj.1 n hj.2⟩
  · rename_i k ds j hk
    simp only [Rep] at r
    subst r
    split at h
    case isFalse => cases h
    rename_i hj
    cases h
    refine ⟨_, .own _, ?_, ?_⟩
    · intro t' ht'
      cases ht'
    · intro k' ds' e
      cases e
      exact ⟨hj.1, T.c k hj.1 j hj.2⟩
  · cases h
theorem isiT_ty {cs : List Nat} (T : IsF Γ cs) {W : Wd} {x : D} : ∀ {ds : List D} {vs : List V} {b : Bool}, isiT cs x ds = some b → Reps Γ W ds vs → ∃ us, Paired ClsV vs us ∧ (∀ t, kind x = some t → PySem.W.kitAny Γ.K (.type t) us = some b) ∧ ∀ k fs, x = .obj k fs → PySem.W.kitAny Γ.K (.ref (Γ.cl k)) us = some b
  | [], vs, b, h, r => by
    simp only [Reps] at r
    subst r
    cases h
    exact ⟨[], .nil, fun t _ => rfl, fun k fs _ => rfl⟩
  | c :: ds, vs, b, h, r => by
    simp only [Reps] at r
    obtain ⟨v, vs', rfl, r1, r2⟩ := r
    unfold isiT at h
    split at h
    case h_2 => cases h
    rename_i a b' ha hb
    cases h
    obtain ⟨u, k1, k2, k3⟩ := isi1_ty T ha r1
    obtain ⟨us, q1, q2, q3⟩ := isiT_ty T hb r2
    refine ⟨u :: us, .cons k1 q1, fun t ht => ?_, fun k fs e => ?_⟩
    · cases a with
      | true => simp only [PySem.W.kitAny, k2 t ht, Bool.true_or]
      | false => simp only [PySem.W.kitAny, k2 t ht, Bool.false_or]; exact q2 t ht
    · cases a with
      | true => simp only [PySem.W.kitAny, (k3 k fs e).2, Bool.true_or]
      | false => simp only [PySem.W.kitAny, (k3 k fs e).2, Bool.false_or]; exact q3 k fs e
theorem clsV_all {X : Cx} {s : Shared} : ∀ {cs : List V} {us ws : List Value}, Paired ClsV cs us → Vals cs ws → ws = us
  | _, _, _, .nil, .nil => rfl
  | _, _, _, .cons k ks, .cons r rs => by rw [k.eq r, clsV_all (X := X) (s := s) ks rs]
def eIsiT (cs : List Nat) (f : EF) (g : AF) : EF := fun es S => (f es S).bind fun x S1 => (g es S1).bind fun ds S2 => if ds.length ≤ 1000 then match isiT cs x ds with
  | some b => .ok (.bl b) S2
  | none => .bad
  else .bad
theorem kind_obj {x : D} (h : kind x = none) {cs : List Nat} {ds : List D} {b : Bool} (hb : isiT cs x ds = some b) (hd : ds ≠ []) : ∃ k fs, x = .obj k fs ∧ k ∈ cs := by
  cases ds with
  | nil => exact absurd rfl hd
  | cons c ds =>
    unfold isiT at hb
    split at hb
    case h_2 => cases hb
    rename_i a b' ha hb'
    unfold isi1 at ha
    split at ha
    · rename_i hk; rw [hk] at h; cases h
    · rename_i hk; rw [hk] at h; cases h
    · split at ha
      · rename_i hk; exact ⟨_, _, rfl, hk.1⟩
      · cases ha
    · split at ha
      · rename_i hk; exact ⟨_, _, rfl, hk.1⟩
      · cases ha
    · cases ha
def rIsD (Γ : Pg) (cs : List Nat) : List V → Hp → VK → Prop := fun vs H Q => ∃ x tp ts W S d ds b, vs = [x, .ref tp] ∧ H tp = some (.tup ts) ∧ ds ≠ [] ∧ Ok Γ W S H ∧ Rep Γ W d x ∧ Reps Γ W ds ts ∧ isiT cs d ds = some b ∧ Q (.bl b) H
theorem cr_isiT {cs : List Nat} (hK : X.K = Γ.K) (T : IsF Γ cs) : CallR X (.builtin "isinstance") (rIsD Γ cs) := by
  intro pins s σ H vs us Q I r ⟨x, tp, ts, W, S, d, ds, b, e, hT, hne, ok, rd, rs, hb, q⟩
  subst e
  obtain ⟨ws, k1, k2, k3⟩ := isiT_ty T hb rs
  cases hk : kind d with
  | some t =>
    exact call_isiT pins s σ H _ us Q I r ⟨x, tp, ts, .type t, ws, b, rfl, hT, k1, by rw [hK]; exact tyX ok rd hk, by rw [hK]; exact k2 t hk, q⟩
  | none =>
    obtain ⟨k, fs, rfl, hcs⟩ := kind_obj hk hb hne
    rcases T.o k hcs with c | ⟨ns, c⟩
    · obtain ⟨p, dx, zs, rfl, q2, q3⟩ := asO c ok rd
      obtain ⟨u1, u2, rfl, r1, r2⟩ := r.two
      cases (show u1 = Value.ref p from r1)
      cases (show u2 = Value.ref tp from r2)
      obtain ⟨sl, od, _, J, _⟩ := SlX.slt_inst I q2
      obtain ⟨_, its, rv, o, h1, h2, n, h3⟩ := (show ObjOk X.prog X.w H s.heap tp (.tup ts) from I.hok tp _ hT)
      have e3 := clsV_all (X := X) (s := s) k1 rv
      subst e3
      obtain ⟨oc, od', dt, sl'⟩ := o
      simp only at h2 h3
      subst h2 h3
      have hc := c.sc
      have hi := c.si
      rw [← hK] at hc hi
      exact PySem.W.kia_tup (OwX.kitx_slt hc.ic (hc.get _) hi.ca hi.cn hi.ct hi.cm) I.kIn J h1 (by rw [hK]; exact k3 k fs rfl) (fun z => nomatch z) fun tk => ⟨.bl b, H, I.tok tk, rfl, q⟩
    · obtain ⟨p, dx, zs, rfl, q2, hl, q3⟩ := asC c ok rd
      exact call_isiT pins s σ H _ us Q I r ⟨_, tp, ts, .ref (Γ.cl k), ws, b, rfl, hT, k1, .base (.ins q2 (by rw [hK]; exact c.cl) (by rw [hK]; exact c.si.ca) (by rw [hK]; exact c.si.cn) (by rw [hK]; exact c.si.ct) (by rw [hK]; exact c.si.cm)), by rw [hK]; exact k3 k fs rfl, q⟩
theorem de_isiT {cs : List Nat} {x : Str} {a : Expr} {ts : List Expr} {f : EF} {g : AF} {x1} {p pos p2 : Pos} (hK : X.K = Γ.K) (T : IsF Γ cs) (hne : ∀ es S ds S', g es S = .ok ds S' → ds ≠ []) (hm : X.mg x = none) (hv : bootBuiltins x = some (.builtin "isinstance")) (ha : PE X a (dE Γ ξ f E)) (hb : PA X ts (dA Γ ξ g E)) (hg : Gl X x := by rfl) (hn : x ≠ "__name__" := by decide) (hdb : (x == ("__debug__" : Str)) = false := by decide)
    (he : starEach (a :: [.Tuple ts x1 p2]) X.env = (false, eval a X.env) :: starEach [.Tuple ts x1 p2] X.env := by rfl) (he2 : starEach ((.Tuple ts x1 p2) :: []) X.env = (false, eval (.Tuple ts x1 p2) X.env) :: starEach [] X.env := by rfl) (hpl : (backTo pos (starEach [.Tuple ts x1 p2] X.env)).any (·.1) = false := by rfl) :
    PE X (.Call (.Name x p) [a, .Tuple ts x1 p2] [] pos) (dE Γ ξ (eIsiT cs f g) E) :=
  (pe_callB (cr_isiT hK T) hg hm hv (pa_cons ha (pa_cons (pe_tup hb) pa_nil he2) he) hn hdb (he := he) (hpl := hpl)).imp fun σ H Q ⟨W, es, S, P0, ok, fr, h⟩ => by
    refine ⟨W, es, S, P0, ok, fr, h.bind fun d S1 W1 v H1 le ok1 rv h1 => ⟨W1, es, S1, P0, ok1, fr.le le, ?_⟩⟩
    cases e : g es S1 with
    | bad => rw [e] at h1; exact h1.elim
    | exc k fs S' => rw [e] at h1; exact h1
    | ok ds S2 =>
      rw [e] at h1
      simp only [ResA.bind] at h1
      intro W2 vs H2 le2 ok2 rs
      split at h1
      case isFalse => exact h1.elim
      rename_i hz
      split at h1
      case h_2 => exact h1.elim
      rename_i b hb
      refine ⟨by rw [rs.length, sizeLine_eq]; omega, fun p hp => ?_⟩
      have l := Le.lay (o := .tup vs) (ok2.fresh hp).1
      exact ⟨v, p, vs, _, S2, d, ds, b, rfl, upd_same, hne _ _ _ _ e, ok2.lay hp _, (rv.mono le2.s).mono l.s, rs.mono l.s, hb, h1 _ _ _ (le2.trans l) (ok2.lay hp _) (by simp only [Rep])⟩
theorem aCons_ne {f : EF} {g : AF} : ∀ es S ds S', aCons f g es S = .ok ds S' → ds ≠ [] := fun es S ds S' h => by
  unfold aCons at h
  cases e : f es S with
  | bad => rw [e] at h; cases h
  | exc k fs S1 => rw [e] at h; cases h
  | ok d S1 =>
    rw [e] at h
    simp only [Res.bindA] at h
    cases e2 : g es S1 with
    | bad => rw [e2] at h; cases h
    | exc k fs S2 => rw [e2] at h; cases h
    | ok ds2 S2 =>
      rw [e2] at h
      cases h
      exact List.cons_ne_nil _ _

/-! ### in -/
def fv : D → Option V
  | .non => some .non
  | .bl b => some (.bl b)
  | .int i => some (.int i)
  | .str x => some (.str x)
  | _ => none
def fvL : List D → Option (List V)
  | [] => some []
  | d :: ds => match fv d, fvL ds with
    | some v, some vs => some (v :: vs)
    | _, _ => none
theorem fv_rep {W : Wd} {d : D} {v u : V} (h : fv d = some u) (r : Rep Γ W d v) : v = u ∧ flatV u = true := by
  cases d with
  | non => cases h; simp only [Rep] at r; exact ⟨r, rfl⟩
  | bl b => cases h; simp only [Rep] at r; exact ⟨r, rfl⟩
  | int b => cases h; simp only [Rep] at r; exact ⟨r, rfl⟩
  | str b => cases h; simp only [Rep] at r; exact ⟨r, rfl⟩
  | _ => cases h
theorem fvL_rep {W : Wd} : ∀ {ds : List D} {vs us : List V}, fvL ds = some us → Reps Γ W ds vs → vs = us ∧ us.all flatV = true
  | [], vs, us, h, r => by
    simp only [Reps] at r
    subst r
    cases h
    exact ⟨rfl, rfl⟩
  | d :: ds, vs, us, h, r => by
    simp only [Reps] at r
    obtain ⟨v, vs', rfl, r1, r2⟩ := r
    unfold fvL at h
    split at h
    case h_2 => cases h
    rename_i v' us' h1 h2
    cases h
    obtain ⟨rfl, f1⟩ := fv_rep h1 r1
    obtain ⟨rfl, f2⟩ := fvL_rep h2 r2
    exact ⟨rfl, by rw [List.all_cons, f1, f2]; rfl⟩
def gIn (neg : Bool) : D → D → Store → Res := fun x y S => match y with
  | .str z => match x with
    | .str a => match a.cps.toList with
      | [c] => .ok (.bl (xor neg (decide (c ∈ z.cps.toList)))) S
      | _ => .bad
    | _ => .bad
  | y => match seqV S y with
    | some (_, ds, _) => match fv x, fvL ds with
      | some v, some vs => .ok (.bl (xor neg (inV v vs))) S
      | _, _ => .bad
    | none => .bad
theorem sign_of {a : Str} {c : Nat} (h : a.cps.toList = [c]) : a = ⟨#[c]⟩ := by
  obtain ⟨⟨l⟩⟩ := a
  simp only at h
  subst h
  rfl
theorem op_gIn (hK : X.K = Γ.K) : OpR X (compareOp .In) (rD Γ (gIn false)) := by
  intro pins s σ H x y v u Q I rx ry ⟨W, S, a, b, ok, ra, rb, h⟩
  unfold gIn at h
  split at h
  · rename_i z
    split at h
    case h_2 => exact h.elim
    rename_i t
    split at h
    case h_2 => exact h.elim
    rename_i c hc
    obtain rfl := sign_of hc
    simp only [Rep] at ra rb
    subst ra rb
    exact op_in_sign pins s σ H _ _ v u Q I rx ry ⟨c, z, rfl, rfl, h W _ H (Le.refl W) ok (by simp only [Rep, Bool.false_xor])⟩
  · split at h
    case h_2 => exact h.elim
    rename_i t ds g hs
    split at h
    case h_2 => exact h.elim
    rename_i w ws h1 h2
    obtain ⟨p, rfl, ⟨vs, q1, q2⟩, _⟩ := src_of ok rb hs
    obtain ⟨rfl, f1⟩ := fv_rep h1 ra
    obtain ⟨rfl, f2⟩ := fvL_rep h2 q2
    refine op_in_seq pins s σ H _ _ v u Q I rx ry ⟨p, _, rfl, ?_, f1, f2, h W _ H (Le.refl W) ok (by simp only [Rep, Bool.false_xor, Bool.false_eq_true, if_false])⟩
    rw [hK]
    cases t with
    | true => exact .inr q1
    | false => exact .inl q1
theorem op_gNotIn (hK : X.K = Γ.K) : OpR X (compareOp .NotIn) (rD Γ (gIn true)) := by
  intro pins s σ H x y v u Q I rx ry ⟨W, S, a, b, ok, ra, rb, h⟩
  unfold gIn at h
  split at h
  · rename_i z
    split at h
    case h_2 => exact h.elim
    rename_i t
    split at h
    case h_2 => exact h.elim
    rename_i c hc
    obtain rfl := sign_of hc
    simp only [Rep] at ra rb
    subst ra rb
    exact op_notIn_sign pins s σ H _ _ v u Q I rx ry ⟨c, z, rfl, rfl, h W _ H (Le.refl W) ok (by simp only [Rep, Bool.true_xor])⟩
  · split at h
    case h_2 => exact h.elim
    rename_i t ds g hs
    split at h
    case h_2 => exact h.elim
    rename_i w ws h1 h2
    obtain ⟨p, rfl, ⟨vs, q1, q2⟩, _⟩ := src_of ok rb hs
    obtain ⟨rfl, f1⟩ := fv_rep h1 ra
    obtain ⟨rfl, f2⟩ := fvL_rep h2 q2
    refine op_notIn_seq pins s σ H _ _ v u Q I rx ry ⟨p, _, rfl, ?_, f1, f2, h W _ H (Le.refl W) ok (by simp only [Rep, Bool.true_xor, if_true])⟩
    rw [hK]
    cases t with
    | true => exact .inr q1
    | false => exact .inl q1
end
end DL
set_option Elab.async false
set_option linter.all false
set_option maxRecDepth 100000
set_option maxHeartbeats 2000000
set_option autoImplicit false
/-! The data layer, 24: joining, len of one's own, defs in locals, lists of others changed, tuples of texts. -/
namespace DL
open PySem PySem.Spec PyProof.Rows L2 He
/-! ### len(x), x an instance with its own __len__ -/
section
variable {prog : Program} {w : World} {A : Around} {E : Value → Shared → Prop} {s : Shared} {K : PySem.W.Frag} {x C f : Addr} {ox : Obj} {odd : Option Obj}
theorem len_own {Q : Value → Shared → Prop} (X : K.In s.heap) (I : PySem.W.InstAt s.heap x ox C odd) (hs : PySem.W.findIn K (.ref C) "__len__" = some (some (.ref f))) (hf : PySem.W.isFn K (.ref f) = true)
    (h : wpAny (model prog w) A.in1 (call (.ref f) [.ref x]) (fun r s₁ => ∃ n u, r = Value.int n u ∧ 0 ≤ n ∧ n < 2 ^ 63 ∧ ∀ tk tk', Q (.int n tk') { s₁ with toks := tk }) E s) : wpAny (model prog w) A (call (.builtin "len") [.ref x]) Q E s := by
  refine Calls.call_function_entry kind_len plain_len entry_len (args_len1 _) ?_
  unfold Builtin.«len»
  refine wpAny_bind (m := oneArg "len" _) (wpAny_pure ?_)
  refine wpAny_bind (m := callSpecial? (.ref x) (PySem.Str.ofString "__len__")) (PySem.W.special_fn X I hs (beq_iff_eq.mp hf) (wpAny_mono h (fun r s' hr => ?_) fun _ _ y => y))
  obtain ⟨n, u, rfl, h0, h1, hq⟩ := hr
  refine wpAny_bind (wpAny_holding (wpAny_pure ?_))
  refine wpAny_bind (wpAny_letGo ?_)
  show wpAny _ _ (if n < 0 then _ else _) _ _ _
  rw [if_neg (by omega)]
  show wpAny _ _ (if n ≥ 2 ^ 63 then _ else _) _ _ _
  rw [if_neg (by omega)]
  exact wpAny_bind (wpAny_mkInt (wpAny_pure ⟨_, rfl, hq _ _⟩))
end
section
variable {Γ : Pg} {ξ : Xx} {X : Cx} {E : WX}
def gLenO (k : Nat) (den : List D → Store → Res) : D → Store → Res := fun x S => if isObj k x then match chk 1 den [x] S with
  | .ok (.int n) S' => if 0 ≤ n ∧ n < 2 ^ 63 then .ok (.int n) S' else .bad
  | _ => .bad
  else .bad
theorem cr_lenO {k j n : Nat} {g : Addr} {P : Program} {w : World} {mg : Str → Option Value} {base : Heap} {den : List D → Store → Res} (hh : Here Γ P w mg base n X E) (hs : PySem.W.findIn Γ.K (.ref (Γ.cl k)) "__len__" = some (some (.ref g))) (hf : PySem.W.isFn Γ.K (.ref g) = true) (G : CalR Γ P w mg base j g 1 den) (hj : j + 1 ≤ n := by decide) : CallR X (.builtin "len") (rC1 Γ (gLenO k den)) := by
  obtain ⟨h1, h2, h3, h4, h5, h6, h7⟩ := hh
  subst h1 h2 h4 h5
  intro pins s σ H vs us Q I r ⟨x, W, S, d, e, ok, rd, h⟩
  subst e
  unfold gLenO at h
  split at h
  case isFalse => exact h.elim
  rename_i hx
  obtain ⟨ds, rfl⟩ := isObj_of hx
  have rd' : Rep Γ W (.obj k ds) x := by
    rcases rd with rd | ⟨_, _, _, e, _⟩
    · exact rd
    · cases e
  obtain ⟨p, dx, ws, rfl, q2, q3⟩ := asI ok rd'
  obtain ⟨u, rfl, ru⟩ := r.one
  obtain rfl : u = Value.ref p := ru
  obtain ⟨o, od, J⟩ := objInst I q2
  split at h
  case h_2 => exact h.elim
  rename_i n' S' hn'
  split at h
  case isFalse => exact h.elim
  rename_i hr
  have run : wpAny (model X.prog X.w) X.A.in1 (call (.ref g) [.ref p]) (EP X pins σ (fun v H' => v = .int n' ∧ Q (.int n') H')) X.xe s := by
    refine wpAny_call (runA (us := [.ref p]) (vs := [.ref p]) (E := fun _ _ _ => False) (by rw [h3]; exact G.run) (Room.in1 (h6.mono hj)) I.env0.in1 (fun _ _ _ _ _ _ z => by
      obtain ⟨_, _, _, _, _, _, _, _, _, _, _, _, z⟩ := z
      exact z.elim) I (.cons rfl .nil) (spD_of ok (Reps.cons rd' Reps.nil) ?_))
    rw [hn']
    intro W' v H' l o rv
    simp only [Rep] at rv
    exact ⟨rv, h W' _ H' l o (by simp only [Rep])⟩
  refine len_own I.kIn J (by rw [h3]; exact hs) (by rw [h3]; exact hf) (wpAny_mono run (fun w s' z => ?_) fun _ _ x => x)
  obtain ⟨z', H', I', rz, ez, qz⟩ := z
  subst ez
  obtain ⟨t, e⟩ := (show ∃ t, w = Value.int n' t from rz)
  subst e
  exact ⟨n', t, rfl, hr.1, hr.2, fun tk tk' => ⟨.int n', H', I'.tok _, ⟨_, rfl⟩, qz⟩⟩

/-! ### list + list, tuple + tuple -/
theorem op_catL : OpR X (binaryOp .Add) (fun x y H Q => ∃ l b xs zs, x = .ref l ∧ y = .ref b ∧ SqL X.K H l xs ∧ SqL X.K H b zs ∧ xs.length + zs.length ≤ sizeLine ∧ ∀ p, H p = none → Q (.ref p) (upd H p (.lst (xs ++ zs)))) := by
  intro pins s σ H x y v u Q I rx ry h
  obtain ⟨l, b, xs, zs, rfl, rfl, hH, hB, hz, q⟩ := h
  cases rx
  cases ry
  obtain ⟨its, r, pl, _⟩ := I.list hH
  obtain ⟨its2, r2, pl2, _⟩ := I.list hB
  obtain ⟨⟨cls, dd, data, sl⟩, ho, hc, n, hd⟩ := pl.isList
  obtain ⟨⟨cls2, dd2, data2, sl2⟩, ho2, hc2, n2, hd2⟩ := pl2.isList
  simp only at hc hd hc2 hd2
  subst hc hd hc2 hd2
  have e : its.toArray ++ its2.toArray = (its ++ its2).toArray := by simp
  have z1 := r.length
  have z2 := r2.length
  refine concat_meets ⟨_, ho, rfl⟩ ⟨_, ho2, rfl⟩ noFill_list_add seq_list_add PySem.F.slot_list_add PySem.F.entry_list_add (PySem.F.args_list_add_2 _ _) (list_addW l b its.toArray its2.toArray n n2 dd dd2 sl sl2 (by rw [List.size_toArray, List.size_toArray]; omega)) ⟨ho, ho2, ?_⟩
  rw [e]
  exact ⟨.ref _, _, I.lnew (t' := s.toks) (r.append r2) (by rw [List.length_append]; omega), rfl, q _ I.fresh⟩
def gCat : D → D → Store → Res := fun x y S => match seqV S x, seqV S y with
  | some (false, xs, _), some (false, ys, _) => if xs.length + ys.length ≤ 16777216 then .ok (.lst (xs ++ ys)) S else .bad
  | some (true, xs, _), some (true, ys, _) => if xs.length + ys.length ≤ 16777216 then .ok (.tup (xs ++ ys)) S else .bad
  | _, _ => .bad
theorem op_gCat (hK : X.K = Γ.K) : OpR X (binaryOp .Add) (rD Γ gCat) := by
  intro pins s σ H x y v u Q I rx ry ⟨W, S, a, b, ok, ra, rb, h⟩
  unfold gCat at h
  split at h
  · rename_i xs g1 ys g2 hx hy
    split at h
    case isFalse => exact h.elim
    rename_i hz
    obtain ⟨p, rfl, ⟨vs, q1, q2⟩, _⟩ := src_of ok ra hx
    obtain ⟨p', rfl, ⟨vs', q1', q2'⟩, _⟩ := src_of ok rb hy
    refine op_catL pins s σ H _ _ v u Q I rx ry ⟨p, p', vs, vs', rfl, rfl, by rw [hK]; exact q1, by rw [hK]; exact q1', by rw [q2.length, q2'.length, sizeLine_eq]; exact hz, fun l hl => ?_⟩
    have le := Le.lay (o := .lst (vs ++ vs')) (ok.fresh hl).1
    exact h _ _ _ le (ok.lay hl _) (rep_lst ((q2.append q2').mono le.s))
  · rename_i xs g1 ys g2 hx hy
    split at h
    case isFalse => exact h.elim
    rename_i hz
    obtain ⟨p, rfl, ⟨vs, q1, q2⟩, _⟩ := src_of ok ra hx
    obtain ⟨p', rfl, ⟨vs', q1', q2'⟩, _⟩ := src_of ok rb hy
    have two : ∀ {d : D} {ds : List D} {g : Gd}, seqV S d = some (true, ds, g) → d = .tup ds := fun {d ds g} e => by
      cases d with
      | tup fs => cases e; rfl
      | cell c =>
        simp only [seqV] at e
        split at e <;> cases e
      | _ => cases e
    refine op_catA pins s σ H _ _ v u Q I rx ry ⟨p, p', vs, vs', rfl, rfl, by rw [hK]; exact q1, by rw [hK]; exact q1', by rw [q2.length, q2'.length, sizeLine_eq]; exact hz, fun e => ?_, fun _ e => ?_, fun _ _ l hl => ?_⟩
    · have : xs = [] := by
        subst e
        exact List.length_eq_zero_iff.mp (q2.length.symm)
      subst this
      have := two hy
      subst this
      exact h W _ H (Le.refl W) ok rb
    · have : ys = [] := by
        subst e
        exact List.length_eq_zero_iff.mp (q2'.length.symm)
      subst this
      have := two hx
      subst this
      rw [List.append_nil] at h
      exact h W _ H (Le.refl W) ok ra
    · have le := Le.lay (o := .tup (vs ++ vs')) (ok.fresh hl).1
      exact h _ _ _ le (ok.lay hl _) (rep_tup ((q2.append q2').mono le.s))
  · exact h.elim

/-! ### a local that holds a def -/
/-- which defs: the class-like number, the arguments, the function -/
abbrev Fns := List (Nat × Nat × (List D → Store → Res))
def fnAt (fs : Fns) (k : Nat) : Option (Nat × (List D → Store → Res)) := match fs with
  | [] => none
  | (j, n, f) :: r => if j = k then some (n, f) else fnAt r k
def eCallV (fs : Fns) (i : Nat) (a : AF) : EF := fun es S => match es[i]? with
  | some (.val (.cls k)) => match fnAt fs k with
    | some (n, f) => (a es S).bind fun ds S1 => (chk n f ds S1).nox
    | none => .bad
  | _ => .bad
structure Hld (Γ : Pg) (P : Program) (w : World) (mg : Str → Option Value) (base : Heap) (k : Nat) (c n : Nat) (den : List D → Store → Res) : Prop where
  ex : ∃ (fd : FuncData) (ps : List Str), FnOk P w Γ.K mg base (L2.CX P w) k (Γ.cl c) fd ps (spD Γ n den) ∧ PySem.W.keepIn Γ.K (.ref (Γ.cl c)) = true ∧ Binds Γ.K fd ps []
theorem hld_of {P : Program} {w : World} {mg : Str → Option Value} {base : Heap} {j k c n : Nat} {x : Str} {den : List D → Store → Res} (C : Cal Γ P w mg base j x n den) (h : mg x = some (.ref (Γ.cl c))) (hj : j ≤ k) : Hld Γ P w mg base k c n den := by
  obtain ⟨fa, fd, ps, F, h1, h2, h3⟩ := (C.mono hj).ex
  rw [h] at h1
  cases h1
  exact ⟨fd, ps, F, h2, h3⟩
theorem de_callV {i l : Nat} {x : Str} {e : Expr} {es : List Expr} {fa : AF} {p pos : Pos} {P : Program} {w : World} {mg : Str → Option Value} {base : Heap} {fs : Fns} (hh : Here Γ P w mg base l X E) (A : ∀ k n f, fnAt fs k = some (n, f) → Hld Γ P w mg base l k n f) (ha : PA X (e :: es) (dA Γ ξ fa E)) (hN : X.N[i]? = some x := by rfl) (hv : Vis X.env.scope x := by first | exact Or.inl rfl | exact Or.inr (Or.inl rfl) | exact Or.inr (Or.inr rfl))
    (hdb : (x == ("__debug__" : Str)) = false := by decide) (hcd : (x == ("__classdict__" : Str)) = false := by decide)
    (he : starEach (e :: es) X.env = (false, eval e X.env) :: starEach es X.env := by rfl) (hpl : (backTo pos (starEach es X.env)).any (·.1) = false := by rfl) : PE X (.Call (.Name x p) (e :: es) [] pos) (dE Γ ξ (eCallV fs i fa) E) := by
  obtain ⟨h1, h2, h3, h4, h5, h6, h7⟩ := hh
  subst h1 h2 h4 h5
  refine ⟨fun pins s σ H Q I ⟨W, es', S, P0, ok, fr, h⟩ => ?_⟩
  unfold eCallV at h
  split at h
  case h_2 => exact h.elim
  rename_i k hi
  split at h
  case h_2 => exact h.elim
  rename_i n f hf
  obtain ⟨fd, ps, F, hk, hb⟩ := (A k n f hf).ex
  obtain ⟨own, fr1, ow⟩ := id fr
  obtain ⟨v, q1, q2⟩ := fr1.val hi
  simp only [Rep] at q2
  subst q2
  refine wpAny_Call_Name_kw (thn ((pe_var (pos := p) hN hv hdb hcd).run pins s σ H (fun v H1 => v = .ref (Γ.cl k) ∧ H1 = H) I ⟨.ref (Γ.cl k), q1, rfl, rfl⟩) fun u s1 ⟨v, H1, I1, r1, e1, e2⟩ => ?_)
  subst e1 e2
  cases r1
  refine PySem.W.callWith_K (h₀ := X.base) I.ok.mod.kin (by rw [h3]; exact hk) (thn (ha.run pos pins s1 σ _ (fun vs H2 => ∃ W2 S2 ds2, Ok Γ W2 S2 H2 ∧ Reps Γ W2 ds2 vs ∧ Cont Γ (chk n f ds2 S2).nox W2 Q (at_ E σ)) I1 ⟨W, es', S, P0, ok, fr, ContA.bind h fun ds1 S1 W1 vs H1 le ok1 rs h1 => ⟨W1, S1, ds1, ok1, rs, h1⟩⟩) fun us s2 ⟨vs, H2, I2, r, W2, S2, ds2, ok2, rs, h2⟩ => ⟨I2.kIn, ?_⟩) he hpl
  have q := spD_of (E := at_ E σ) ok2 rs h2.nox
  rw [← List.append_nil vs] at q
  exact run_fnSD (E := fun σ => at_ E σ) (dvs := []) (ds := []) (by rw [h3]; exact F) h6 (by rw [h3]; exact hb) .nil (pass_of h7 σ) I2 r q

/-! ### o.append(e), o a list of others; o.clear() -/
def sAppC (fo fe : EF) : SF := fun es S => (fo es S).toS es fun o S1 => match o with
  | .cell c => (fe es S1).toS es fun d S2 => match S2[c]? with
    | some ds => if ds.length < 1000000 then .next es (S2.set c (ds ++ [d])) else .bad
    | none => .bad
  | _ => .bad
theorem ds_appC {o e : Expr} {fo fe : EF} {apos cpos pos : Pos} (hK : X.K = Γ.K)
    (P : PE X (.Call (.Attribute o "append" apos) [e] [] cpos) (tBM X.K "list" rAppend (dE Γ ξ fo E) (tCons (dE Γ ξ fe E) tNil))) (hs : swapsWith (.Call (.Attribute o "append" apos) [e] [] cpos) none pos.line X.env = pure false := by rfl) :
    PS X (.Expr (.Call (.Attribute o "append" apos) [e] [] cpos) pos) (dS Γ ξ (sAppC fo fe) E) := (ps_expr P hs).imp fun Dn σ H ⟨W, es, S, P0, ok, fr, h⟩ => by
  refine ⟨W, es, S, P0, ok, fr, ContS.toS fr h fun o S1 W1 ov H1 l1 ok1 r1 h1 => ?_⟩
  cases o with
  | cell c =>
    simp only [Rep] at r1
    obtain ⟨a, rfl, hm⟩ := r1
    obtain ⟨ds0, vs0, q1, q2, q3⟩ := ok1.cell hm
    refine ⟨.inl ⟨rfl, vs0, .inl (.inl q2)⟩, W1, es, S1, P0, ok1, fr.le l1, ContS.toS (fr.le l1) h1 fun d S2 W2 v H2 l2 ok2 rv h2 => ?_⟩
    split at h2
    case h_2 => exact h2.elim
    rename_i ds hc
    split at h2
    case isFalse => exact h2.elim
    rename_i hz
    have hm2 := l2.m _ _ hm
    obtain ⟨ds', vs, k1, k2, k3⟩ := ok2.cell hm2
    rw [hc] at k1
    obtain rfl := Option.some.inj k1
    exact ⟨a, vs, v, rfl, rfl, k2, by rw [k3.length, sizeLine_eq]; omega, h2 W2 σ _ (LeS.refl _) (ok2.cellSet hm2 (k3.append (Reps.cons rv Reps.nil))) ((fr.le l1).le l2)⟩
  | _ => exact h1.elim
def sClearC (fo : EF) : SF := fun es S => (fo es S).toS es fun o S1 => match o with
  | .cell c => match S1[c]? with
    | some _ => .next es (S1.set c [])
    | none => .bad
  | _ => .bad
theorem ds_clearC {o : Expr} {fo : EF} {apos cpos pos : Pos} (hK : X.K = Γ.K)
    (P : PE X (.Call (.Attribute o "clear" apos) [] [] cpos) (tBM0 X.K "list" rClear (dE Γ ξ fo E))) (hs : swapsWith (.Call (.Attribute o "clear" apos) [] [] cpos) none pos.line X.env = pure false := by rfl) :
    PS X (.Expr (.Call (.Attribute o "clear" apos) [] [] cpos) pos) (dS Γ ξ (sClearC fo) E) := (ps_expr P hs).imp fun Dn σ H ⟨W, es, S, P0, ok, fr, h⟩ => by
  refine ⟨W, es, S, P0, ok, fr, ContS.toS fr h fun o S1 W1 ov H1 l1 ok1 r1 h1 => ?_⟩
  cases o with
  | cell c =>
    simp only [Rep] at r1
    obtain ⟨a, rfl, hm⟩ := r1
    obtain ⟨ds0, vs0, q1, q2, q3⟩ := ok1.cell hm
    simp only [q1] at h1
    exact ⟨.inl ⟨rfl, vs0, .inl (.inl q2)⟩, a, vs0, rfl, rfl, q2, h1 W1 σ _ (LeS.refl _) (ok1.cellSet hm Reps.nil) (fr.le l1)⟩
  | _ => exact h1.elim

/-! ### list(x), to be changed later -/
def gListC : D → Store → Res := fun x S => match deref S x with
  | .lst ds => .ok (.cell S.length) (S ++ [ds])
  | .tup ds => .ok (.cell S.length) (S ++ [ds])
  | _ => .bad
theorem Ok.repCell {W : Wd} {S : Store} {H : Hp} (ok : Ok Γ W S H) {p : Addr} : Rep Γ (W.cell p) (.cell S.length) (.ref p) := by
  simp only [Rep]
  refine ⟨p, rfl, ?_⟩
  show (W.m ++ [p])[S.length]? = some p
  rw [← ok.len, List.getElem?_append_right (Nat.le_refl _)]
  simp
theorem cr_listC (hK : X.K = Γ.K) : CallR X (.type "list") (rC1 Γ gListC) := by
  intro pins s σ H vs us Q I r ⟨x, W, S, d, e, ok, rd, h⟩
  subst e
  have go : ∀ {p : Addr} {vs : List V} {ds : List D}, (SqL Γ.K H p vs ∨ SqT Γ.K H p vs) → Reps Γ W ds vs → x = .ref p → Cont Γ (.ok (.cell S.length) (S ++ [ds])) W Q (fun _ _ _ => False) → wpAny (model X.prog X.w) X.A (call (.type "list") us) (EP X pins σ Q) X.xe s := fun {p vs ds} h1 h2 hx h => by
    subst hx
    refine call_list_of pins s σ H _ us Q I r ⟨p, vs, rfl, by rw [hK]; exact h1, fun l hl => ?_⟩
    exact h _ _ _ Le.cell (ok.cellNew hl h2) ok.repCell
  unfold gListC at h
  split at h
  · rename_i ds hd
    obtain ⟨p, vs, hx, h1, h2⟩ := asL ok rd hd
    exact go (.inl h1) h2 hx h
  · rename_i ds hd
    obtain ⟨p, vs, hx, h1, h2⟩ := asT ok rd hd
    exact go (.inr h1) h2 hx h
  · exact h.elim

/-! ### xs[::-1] -/
def gRev : D → Store → Res := fun x S => match deref S x with
  | .lst ds => .ok (.lst ds.reverse) S
  | _ => .bad
theorem de_revL {e : Expr} {f : EF} {k : Nat} {p1 p2 p3 pos : Pos} (hK : X.K = Γ.K) (he : PE X e (dV Γ ξ f E)) : PE X (.Subscript e (.Slice none none (some (.UnaryOp .USub (.Constant (.int 1) k p1) p2)) p3) pos) (dE Γ ξ (eOp1 gRev f) E) := (pe_revL he).imp fun σ H Q ⟨W, es, S, P0, ok, fr, h⟩ => by
  refine ⟨W, es, S, P0, ok, fr, ContV.bind h fun d S1 W1 v H1 le ok1 rv h1 => ?_⟩
  have h1 := Cont.nox (E' := fun _ _ _ => False) h1
  unfold gRev at h1
  split at h1
  case h_2 => exact h1.elim
  rename_i ds hd
  obtain ⟨a, vs, rfl, q1, q2⟩ := asL ok1 rv hd
  refine ⟨a, vs, rfl, by rw [hK]; exact q1, fun p hp => ?_⟩
  have l : Le W1 (W1.lay p (.lst vs.reverse)) := Le.lay (ok1.fresh hp).1
  exact h1 _ _ _ l (ok1.lay hp _) (rep_lst ((Reps.rev q2).mono l.s))

/-! ### a tuple of texts of the module -/
def strsOf : List Value → Option (List Str)
  | [] => some []
  | .str x _ :: r => (strsOf r).map fun ys => x :: ys
  | _ :: _ => none
def tupB (K : PySem.W.Frag) (x : Str) (zs : List Str) : Bool := match PySem.W.nsIn K mainGlobals x with
  | some (some (.ref a)) => match K.lookup a with
    | some ⟨.type "tuple", _, .seq its _, _⟩ => decide (its.size ≤ 1000) && decide (strsOf its.toList = some zs)
    | _ => false
  | _ => false
theorem strsOf_vals : ∀ {us : List Value} {zs : List Str}, strsOf us = some zs → Vals (zs.map V.str) us
  | [], zs, h => by cases h; exact .nil
  | .str x t :: r, zs, h => by
    simp only [strsOf, Option.map_eq_some_iff] at h
    obtain ⟨ys, h1, rfl⟩ := h
    exact .cons ⟨t, rfl⟩ (strsOf_vals h1)
theorem Bs.tup {fn : List DefA} {cks : PySem.W.Frag → List Bool} {mg : Str → Option Value} (B : Bs fn cks Γ.K mg) {x : Str} {zs : List Str} (c : tupB Γ.K x zs = true) : GlobF Γ mg x (.tup (zs.map D.str)) := by
  obtain ⟨h, X, G⟩ := B.mg
  unfold tupB at c
  split at c
  case h_2 => cases c
  rename_i a ha
  split at c
  case h_2 => cases c
  rename_i dd its n sl hl
  obtain ⟨c1, c2⟩ := Bool.and_eq_true_iff.mp c
  have reps : ∀ (W : Wd) (zs : List Str), Reps Γ W (zs.map D.str) (zs.map V.str) := fun W zs => by
    induction zs with
    | nil => exact Reps.nil
    | cons n r ih => exact Reps.cons (by simp only [Rep]) ih
  refine ⟨.ref a, .ref a, PySem.W.mg_of X G ha, rfl, fun W => ?_⟩
  simp only [Rep]
  exact ⟨a, zs.map V.str, rfl, .inr ⟨_, its, n, hl, rfl, rfl, by rw [sizeLine_eq]; have := of_decide_eq_true c1; omega, strsOf_vals (of_decide_eq_true c2)⟩, reps W zs⟩
end
end DL
set_option Elab.async false
set_option linter.all false
set_option maxRecDepth 100000
set_option maxHeartbeats 2000000
set_option autoImplicit false
/-! The data layer, 25: joints for classes whose instances have a dict; defs in locals. -/
namespace DL
open PySem PySem.Spec PyProof.Rows L2 He
section
variable {Γ : Pg} {ξ : Xx} {X : Cx} {E : WX}
/-- if .. else .. as a test -/
theorem pt_ifExp {c a b : Expr} {tc ta tb : TT} {pos : Pos} (hc : PT X c tc) (ha : PT X a ta) (hb : PT X b tb) : PT X (.IfExp c a b pos) (fun σ H Q => tc σ H fun k H1 => if k = true then ta σ H1 Q else tb σ H1 Q) := by
  refine ⟨fun pins s σ H Q I h => ?_⟩
  refine isTrue_IfExp (thn (hc.run pins s σ H _ I h) fun d s1 ⟨H1, I1, q1⟩ => ?_)
  cases d with
  | true => exact ha.run pins s1 σ H1 Q I1 q1
  | false => exact hb.run pins s1 σ H1 Q I1 q1
theorem dt_if {c a b : Expr} {fc fa fb : EF} {pos : Pos} (hc : PT X c (dT Γ ξ fc E)) (ha : PT X a (dT Γ ξ fa E)) (hb : PT X b (dT Γ ξ fb E)) : PT X (.IfExp c a b pos) (dT Γ ξ (eIf fc fa fb) E) := by
  refine ⟨fun pins s σ H Q I ⟨W, es, S, P0, ok, fr, h⟩ => (pt_ifExp hc ha hb).run pins s σ H Q I ?_⟩
  refine ⟨W, es, S, P0, ok, fr, ?_⟩
  unfold eIf at h
  cases e : fc es S with
  | bad => rw [e] at h; exact h.elim
  | exc k fs S' => rw [e] at h; exact h
  | ok d S' =>
    rw [e] at h
    cases d with
    | bl b =>
      intro W1 H1 l o
      cases b with
      | true => rw [if_pos rfl]; exact ⟨W1, es, S', P0, o, fr.le l, ContB.le h l⟩
      | false => rw [if_neg Bool.false_ne_true]; exact ⟨W1, es, S', P0, o, fr.le l, ContB.le h l⟩
    | _ => exact h.elim
end
section
variable {Γ : Pg} {P : Program} {w : World} {mg : Str → Option Value} {base : Heap} {fn : List DefA} {cks : PySem.W.Frag → List Bool} {k : Nat}
theorem initC_of {d : DefA} {fd : FuncData} {N ps : List Str} {n m c : Nat} {body : SF} {fs : List EF} {ns : List Str} (F : FunD Γ.K d.name d.qual d.params d.body d.scope (d.dvs Γ.K) [] (d.at_ Γ.K) fd) (sc : FnScope N ps d.scope) (hn : ps.length = n + 1) (hN : N.length = m)
    (cC : ClF Γ c ns) (hz : ns.length < 900) (hl : fs.length = ns.length)
    (hb : ∀ (ξ : Xx) (cdv : Value) (A : Around) (outer : List Env) (s : Shared) (H : Hp) (Ex : XK), Room k (A.deeper (envOfC d.qual d.scope s.heap.objs.size (d.at_ Γ.K) cdv)) →
      PSs (cxOf (L2.CX P w) P w Γ.K mg base N d.qual d.scope (d.at_ Γ.K) cdv A outer s H Ex) d.body (tSeq (dS Γ ξ body (fun c' d' _ H => Ex c' d' H)) (tFs Γ.K Γ ξ (fun c' d' _ H => Ex c' d' H) ns fs))) :
    FnOk P w Γ.K mg base (L2.CX P w) (k + 1) (d.at_ Γ.K) fd ps (spC Γ c n ns (initC m body fs)) :=
  F.ok sc (spC_len hn) fun cdv A outer s H vs Q Ex hr hsp => by
    obtain ⟨ξ, z⟩ := enterC hN cC hz hl hsp
    exact ⟨_, hb ξ cdv A outer s H Ex hr, z⟩
theorem makC_of {d : DefA} {ps : List Str} {n c : Nat} {x : Str} {dfl : List D} {ns : List Str} {FF : List D → Store → ResA} (B : Bs fn cks Γ.K mg) (i : Nat) (hg : (Fa.glo x).ok Γ.K = true) (hmk : mkB Γ.K (ga Γ.K x) = true)
    (hI : ∀ fd, FunD Γ.K d.name d.qual d.params d.body d.scope (d.dvs Γ.K) [] (d.at_ Γ.K) fd → FnOk P w Γ.K mg base (L2.CX P w) k (d.at_ Γ.K) fd ps (spC Γ c n ns FF))
    (hbd : ∀ fd, FunD Γ.K d.name d.qual d.params d.body d.scope (d.dvs Γ.K) [] (d.at_ Γ.K) fd → ∃ (dvs : List V) (ds : List Value), Binds Γ.K fd ps ds ∧ Vals dvs ds ∧ ∀ W, Reps Γ W dfl dvs)
    (hd : fn[i]? = some d := by rfl) (ha : d.at_ Γ.K = ma Γ.K (ga Γ.K x) "__init__" := by rfl) (hc : Γ.cl c = ga Γ.K x := by rfl) (hat : Γ.at_ c = some ns := by rfl) : MakC Γ P w mg base k x c n ns dfl FF := by
  obtain ⟨fd, F⟩ := B.def_ d (List.mem_of_getElem? hd)
  obtain ⟨dvs, ds, b1, b2, b3⟩ := hbd fd F
  have z := hI fd F
  rw [ha] at z
  exact ⟨hat, _, fd, ps, ds, dvs, by rw [hc]; exact mkB_ok hmk, z, by rw [hc]; exact B.glo hg, b1, b2, b3⟩
abbrev Hlds (Γ : Pg) (P : Program) (w : World) (mg : Str → Option Value) (base : Heap) (l : Nat) (fs : Fns) : Prop := ∀ k n f, fnAt fs k = some (n, f) → Hld Γ P w mg base l k n f
theorem hlds_nil {l : Nat} : Hlds Γ P w mg base l [] := fun _ _ _ h => by cases h
theorem hlds_cons {l j n : Nat} {f : List D → Store → Res} {fs : Fns} (h : Hld Γ P w mg base l j n f) (r : Hlds Γ P w mg base l fs) : Hlds Γ P w mg base l ((j, n, f) :: fs) := fun k n' f' e => by
  unfold fnAt at e
  split at e
  · rename_i hj
    cases e
    rw [← hj]
    exact h
  · exact r k n' f' e
end
end DL
set_option Elab.async false
set_option linter.all false
set_option maxRecDepth 100000
set_option maxHeartbeats 2000000
set_option autoImplicit false
/-! The data layer, 26: a head's hook over a smaller fragment. -/
namespace DL
open PySem PySem.Spec PyProof.Rows L2 He
/-- what a def, a property of a class reaches -/
def sub2E (g : Addr → Option Obj) (b : Addr) : List Addr := match g b with
  | some o => (match o.dict with
    | some d => [d]
    | none => []) ++ match o.data with
    | .func fd => refV fd.code ++ refV fd.defaults
    | .fields vs => vs.toList.flatMap fun v => (refV v).flatMap fun c => c :: match g c with
      | some ⟨_, _, .func fd, _⟩ => refV fd.code
      | _ => []
    | _ => []
  | none => []
def subE (g : Addr → Option Obj) (a : Addr) : List Addr := match g a with
  | some o => (match o.dict with
    | some d => [d]
    | none => []) ++ match o.data with
    | .func fd => refV fd.code ++ refV fd.defaults
    | .cls cd => cd.ns :: match g cd.ns with
      | some ⟨_, _, .dict es _, _⟩ => es.toList.flatMap fun e => (refV e.val).flatMap fun b => b :: sub2E g b
      | _ => []
    | .seq its _ => its.toList.flatMap refV
    | _ => []
  | none => []
def asE (g : Addr → Option Obj) : List Addr := mainGlobals :: ((match g mainGlobals with
  | some ⟨_, _, .dict es _, _⟩ => es.toList.flatMap fun e => (refV e.val).flatMap fun a => a :: subE g a
  | _ => []) ++ [cStatics])
def obsEG (fn : List DefA) (ex : PySem.W.Frag → Bool) (g : Addr → Option Obj) : AlA := obsA fn ex (frG g (asE g))
def hookE (fn : List DefA) (ex : PySem.W.Frag → Bool) : PySem.W.Hook where
  α := AlA
  obs := fun s => obsEG fn ex s.heap.get?
  val := fun _ => valA fn
  says := fun _ h => ∃ K : PySem.W.Frag, K.In h ∧ SaysA fn ex K
  of := fun _ _ e => ⟨_, frG_in, saysA_of e⟩
  keeps := fun _ _ _ ⟨K, hK, c⟩ k => ⟨K, PySem.W.Frag.In.keeps hK k, c⟩
theorem obsEG_eq {fn : List DefA} {ex : PySem.W.Frag → Bool} {g : Addr → Option Obj} {s : Shared} (h : ∀ a, g a = s.heap.get? a) : obsEG fn ex g = (hookE fn ex).obs s := by
  have e : g = s.heap.get? := funext h
  rw [e] <;> rfl
end DL
set_option Elab.async false
set_option linter.all false
set_option maxRecDepth 100000
set_option maxHeartbeats 2000000
set_option autoImplicit false
/-! The data layer, 27: `in` and `.index` on lists of plain data of any depth. -/
namespace DL
open PySem PySem.Spec PyProof.Rows L2
section
variable {Γ : Pg} {ξ : Xx} {X : Cx} {E : WX}
theorem dp_T {W : Wd} {S : Store} {H : Hp} (ok : Ok Γ W S H) {d : D} {v : V} {p : PyData} (r : RepT Γ W d v) (t : toP (thw S d) = some p) : Dp Γ.K H v p := by
  rcases r with r | ⟨a, vs, ds, rfl, rfl, h3, h4⟩
  · exact dp_deref ok r t
  · simp only [thw, thc, toP, Option.map_eq_some_iff] at t
    obtain ⟨ps, t1, rfl⟩ := t
    exact .lst (.inl (.inl (ok.p _ _ h3).1)) (dps_thc ok.f (dp_cell ok 6) h4 t1)
/-- x in xs, x not in xs: the second one may be the frame's own list -/
def gInP (neg : Bool) : D → D → Store → Res := fun x y S => match toP (thw S x), toP (thw S y) with
  | some p, some (.list ps) => if SeqAt.shaped p && SeqAt.shaped (.list ps) then .ok (.bl (xor neg (ps.any fun z => PyData.eqv z p))) S else .bad
  | _, _ => .bad
def rW2 (Γ : Pg) (g : D → D → Store → Res) : R2 := fun x y H Q => ∃ W S a b, Ok Γ W S H ∧ Rep Γ W a x ∧ RepT Γ W b y ∧ Cont Γ (g a b S) W Q (fun _ _ _ => False)
theorem tOpW_of {g : D → D → Store → Res} {fa fb : EF} {σ : L2.St} {H : Hp} {Q : VK} (h : dE Γ ξ (eOp2 g fa fb) E σ H Q) : tOp (rW2 Γ g) (dE Γ ξ fa E) (dV Γ ξ fb E) σ H Q := by
  obtain ⟨W, es, S, P0, ok, fr, h⟩ := h
  refine ⟨W, es, S, P0, ok, fr, h.bind fun d S1 W1 v H1 le ok1 rv h1 => ?_⟩
  refine ⟨W1, es, S1, P0, ok1, fr.le le, ContV.bind h1 fun d2 S2 W2 v2 H2 le2 ok2 rv2 h2 => ?_⟩
  exact ⟨W2, S2, d, d2, ok2, rv.mono le2.s, rv2, h2.nox⟩
theorem op_gInP (hK : X.K = Γ.K) (hu : X.A.units + 65 < cLine) : OpR X (compareOp .In) (rW2 Γ (gInP false)) := by
  intro pins s σ H x y v u Q I rx ry ⟨W, S, a, b, ok, ra, rb, h⟩
  unfold gInP at h
  split at h
  · rename_i p ps hp hq
    split at h
    · rename_i hs
      have hs := Bool.and_eq_true_iff.mp hs
      exact op_inD hu pins s σ H x y v u Q I rx ry ⟨p, ps, by rw [hK]; exact dp_deref ok ra hp, by rw [hK]; exact dp_T ok rb hq, hs.1, hs.2, h W _ H (Le.refl W) ok (by simp only [Rep, Bool.false_xor])⟩
    · exact h.elim
  · exact h.elim
theorem op_gInPn (hK : X.K = Γ.K) (hu : X.A.units + 65 < cLine) : OpR X (compareOp .NotIn) (rW2 Γ (gInP true)) := by
  intro pins s σ H x y v u Q I rx ry ⟨W, S, a, b, ok, ra, rb, h⟩
  unfold gInP at h
  split at h
  · rename_i p ps hp hq
    split at h
    · rename_i hs
      have hs := Bool.and_eq_true_iff.mp hs
      exact op_notInD hu pins s σ H x y v u Q I rx ry ⟨p, ps, by rw [hK]; exact dp_deref ok ra hp, by rw [hK]; exact dp_T ok rb hq, hs.1, hs.2, h W _ H (Le.refl W) ok (by simp only [Rep, Bool.true_xor])⟩
    · exact h.elim
  · exact h.elim
theorem de_cmpW {op : CmpOp} {a b : Expr} {fa fb : EF} {g : D → D → Store → Res} {pos : Pos} (ho : OpR X (compareOp op) (rW2 Γ g)) (ha : PE X a (dE Γ ξ fa E)) (hb : PE X b (dV Γ ξ fb E)) (hm : behindInMarks op b = false := by rfl) : PE X (.Compare a [op] [b] pos) (dE Γ ξ (eOp2 g fa fb) E) :=
  (pe_cmpR ho ha hb hm).imp fun σ H Q h => tOpW_of h
theorem dt_cmpW {op : CmpOp} {a b : Expr} {fa fb : EF} {g : D → D → Store → Res} {pos : Pos} (ho : OpR X (compareOp op) (rW2 Γ g)) (ha : PE X a (dE Γ ξ fa E)) (hb : PE X b (dV Γ ξ fb E)) (hm : behindInMarks op b = false := by rfl) : PT X (.Compare a [op] [b] pos) (dT Γ ξ (eOp2 g fa fb) E) :=
  (pt_cmpR ho ha hb hm).imp fun σ H Q ⟨W, es, S, P0, ok, fr, h⟩ => tOpW_of ⟨W, es, S, P0, ok, fr, h.val⟩
theorem u65_of (h : X.A.units + 66 < cLine) : X.A.units + 65 < cLine := Nat.lt_of_succ_lt h
/-! ### a method of a list with one argument, that changes nothing -/
def isLs (S : Store) (d : D) : Bool := match deref S d with
  | .lst _ => true
  | _ => false
def eMt (g : D → D → Store → Res) (fo fe : EF) : EF := fun es S => (fo es S).bind fun d S1 => if isLs S1 d then (fe es S1).bind fun e S2 => (g d e S2).nox else .bad
def rM1 (Γ : Pg) (g : D → D → Store → Res) : V → List V → Hp → VK → Prop := fun x xs H Q => ∃ W S a b v, xs = [v] ∧ Ok Γ W S H ∧ RepT Γ W a x ∧ Rep Γ W b v ∧ Cont Γ (g a b S) W Q (fun _ _ _ => False)
def gIdx : D → D → Store → Res := fun x y S => match toP (thw S x), toP (thw S y) with
  | some (.list ps), some p => if SeqAt.shaped (.list ps) && SeqAt.shaped p then match ps.findIdx? (fun z => PyData.eqv z p) with
    | some j => .ok (.int j) S
    | none => .bad
    else .bad
  | _, _ => .bad
theorem mt_gIdx (hK : X.K = Γ.K) (hu : X.A.units + 65 < cLine) : MtR X "list.index" (rM1 Γ gIdx) := by
  intro pins s σ H x xs v us Q I rx rxs ⟨W, S, a, b, y, e, ok, ra, rb, h⟩
  subst e
  unfold gIdx at h
  split at h
  · rename_i ps p hq hp
    split at h
    · rename_i hs
      have hs := Bool.and_eq_true_iff.mp hs
      split at h
      · rename_i j hj
        rw [List.findIdx?_eq_some_iff_getElem] at hj
        obtain ⟨hl, h1, h2⟩ := hj
        have dl := dp_T ok ra hq
        have dy := dp_deref ok rb hp
        obtain ⟨ad, rfl⟩ : ∃ ad, x = V.ref ad := by cases dl; exact ⟨_, rfl⟩
        exact mt_indexD hu pins s σ H _ _ v us Q I rx rxs ⟨ad, y, p, ps, j, ps[j], rfl, rfl, by rw [hK]; exact dl, by rw [hK]; exact dy, hs.1, hs.2, List.getElem?_eq_getElem hl, h1, fun m z' hm hz => by
          obtain ⟨hm2, rfl⟩ := List.getElem?_eq_some_iff.mp hz
          exact Bool.eq_false_iff.mpr (h2 m hm), h W _ H (Le.refl W) ok (by simp only [Rep])⟩
      · exact h.elim
    · exact h.elim
  · exact h.elim
theorem tBM_of {g : D → D → Store → Res} {fo fe : EF} {σ : L2.St} {H : Hp} {Q : VK} (h : dE Γ ξ (eMt g fo fe) E σ H Q) : tBM Γ.K "list" (rM1 Γ g) (dV Γ ξ fo E) (tCons (dE Γ ξ fe E) tNil) σ H Q := by
  obtain ⟨W, es, S, P0, ok, fr, h⟩ := h
  refine ⟨W, es, S, P0, ok, fr, ContV.bind h fun d S1 W1 v H1 le ok1 rv h1 => ?_⟩
  split at h1
  · rename_i hl
    have hl' : ∃ ds, deref S1 d = .lst ds := by
      unfold isLs at hl
      split at hl
      · rename_i ds e
        exact ⟨ds, e⟩
      · cases hl
    obtain ⟨ds, hd⟩ := hl'
    obtain ⟨a, vs, rfl, h2, _⟩ := asL ok1 rv hd
    refine ⟨.inl ⟨rfl, vs, h2⟩, W1, es, S1, P0, ok1, fr.le le, h1.bind fun e S2 W2 v2 H2 le2 ok2 rv2 h3 => ?_⟩
    exact ⟨W2, S2, d, e, v2, rfl, ok2, rv.mono le2, rv2, h3.nox⟩
  · exact h1.elim
theorem de_idx {o e : Expr} {fo fe : EF} {apos cpos : Pos} (hK : X.K = Γ.K) (hu : X.A.units + 65 < cLine) (hty : typeOf (.builtin "list.index") = pure (.type "method_descriptor")) (ho : PE X o (dV Γ ξ fo E)) (he : PE X e (dE Γ ξ fe E))
    (hbase : attributeBase o "index" X.env (eval o X.env) = eval o X.env := by rfl)
    (hfew : ((backTo cpos (starEach [e] X.env)).all (fun x => !x.1) && (backToKw cpos (keywordEach [] X.env)).all (fun x => x.1.isSome)
      && decide ([e].length + ([] : List Keyword).length + (if ([] : List Keyword).isEmpty then 0 else 1) < 30)) = true := by rfl)
    (hline : (apos.endLine == cpos.line) = true := by rfl) (hs : starEach [e] X.env = (false, eval e X.env) :: starEach [] X.env := by rfl) (hplain : (backTo cpos (starEach [] X.env)).any (·.1) = false := by rfl) :
    PE X (.Call (.Attribute o "index" apos) [e] [] cpos) (dE Γ ξ (eMt gIdx fo fe) E) :=
  (pe_bm PySem.F.plainAttrs_list PySem.F.slot_list_index hty (mt_gIdx (Γ := Γ) hK hu) ho (pa_cons he pa_nil hs) hbase hfew hline hs hplain).imp fun σ H Q h => by
    rw [hK]
    exact tBM_of h
end
end DL
set_option Elab.async false
set_option linter.all false
set_option maxRecDepth 100000
set_option maxHeartbeats 2000000
set_option autoImplicit false
/-! The data layer, 28: x += e, x -= e with integers. -/
namespace DL
open PySem PySem.Spec PyProof.Rows L2
section
variable {Γ : Pg} {ξ : Xx} {X : Cx} {E : WX}
/-- x op= e -/
def sInc (i : Nat) (o : Int → Int → Int) (f : EF) : SF := fun es S => match es[i]? with
  | some (.val (.int k)) => (f es S).toS es fun d S1 => match d with
    | .int j => .next (es.set i (.val (.int (o k j)))) S1
    | _ => .bad
  | _ => .bad
theorem ds_inc {op : Operator} {o : Int → Int → Int} {i : Nat} {x : Str} {e : Expr} {f : EF} {pos pos' : Pos} (ho : PIp X op (ipI o)) (hN : X.N.Nodup) (he : PE X e (dE Γ ξ f E)) (hi : X.N[i]? = some x := by rfl) (hx : Loc X.env.scope x := by first | exact Or.inl rfl | exact Or.inr rfl)
    (hf : X.fn x = true ∨ X.env.scope.names.lookup x = some .local := by first | exact .inl rfl | exact .inr rfl | assumption) : PS X (.AugAssign (.Name x pos') op e pos) (dS Γ ξ (sInc i o f) E) :=
  (ps_aug hN hi hx he ho hf).imp fun Dn σ H ⟨W, es, S, P0, ok, fr, h⟩ => by
    unfold sInc at h
    split at h
    · rename_i k hk
      obtain ⟨v, hv1, hv2⟩ : ∃ v, σ[i]? = some (some v) ∧ Rep Γ W (.int k) v := by
        obtain ⟨own, fr', ow⟩ := fr
        exact fr'.val hk
      simp only [Rep] at hv2
      subst hv2
      refine ⟨_, hv1, W, es, S, P0, ok, fr, ContS.toS fr h fun d S1 W1 v H1 le ok1 rv h1 => ?_⟩
      cases d with
      | int j =>
        simp only [Rep] at rv
        subst rv
        refine ⟨k, j, rfl, rfl, ?_⟩
        obtain ⟨W', e, ok', fr''⟩ := Frame.set (d := .int (o k j)) (v := .int (o k j)) ok1 (fr.le le) (by simp only [Rep]) i
        exact h1 W' _ H1 e.le ok' fr''
      | _ => exact h1.elim
    · exact h.elim
end
end DL
set_option Elab.async false
set_option linter.all false
set_option maxRecDepth 100000
set_option maxHeartbeats 2000000
set_option autoImplicit false
/-! The data layer, 29: o.pop() of a list in a cell. -/
namespace DL
open PySem PySem.Spec PyProof.Rows L2
section
variable {Γ : Pg} {ξ : Xx} {X : Cx} {E : WX}
theorem Reps.dropLast {W : Wd} : ∀ {ds : List D} {vs : List V}, Reps Γ W ds vs → Reps Γ W ds.dropLast vs.dropLast
  | [], vs, h => by simp only [Reps] at h; subst h; exact Reps.nil
  | [d], vs, h => by
    simp only [Reps] at h
    obtain ⟨v, vs', rfl, h1, rfl⟩ := h
    exact Reps.nil
  | d :: d2 :: ds, vs, h => by
    simp only [Reps] at h
    obtain ⟨v, vs', rfl, h1, h2⟩ := h
    obtain ⟨v2, vs2, rfl, h3, h4⟩ := h2
    have := Reps.dropLast (ds := d2 :: ds) (vs := v2 :: vs2) (by simp only [Reps]; exact ⟨v2, vs2, rfl, h3, h4⟩)
    simp only [List.dropLast_cons_cons]
    exact Reps.cons h1 this
/-- the value is dropped -/
def sPopC (fo : EF) : SF := fun es S => (fo es S).toS es fun o S1 => match o with
  | .cell c => match S1[c]? with
    | some ds => if ds.isEmpty then .bad else .next es (S1.set c ds.dropLast)
    | none => .bad
  | _ => .bad
theorem ds_popC {o : Expr} {fo : EF} {apos cpos pos : Pos} (hK : X.K = Γ.K)
    (P : PE X (.Call (.Attribute o "pop" apos) [] [] cpos) (tBM0 X.K "list" rPop (dE Γ ξ fo E))) (hs : swapsWith (.Call (.Attribute o "pop" apos) [] [] cpos) none pos.line X.env = pure false := by rfl) :
    PS X (.Expr (.Call (.Attribute o "pop" apos) [] [] cpos) pos) (dS Γ ξ (sPopC fo) E) := (ps_expr P hs).imp fun Dn σ H ⟨W, es, S, P0, ok, fr, h⟩ => by
  refine ⟨W, es, S, P0, ok, fr, ContS.toS fr h fun o S1 W1 ov H1 l1 ok1 r1 h1 => ?_⟩
  cases o with
  | cell c =>
    simp only [Rep] at r1
    obtain ⟨a, rfl, hm⟩ := r1
    obtain ⟨ds0, vs0, q1, q2, q3⟩ := ok1.cell hm
    simp only [q1] at h1
    split at h1
    case isTrue => exact h1.elim
    rename_i hne
    have hd : ds0 ≠ [] := fun e => hne (by rw [e]; rfl)
    have hv : 0 < vs0.length := by
      rw [q3.length]
      exact List.length_pos_iff.mpr hd
    exact ⟨.inl ⟨rfl, vs0, .inl (.inl q2)⟩, a, vs0, _, rfl, rfl, q2, List.getElem?_eq_getElem (by omega), h1 W1 σ _ (LeS.refl _) (ok1.cellSet hm q3.dropLast) (fr.le l1)⟩
  | _ => exact h1.elim
end
end DL
set_option Elab.async false
set_option linter.all false
set_option maxRecDepth 100000
set_option maxHeartbeats 2000000
set_option autoImplicit false
/-! The data layer, 30: x != y, x an instance of an own class that has __eq__ and no __ne__. -/
namespace DL
open PySem PySem.Spec PyProof.Rows L2 He
section
variable {prog : Program} {w : World} {A : Around} {E : Value → Shared → Prop} {s : Shared} {K : PySem.W.Frag} {x C f : Addr} {ox : Obj} {odd : Option Obj} {b tb : Value}
theorem objNe_K {Q : Fin → Shared → Prop} (X : K.In s.heap) (I : PySem.W.InstAt s.heap x ox C odd) (hs : PySem.W.findIn K (.ref C) "__eq__" = some (some (.ref f))) (hf : PySem.W.isFn K (.ref f) = true) (hu : A.units < cLine)
    (h : wpAny (model prog w) A (call (.ref f) [.ref x, b]) (fun v s' => ∃ c, v = .bool c ∧ Q (.done (.ret (.bool (!c)))) s') E s) : wpAny (model prog w) A (Builtin.«object.__ne__» ⟨[.ref x, b], []⟩) Q E s := by
  unfold Builtin.«object.__ne__»
  repeat (first
    | with_reducible refine wpAny_cRoomFor hu ?_
    | (refine wpAny_bind (m := callSpecialIfBound? (.ref x) (PySem.Str.ofString "__eq__") [b])
        (PySem.W.ifBound_K X I hs hf (wpAny_mono h (fun r s' hr => by
          obtain ⟨c, rfl, hq⟩ := hr
          repeat (first | exact hq | exact wpAny_pure hq | exact wpAny_truthy_bool hq | (refine wpAny_bind (m := truthy (.bool _)) (wpAny_truthy_bool ?_)) | wp_step)) fun _ _ e => e)))
    | wp_step)
theorem tryNe_K {Q : Option Value → Shared → Prop} (X : K.In s.heap) (I : PySem.W.InstAt s.heap x ox C odd) (hne : PySem.W.findIn K (.ref C) "__ne__" = some (some (.builtin "object.__ne__"))) (hm : PySem.W.mroIn K C (.type "object") = some true)
    (hs : PySem.W.findIn K (.ref C) "__eq__" = some (some (.ref f))) (hf : PySem.W.isFn K (.ref f) = true) (hu : A.units + 1 < cLine)
    (h : wpAny (model prog w) A.in1 (call (.ref f) [.ref x, b]) (fun v s' => ∃ c, v = .bool c ∧ Q (some (.bool (!c))) s') E s) : wpAny (model prog w) A (tryCompare (.ref x) "__ne__" b) Q E s := by
  unfold tryCompare
  refine wpAny_bind ?_
  simp only [callSpecialIfBound?, bindSpecialIfBound?]
  refine wpAny_holding (wpAny_bind (wpAny_bind (wpAny_bind (I.type.here ((PySem.W.looks_findIn X hne).here ?_)))))
  simp only [PySem.F.cmp_object.ne.bind]
  refine wpAny_bind (wpAny_askSetting (wpAny_ite ?_))
  have hi : PySem.W.Looks (model prog w) s.heap (isInstance (.ref x) (.type "object")) true := I.type.andThen (PySem.W.looks_mroIn X hm)
  have fin : wpAny (model prog w) A (call (.builtin "object.__ne__") ([.ref x] ++ [b]) >>= fun v => pure (some v)) (fun r s' => wpAny (model prog w) A (match r with | some .notImplemented | none => pure none | some v => pure (some v)) Q E s') E s :=
    wpAny_bind (wpAny_call (codeAny_call_builtin PySem.F.cmp_object.ne.plain PySem.F.cmpEntry_ne (PySem.W.check_slot PySem.F.cmpKind_ne PySem.F.cmpSplit_ne hi (PySem.F.cmpArgs_ne _ _) (objNe_K (A := A.in1) X I hs hf hu (wpAny_mono h (fun v s' hv => by
      obtain ⟨c, rfl, hq⟩ := hv
      first | exact ⟨c, rfl, wpAny_pure (wpAny_pure hq)⟩ | exact ⟨c, rfl, wpAny_pure hq⟩ | exact ⟨c, rfl, hq⟩) fun _ _ e => e)))))
  split
  · exact wpAny_bind (wpAny_pure (wpAny_pure fin))
  · exact wpAny_tryCatch (wpAny_bind (wpAny_pure (wpAny_pure fin)))
theorem cmpNe_K {Q : Value → Shared → Prop} (X : K.In s.heap) (I : PySem.W.InstAt s.heap x ox C odd) (hb : PySem.W.Looks (model prog w) s.heap (typeOf b) tb) (hn : PySem.W.notFirst K C tb = true) (hne : PySem.W.findIn K (.ref C) "__ne__" = some (some (.builtin "object.__ne__"))) (hm : PySem.W.mroIn K C (.type "object") = some true)
    (hs : PySem.W.findIn K (.ref C) "__eq__" = some (some (.ref f))) (hf : PySem.W.isFn K (.ref f) = true) (hu : A.units + 1 < cLine)
    (h : wpAny (model prog w) A.in1 (call (.ref f) [.ref x, b]) (fun v s' => ∃ c, v = .bool c ∧ Q (.bool (!c)) s') E s) : wpAny (model prog w) A (compareOp .NotEq (.ref x) b) Q E s := by
  have one : wpAny (model prog w) A (tryCompare (.ref x) "__ne__" b) (fun r s' => ∃ v, r = some v ∧ Q v s') E s := tryNe_K X I hne hm hs hf hu (wpAny_mono h (fun v s' hv => by
    obtain ⟨c, rfl, hq⟩ := hv
    exact ⟨c, rfl, _, rfl, hq⟩) fun _ _ e => e)
  show wpAny _ _ (richCompare .NotEq (.ref x) b) _ _ _
  unfold richCompare
  simp only [PySem.oneThing_ref]
  refine wpAny_holding (wpAny_bind (wpAny_cRoomFor (Nat.lt_of_succ_lt hu) ?_))
  refine wpAny_bind (I.type.here (wpAny_bind (hb.here ?_)))
  split
  · rename_i q
    have e : PySem.W.subIn K tb (.ref C) = some false := by
      rcases Bool.or_eq_true_iff.mp hn with e | e
      · rw [beq_iff_eq.mp e] at q; simp at q
      · exact beq_iff_eq.mp e
    refine wpAny_bind ((PySem.W.looks_subIn X e).here ?_)
    simp only [Bool.false_eq_true, if_false]
    refine wpAny_bind (wpAny_mono one (fun r s' z => ?_) fun _ _ e => e)
    obtain ⟨v, rfl, hq⟩ := z
    exact wpAny_pure hq
  · refine wpAny_bind (wpAny_pure ?_)
    simp only [Bool.false_eq_true, if_false]
    refine wpAny_bind (wpAny_mono one (fun r s' z => ?_) fun _ _ e => e)
    obtain ⟨v, rfl, hq⟩ := z
    exact wpAny_pure hq
end
section
variable {Γ : Pg} {ξ : Xx} {X : Cx} {E : WX}
def notR : Res → Res
  | .ok (.bl b) S => .ok (.bl (!b)) S
  | _ => .bad
def gOwnNe (cs : List Nat) (k : Nat) (den : List D → Store → Res) : D → D → Store → Res := fun x y S => notR (gOwnEq cs k den x y S)
structure NeF (Γ : Pg) (k : Nat) : Prop where
  hne : PySem.W.findIn Γ.K (.ref (Γ.cl k)) "__ne__" = some (some (.builtin "object.__ne__"))
  hm : PySem.W.mroIn Γ.K (Γ.cl k) (.type "object") = some true
def neB (K : PySem.W.Frag) (C : Addr) : Bool := eqO (PySem.W.findIn K (.ref C) "__ne__") (some (some (.builtin "object.__ne__"))) && bOB (PySem.W.mroIn K C (.type "object")) (some true)
theorem neB_ok {k : Nat} (h : neB Γ.K (Γ.cl k) = true) : NeF Γ k := by
  unfold neB at h
  obtain ⟨h1, h2⟩ := Bool.and_eq_true_iff.mp h
  exact ⟨eqO_ok h1, bOB_ok h2⟩
theorem op_ownNe {cs : List Nat} {k j n : Nat} {g : Addr} {P : Program} {w : World} {mg : Str → Option Value} {base : Heap} {den : List D → Store → Res} (hh : Here Γ P w mg base n X E) (b : EqF Γ cs k g) (z : NeF Γ k) (G : CalR Γ P w mg base j g 2 den) (hj : j + 1 ≤ n := by decide) : OpR X (compareOp .NotEq) (rD Γ (gOwnNe cs k den)) := by
  obtain ⟨h1, h2, h3, h4, h5, h6, h7⟩ := hh
  subst h1 h2 h4 h5
  intro pins s σ H x y v u Q I rx ry ⟨W, S, a, b', ok, ra, rb, h⟩
  unfold gOwnNe gOwnEq at h
  split at h
  case isFalse => exact h.elim
  rename_i hx
  obtain ⟨ds, rfl⟩ := isObj_of hx
  obtain ⟨p, dx, vs, rfl, q2, q3⟩ := asI ok ra
  obtain rfl : v = Value.ref p := rx
  obtain ⟨m, hF⟩ := I.fr
  obtain ⟨o, od, J⟩ := objInst I q2
  have run : Cont Γ (notR (chk 2 den [.obj k ds, b'] S)) W Q (fun _ _ _ => False) → wpAny (model X.prog X.w) X.A.in1 (call (.ref g) [.ref p, u]) (fun v s' => ∃ c, v = .bool c ∧ EP X pins σ Q (.bool (!c)) s') X.xe s := fun h' => by
    obtain ⟨c, S', hc⟩ : ∃ c S', chk 2 den [.obj k ds, b'] S = .ok (.bl c) S' := by
      unfold notR at h'
      split at h'
      · rename_i c S' e
        exact ⟨c, S', e⟩
      · exact h'.elim
    rw [hc] at h'
    refine wpAny_mono (wpAny_call (runA (Q := fun v H' => v = .bl c ∧ Q (.bl (!c)) H') (us := [.ref p, u]) (vs := [.ref p, y]) (E := fun _ _ _ => False) (by rw [h3]; exact G.run) (Room.in1 (h6.mono hj)) I.env0.in1 (fun _ _ _ _ _ _ z => by
      obtain ⟨_, _, _, _, _, _, _, _, _, _, _, _, z⟩ := z
      exact z.elim) I (.cons rfl (.cons ry .nil)) (spD_of ok (Reps.cons ra (Reps.cons rb Reps.nil)) (by
        rw [hc]
        intro W' v H' l o rv
        simp only [Rep] at rv
        exact ⟨rv, h' W' _ H' l o (by simp only [Rep])⟩)))) (fun w s' z => ?_) fun _ _ x => x
    obtain ⟨z', H', I', rz, ez, qz⟩ := z
    subst ez
    obtain rfl : w = Value.bool c := rz
    exact ⟨c, rfl, .bl (!c), H', I', rfl, qz⟩
  split at h
  · rename_i t hk
    obtain ⟨P, Z, pz, _⟩ := kit_of I ry (show TyX X.K H y (.type t) by rw [h3]; exact tyX ok rb hk)
    exact cmpNe_K I.kIn J (Z.ty _ _ I.kIn pz) (by rw [h3]; exact b.hb t (kind_mem hk)) (by rw [h3]; exact z.hne) (by rw [h3]; exact z.hm) (by rw [h3]; exact b.hs) (by rw [h3]; exact b.hf) (Nat.lt_of_le_of_lt (Nat.add_le_add_left (by decide) _) h6.units) (run h)
  · rename_i j ds' hk
    split at h
    case isFalse => exact h.elim
    rename_i hj'
    obtain ⟨p', dx', vs', rfl, q2', q3'⟩ := asI ok rb
    obtain rfl : u = Value.ref p' := ry
    obtain ⟨o', od', J'⟩ := objInst I q2'
    exact cmpNe_K I.kIn J J'.type (by rw [h3]; exact b.hc j hj') (by rw [h3]; exact z.hne) (by rw [h3]; exact z.hm) (by rw [h3]; exact b.hs) (by rw [h3]; exact b.hf) (Nat.lt_of_le_of_lt (Nat.add_le_add_left (by decide) _) h6.units) (run h)
  · exact h.elim

/-! ### a, b, c = x, y, z -/
def sPar3 (i j l : Nat) (a : AF) : SF := fun es S => match a es S with
  | .ok [d1, d2, d3] S1 => .next (((es.set i (.val d1)).set j (.val d2)).set l (.val d3)) S1
  | .exc k fs S1 => .exc k fs es S1
  | _ => .bad
theorem ds_par3 {i j l : Nat} {x y z : Str} {a b c : Expr} {f : AF} {px py pz pt pos : Pos} {kt k2 pt2} (hc : X.calm = true) (hN : X.N.Nodup) (ha : PA X [a, b, c] (dA Γ ξ f E)) (hi : X.N[i]? = some x := by rfl) (hj : X.N[j]? = some y := by rfl) (hl : X.N[l]? = some z := by rfl)
    (hij : i ≠ j := by decide) (hil : i ≠ l := by decide) (hjl : j ≠ l := by decide)
    (hx : X.env.scope.names.lookup x = some .local := by rfl) (hy : X.env.scope.names.lookup y = some .local := by rfl) (hz : X.env.scope.names.lookup z = some .local := by rfl)
    (hw : swappedStores [.Tuple [.Name x px, .Name y py, .Name z pz] kt pt] (.Tuple [a, b, c] k2 pt2) X.env = pure (some [x, y, z]) := by rfl)
    (hs : swapsWithSole [.Tuple [.Name x px, .Name y py, .Name z pz] kt pt] (.Tuple [a, b, c] k2 pt2) pos.line X.env = pure false := by rfl) : PS X (.Assign [.Tuple [.Name x px, .Name y py, .Name z pz] kt pt] (.Tuple [a, b, c] k2 pt2) pos) (dS Γ ξ (sPar3 i j l f) E) :=
  (ps_par3 hc hN hi hj hl hij hil hjl hx hy hz ha hw hs).imp fun Dn σ H ⟨W, es, S, P0, ok, fr, h⟩ => by
    refine ⟨W, es, S, P0, ok, fr, ?_⟩
    unfold sPar3 at h
    split at h
    · rename_i d1 d2 d3 S1 e
      rw [e]
      intro W1 vs H1 le ok1 rs
      simp only [Reps] at rs
      obtain ⟨v1, _, rfl, r1, v2, _, rfl, r2, v3, _, rfl, r3, rfl⟩ := rs
      obtain ⟨W2, e2, ok2, fr2⟩ := Frame.set ok1 (fr.le le) r1 i
      obtain ⟨W3, e3, ok3, fr3⟩ := Frame.set ok2 fr2 (r2.mono e2.le) j
      obtain ⟨W4, e4, ok4, fr4⟩ := Frame.set ok3 fr3 (r3.mono (e2.le.trans e3.le)) l
      exact ⟨v1, v2, v3, rfl, h W4 _ H1 (le.s.trans (e2.le.trans (e3.le.trans e4.le))) ok4 fr4⟩
    · rename_i k fs S1 e
      rw [e]
      exact fun W1 d H1 l o rx => h W1 σ d H1 l.s o (fr.le l) rx
    · exact h.elim
end
end DL
set_option Elab.async false
set_option linter.all false
set_option maxRecDepth 100000
set_option maxHeartbeats 2000000
set_option autoImplicit false
namespace FR
/-! ### lists without a thing twice, all from a short list -/
theorem nodup_le {α : Type} [DecidableEq α] : ∀ (l m : List α), l.Nodup → (∀ x ∈ l, x ∈ m) → l.length ≤ m.length
  | [], m, _, _ => Nat.zero_le _
  | x :: l, m, h, hs => by
    obtain ⟨h1, h2⟩ := List.nodup_cons.mp h
    have hx := hs x List.mem_cons_self
    have := nodup_le l (m.erase x) h2 fun y hy => by
      have hne : y ≠ x := fun e => h1 (e ▸ hy)
      exact (List.mem_erase_of_ne hne).mpr (hs y (List.mem_cons_of_mem _ hy))
    rw [List.length_erase_of_mem hx] at this
    have := List.length_pos_of_mem hx
    rw [List.length_cons]
    omega
def subs : Nat → List (List Nat)
  | 0 => [[]]
  | n + 1 => subs n ++ (subs n).map fun l => l ++ [n]
theorem subs_len : ∀ n, (subs n).length = 2 ^ n
  | 0 => rfl
  | n + 1 => by
    rw [subs, List.length_append, List.length_map, subs_len n, Nat.pow_succ]
    omega
theorem filter_subs (p : Nat → Bool) : ∀ n, (List.range n).filter p ∈ subs n
  | 0 => by simp [subs]
  | n + 1 => by
    have ih := filter_subs p n
    rw [List.range_succ, List.filter_append, subs, List.mem_append]
    by_cases h : p n = true
    · right
      rw [List.filter_cons_of_pos h, List.filter_nil]
      exact List.mem_map_of_mem ih
    · left
      rw [List.filter_cons_of_neg h, List.filter_nil, List.append_nil]
      exact ih
/-! ### rows that come again -/
def it {α : Type} (f : α → α) (x : α) : Nat → α
  | 0 => x
  | n + 1 => f (it f x n)
def itL {α : Type} (f : α → α) (x : α) (n : Nat) : List α := (List.range (n + 1)).map (it f x)
theorem itL_succ {α : Type} {f : α → α} {x : α} {n : Nat} : itL f x (n + 1) = itL f x n ++ [it f x (n + 1)] := by
  unfold itL
  rw [List.range_succ, List.map_append]
  rfl
theorem itL_zero {α : Type} {f : α → α} {x : α} : itL f x 0 = [x] := rfl
theorem itL_len {α : Type} {f : α → α} {x : α} {n : Nat} : (itL f x n).length = n + 1 := by simp [itL]
theorem itL_get {α : Type} {f : α → α} {x : α} {n i : Nat} (h : i ≤ n) : (itL f x n)[i]? = some (it f x i) := by
  unfold itL
  rw [List.getElem?_map, List.getElem?_range (by omega)]
  rfl
theorem itL_nodup {α : Type} {f : α → α} {x : α} : ∀ n, (∀ i, i < n → it f x (i + 1) ∉ itL f x i) → (itL f x n).Nodup
  | 0, _ => by simp [itL_zero]
  | n + 1, h => by
    rw [itL_succ, List.nodup_append]
    refine ⟨itL_nodup n fun i hi => h i (by omega), by simp, fun a ha b hb => ?_⟩
    rw [List.mem_singleton] at hb
    subst hb
    exact fun e => h n (by omega) (e ▸ ha)
/-- the first that was there before -/
theorem again {α : Type} [DecidableEq α] (f : α → α) (x : α) (m : List α) (N : Nat) (hx : x ∈ m) (hf : ∀ y ∈ m, f y ∈ m) (hN : m.length ≤ N) : ∃ k, k < N ∧ (∀ i, i < k → it f x (i + 1) ∉ itL f x i) ∧ it f x (k + 1) ∈ itL f x k := by
  have hm : ∀ i, it f x i ∈ m := fun i => by
    induction i with
    | zero => exact hx
    | succ i ih => exact hf _ ih
  have main : ∀ n, (∃ k, k < n ∧ (∀ i, i < k → it f x (i + 1) ∉ itL f x i) ∧ it f x (k + 1) ∈ itL f x k) ∨ ∀ i, i < n → it f x (i + 1) ∉ itL f x i := by
    intro n
    induction n with
    | zero => exact .inr fun i hi => absurd hi (Nat.not_lt_zero _)
    | succ n ih =>
      rcases ih with ⟨k, h1, h2, h3⟩ | h
      · exact .inl ⟨k, by omega, h2, h3⟩
      · by_cases c : it f x (n + 1) ∈ itL f x n
        · exact .inl ⟨n, by omega, h, c⟩
        · refine .inr fun i hi => ?_
          by_cases e : i = n
          · subst e
            exact c
          · exact h i (by omega)
  rcases main N with h | h
  · exact h
  · have := nodup_le _ m (itL_nodup N h) fun y hy => by
      unfold itL at hy
      obtain ⟨i, _, rfl⟩ := List.mem_map.mp hy
      exact hm i
    rw [itL_len] at this
    omega
end FR
set_option Elab.async false
set_option linter.all false
set_option maxRecDepth 100000
set_option maxHeartbeats 2000000
set_option autoImplicit false
namespace K40
open PySem PySem.Spec PyProof.Rows L2 He DL
def top (i : Nat) : Stmt := PySem.Challenge.pw_rowpicks_k40_fronts_and_deaths.main.body.getD i (.Pass ⟨0, 0, 0, 0⟩)
def clf (K : PySem.W.Frag) : Nat → Addr
  | 0 => ga K "Ratio"
  | 1 => ga K "Table"
  | 2 => ga K "PickError"
  | 3 => ga K "InvalidNumber"
  | 4 => ga K "ByZero"
  | 5 => ga K "InvalidTable"
  | 6 => ga K "InvalidName"
  | 7 => ga K "Duplicate"
  | 8 => ga K "InvalidOwner"
  | 9 => ga K "InvalidRows"
  | 10 => ga K "TooMany"
  | 11 => ga K "InvalidAmounts"
  | 12 => ga K "InvalidPick"
  | 13 => ga K "InvalidCount"
  | _ => 0
def atf : Nat → Option (List Str)
  | 1 => some ["own_places"]
  | _ => none
abbrev GG (K : PySem.W.Frag) : Pg := ⟨K, clf K, atf⟩
def sNil : SF := fun es S => .next es S
def cks (K : PySem.W.Frag) : List Bool := [(Fa.free "max").ok K,
  (Fa.free "min").ok K,
  (Fa.free "len").ok K,
  (Fa.free "range").ok K,
  clB K (ga K "Table") ["own_places"],
  siB K (ga K "Table"),
  spB K (ga K "Table") "__len__",
  (Fa.free "isinstance").ok K,
  (Fa.free "bool").ok K,
  isB K (clf K) [0, 1],
  slB K (ga K "Ratio"),
  siB K (ga K "Ratio"),
  (Fa.free "int").ok K,
  (Fa.glo "is_integer").ok K,
  (Fa.glo "PickError").ok K,
  bsB K (ga K "PickError"),
  (Fa.glo "InvalidCount").ok K,
  oinB K (ga K "InvalidCount"),
  eqO (PySem.W.findIn K (.ref (ga K "InvalidCount")) "value") (some none),
  mtB K (ga K "Table") "need_place",
  mtB K (ga K "Table") "owner",
  (Fa.str "STEERER" "steerer").ok K,
  (Fa.free "any").ok K,
  (Fa.free "all").ok K,
  (Fa.free "list").ok K,
  mtB K (ga K "Table") "rows",
  stB K (ga K "Ratio") "down" 0,
  stB K (ga K "Ratio") "up" 1,
  (Fa.glo "Ratio").ok K,
  prB K (ga K "Ratio") "bottom",
  prB K (ga K "Ratio") "top",
  (Fa.glo "parts").ok K,
  (Fa.glo "is_number").ok K,
  eqFB K (ga K "Ratio") [ga K "Ratio", ga K "Table"],
  neB K (ga K "Ratio"),
  (Fa.glo "meets").ok K,
  (Fa.glo "best_front").ok K,
  (Fa.free "enumerate").ok K,
  (Fa.glo "alive_in").ok K,
  (Fa.glo "InvalidNumber").ok K,
  oinB K (ga K "InvalidNumber"),
  eqO (PySem.W.findIn K (.ref (ga K "InvalidNumber")) "value") (some none),
  (Fa.glo "ByZero").ok K,
  oinB K (ga K "ByZero"),
  (Fa.free "abs").ok K,
  (Fa.glo "common_divisor").ok K,
  mkB K (ga K "Ratio"),
  (Fa.glo "as_ratio").ok K,
  (Fa.glo "is_amount").ok K,
  (Fa.free "tuple").ok K,
  (Fa.glo "is_list").ok K,
  (Fa.glo "are_amounts").ok K,
  (Fa.glo "InvalidAmounts").ok K,
  oinB K (ga K "InvalidAmounts"),
  eqO (PySem.W.findIn K (.ref (ga K "InvalidAmounts")) "value") (some none),
  (Fa.glo "told_amounts").ok K,
  (Fa.glo "Table").ok K,
  (Fa.glo "InvalidTable").ok K,
  oinB K (ga K "InvalidTable"),
  eqO (PySem.W.findIn K (.ref (ga K "InvalidTable")) "value") (some none),
  (Fa.glo "need_table").ok K,
  (Fa.glo "fronts").ok K,
  (Fa.int "MOST_PLACES" 5).ok K,
  (Fa.int "MOST_ROWS" 4).ok K,
  (Fa.glo "are_rows").ok K,
  (Fa.glo "InvalidRows").ok K,
  oinB K (ga K "InvalidRows"),
  eqO (PySem.W.findIn K (.ref (ga K "InvalidRows")) "value") (some none),
  tupB K "OWNERS" ["steerer", "foe"],
  (Fa.free "str").ok K,
  (Fa.glo "InvalidOwner").ok K,
  oinB K (ga K "InvalidOwner"),
  eqO (PySem.W.findIn K (.ref (ga K "InvalidOwner")) "value") (some none),
  (Fa.glo "need_owner").ok K,
  (Fa.glo "Duplicate").ok K,
  oinB K (ga K "Duplicate"),
  eqO (PySem.W.findIn K (.ref (ga K "Duplicate")) "name") (some none),
  (Fa.str "LETTERS" "abcdefghijklmnopqrstuvwxyz").ok K,
  (Fa.str "FIGURES" "0123456789").ok K,
  (Fa.int "LONGEST_NAME" 8).ok K,
  (Fa.glo "is_name").ok K,
  (Fa.glo "InvalidName").ok K,
  oinB K (ga K "InvalidName"),
  eqO (PySem.W.findIn K (.ref (ga K "InvalidName")) "value") (some none),
  (Fa.glo "told_place").ok K,
  (Fa.glo "count_picks").ok K,
  (Fa.int "MOST_PICKS" 100).ok K,
  (Fa.glo "TooMany").ok K,
  oinB K (ga K "TooMany"),
  eqO (PySem.W.findIn K (.ref (ga K "TooMany")) "count") (some none),
  mkB K (ga K "Table"),
  mtB K (ga K "Table") "owned",
  (Fa.glo "_law_meets").ok K,
  (Fa.glo "_law_best_front").ok K,
  (Fa.glo "_law_fronts").ok K,
  (Fa.glo "_law_alive").ok K,
  (Fa.glo "death").ok K,
  (Fa.free "zip").ok K,
  mtB K (ga K "Table") "is_pick",
  (Fa.glo "InvalidPick").ok K,
  oinB K (ga K "InvalidPick"),
  eqO (PySem.W.findIn K (.ref (ga K "InvalidPick")) "value") (some none),
  mtB K (ga K "Table") "matrix",
  bnB K (ga K "Ratio") .Add,
  (Fa.glo "dot").ok K,
  (Fa.glo "made").ok K,
  mtB K (ga K "Ratio") "below",
  (Fa.glo "best_row").ok K,
  (Fa.glo "best_of").ok K,
  (Fa.glo "best_step").ok K,
  (Fa.glo "_law_given").ok K,
  (Fa.glo "_law_from_right").ok K,
  (Fa.glo "_law_take").ok K,
  (Fa.glo "_law_number").ok K,
  (Fa.glo "_law_few").ok K,
  (Fa.glo "_law_handed").ok K,
  (Fa.glo "_law_table").ok K,
  (Fa.glo "_law_thin").ok K,
  (Fa.glo "_law_spec").ok K,
  (Fa.glo "_law_box").ok K,
  (Fa.glo "_law_cell").ok K,
  (Fa.glo "law").ok K]
abbrev s_law : Stmt := top 86
def d_law : DefA := ⟨fun K => ga K "law", "law", "law", defArgs s_law, defBody s_law, defScope s_law, []⟩
theorem sc_law : FnScope ["_law_script", "_law_k", "_law_box_here", "_law_spec_here", "_law_table_here", "_law_first", "_law_second", "_law_held", "_law_whole"] ["_law_script"] (defScope s_law) := ⟨rfl, rfl, rfl, by decide +kernel, rfl, by decide +kernel, by decide +kernel⟩
abbrev s__law_from_right : Stmt := top 85
def d__law_from_right : DefA := ⟨fun K => ga K "_law_from_right", "_law_from_right", "_law_from_right", defArgs s__law_from_right, defBody s__law_from_right, defScope s__law_from_right, []⟩
theorem sc__law_from_right : FnScope ["_law_spec_here", "_law_table_here", "_law_held", "_law_whole", "_law_amounts", "_law_pair", "_law_due", "_law_back", "_law_turn", "_law_told", "_law_now", "_law_front", "_law_at", "_law_first", "_law_owner", "_law_other", "_law_name", "_law_one", "_law_rows"] ["_law_spec_here", "_law_table_here", "_law_held", "_law_whole"] (defScope s__law_from_right) := ⟨rfl, rfl, rfl, by decide +kernel, rfl, by decide +kernel, by decide +kernel⟩
abbrev s_fronts : Stmt := top 58
def d_fronts : DefA := ⟨fun K => ga K "fronts", "fronts", "fronts", defArgs s_fronts, defBody s_fronts, defScope s_fronts, []⟩
theorem sc_fronts : FnScope ["table", "amounts", "found", "later"] ["table", "amounts"] (defScope s_fronts) := ⟨rfl, rfl, rfl, by decide +kernel, rfl, by decide +kernel, by decide +kernel⟩
abbrev s_best_front : Stmt := top 57
def d_best_front : DefA := ⟨fun K => ga K "best_front", "best_front", "best_front", defArgs s_best_front, defBody s_best_front, defScope s_best_front, []⟩
theorem sc_best_front : FnScope ["table", "front", "found", "place", "met", "row"] ["table", "front"] (defScope s_best_front) := ⟨rfl, rfl, rfl, by decide +kernel, rfl, by decide +kernel, by decide +kernel⟩
abbrev s_Tabled__lend_ : Stmt := inClass (top 45) 2
def d_Tabled__lend_ : DefA := ⟨fun K => ma K (ga K "Table") "__len__", "__len__", "Table.__len__", defArgs s_Tabled__lend_, defBody s_Tabled__lend_, defScope s_Tabled__lend_, []⟩
theorem sc_Tabled__lend_ : FnScope ["self"] ["self"] (defScope s_Tabled__lend_) := ⟨rfl, rfl, rfl, by decide +kernel, rfl, by decide +kernel, by decide +kernel⟩
abbrev s_Table_owner : Stmt := inClass (top 45) 5
def d_Table_owner : DefA := ⟨fun K => ma K (ga K "Table") "owner", "owner", "Table.owner", defArgs s_Table_owner, defBody s_Table_owner, defScope s_Table_owner, []⟩
theorem sc_Table_owner : FnScope ["self", "place"] ["self", "place"] (defScope s_Table_owner) := ⟨rfl, rfl, rfl, by decide +kernel, rfl, by decide +kernel, by decide +kernel⟩
abbrev s_Table_need_place : Stmt := inClass (top 45) 4
def d_Table_need_place : DefA := ⟨fun K => ma K (ga K "Table") "need_place", "need_place", "Table.need_place", defArgs s_Table_need_place, defBody s_Table_need_place, defScope s_Table_need_place, []⟩
theorem sc_Table_need_place : FnScope ["self", "place"] ["self", "place"] (defScope s_Table_need_place) := ⟨rfl, rfl, rfl, by decide +kernel, rfl, by decide +kernel, by decide +kernel⟩
abbrev s_is_integer : Stmt := top 19
def d_is_integer : DefA := ⟨fun K => ga K "is_integer", "is_integer", "is_integer", defArgs s_is_integer, defBody s_is_integer, defScope s_is_integer, []⟩
theorem sc_is_integer : FnScope ["value"] ["value"] (defScope s_is_integer) := ⟨rfl, rfl, rfl, by decide +kernel, rfl, by decide +kernel, by decide +kernel⟩
abbrev s_InvalidCountd__initd_ : Stmt := inClass (top 11) 0
def d_InvalidCountd__initd_ : DefA := ⟨fun K => ma K (ga K "InvalidCount") "__init__", "__init__", "InvalidCount.__init__", defArgs s_InvalidCountd__initd_, defBody s_InvalidCountd__initd_, defScope s_InvalidCountd__initd_, []⟩
theorem sc_InvalidCountd__initd_ : FnScope ["self", "value"] ["self", "value"] (defScope s_InvalidCountd__initd_) := ⟨rfl, rfl, rfl, by decide +kernel, rfl, by decide +kernel, by decide +kernel⟩
abbrev s_Table_rows : Stmt := inClass (top 45) 6
def d_Table_rows : DefA := ⟨fun K => ma K (ga K "Table") "rows", "rows", "Table.rows", defArgs s_Table_rows, defBody s_Table_rows, defScope s_Table_rows, []⟩
theorem sc_Table_rows : FnScope ["self", "place"] ["self", "place"] (defScope s_Table_rows) := ⟨rfl, rfl, rfl, by decide +kernel, rfl, by decide +kernel, by decide +kernel⟩
abbrev s_meets : Stmt := top 56
def d_meets : DefA := ⟨fun K => ga K "meets", "meets", "meets", defArgs s_meets, defBody s_meets, defScope s_meets, []⟩
theorem sc_meets : FnScope ["row", "front", "place"] ["row", "front"] (defScope s_meets) := ⟨rfl, rfl, rfl, by decide +kernel, rfl, by decide +kernel, by decide +kernel⟩
abbrev s_Ratiod__eqd_ : Stmt := inClass (top 23) 10
def d_Ratiod__eqd_ : DefA := ⟨fun K => ma K (ga K "Ratio") "__eq__", "__eq__", "Ratio.__eq__", defArgs s_Ratiod__eqd_, defBody s_Ratiod__eqd_, defScope s_Ratiod__eqd_, []⟩
theorem sc_Ratiod__eqd_ : FnScope ["self", "other"] ["self", "other"] (defScope s_Ratiod__eqd_) := ⟨rfl, rfl, rfl, by decide +kernel, rfl, by decide +kernel, by decide +kernel⟩
abbrev s_parts : Stmt := top 21
def d_parts : DefA := ⟨fun K => ga K "parts", "parts", "parts", defArgs s_parts, defBody s_parts, defScope s_parts, []⟩
theorem sc_parts : FnScope ["number"] ["number"] (defScope s_parts) := ⟨rfl, rfl, rfl, by decide +kernel, rfl, by decide +kernel, by decide +kernel⟩
abbrev s_Ratio_bottom : Stmt := inClass (top 23) 3
def d_Ratio_bottom : DefA := ⟨fun K => pa K (ga K "Ratio") "bottom", "bottom", "Ratio.bottom", defArgs s_Ratio_bottom, defBody s_Ratio_bottom, defScope s_Ratio_bottom, []⟩
theorem sc_Ratio_bottom : FnScope ["self"] ["self"] (defScope s_Ratio_bottom) := ⟨rfl, rfl, rfl, by decide +kernel, rfl, by decide +kernel, by decide +kernel⟩
abbrev s_Ratio_top : Stmt := inClass (top 23) 2
def d_Ratio_top : DefA := ⟨fun K => pa K (ga K "Ratio") "top", "top", "Ratio.top", defArgs s_Ratio_top, defBody s_Ratio_top, defScope s_Ratio_top, []⟩
theorem sc_Ratio_top : FnScope ["self"] ["self"] (defScope s_Ratio_top) := ⟨rfl, rfl, rfl, by decide +kernel, rfl, by decide +kernel, by decide +kernel⟩
abbrev s_is_number : Stmt := top 24
def d_is_number : DefA := ⟨fun K => ga K "is_number", "is_number", "is_number", defArgs s_is_number, defBody s_is_number, defScope s_is_number, []⟩
theorem sc_is_number : FnScope ["value"] ["value"] (defScope s_is_number) := ⟨rfl, rfl, rfl, by decide +kernel, rfl, by decide +kernel, by decide +kernel⟩
abbrev s_alive_in : Stmt := top 55
def d_alive_in : DefA := ⟨fun K => ga K "alive_in", "alive_in", "alive_in", defArgs s_alive_in, defBody s_alive_in, defScope s_alive_in, []⟩
theorem sc_alive_in : FnScope ["held", "place", "amount"] ["held"] (defScope s_alive_in) := ⟨rfl, rfl, rfl, by decide +kernel, rfl, by decide +kernel, by decide +kernel⟩
abbrev s_told_amounts : Stmt := top 49
def d_told_amounts : DefA := ⟨fun K => ga K "told_amounts", "told_amounts", "told_amounts", defArgs s_told_amounts, defBody s_told_amounts, defScope s_told_amounts, []⟩
theorem sc_told_amounts : FnScope ["table", "amounts", "amount"] ["table", "amounts"] (defScope s_told_amounts) := ⟨rfl, rfl, rfl, by decide +kernel, rfl, by decide +kernel, by decide +kernel⟩
abbrev s_as_ratio : Stmt := top 26
def d_as_ratio : DefA := ⟨fun K => ga K "as_ratio", "as_ratio", "as_ratio", defArgs s_as_ratio, defBody s_as_ratio, defScope s_as_ratio, []⟩
theorem sc_as_ratio : FnScope ["number"] ["number"] (defScope s_as_ratio) := ⟨rfl, rfl, rfl, by decide +kernel, rfl, by decide +kernel, by decide +kernel⟩
abbrev s_Ratiod__initd_ : Stmt := inClass (top 23) 1
def d_Ratiod__initd_ : DefA := ⟨fun K => ma K (ga K "Ratio") "__init__", "__init__", "Ratio.__init__", defArgs s_Ratiod__initd_, defBody s_Ratiod__initd_, defScope s_Ratiod__initd_, [.int 1]⟩
theorem sc_Ratiod__initd_ : FnScope ["self", "top", "bottom", "piece"] ["self", "top", "bottom"] (defScope s_Ratiod__initd_) := ⟨rfl, rfl, rfl, by decide +kernel, rfl, by decide +kernel, by decide +kernel⟩
abbrev s_InvalidNumberd__initd_ : Stmt := inClass (top 3) 0
def d_InvalidNumberd__initd_ : DefA := ⟨fun K => ma K (ga K "InvalidNumber") "__init__", "__init__", "InvalidNumber.__init__", defArgs s_InvalidNumberd__initd_, defBody s_InvalidNumberd__initd_, defScope s_InvalidNumberd__initd_, []⟩
theorem sc_InvalidNumberd__initd_ : FnScope ["self", "value"] ["self", "value"] (defScope s_InvalidNumberd__initd_) := ⟨rfl, rfl, rfl, by decide +kernel, rfl, by decide +kernel, by decide +kernel⟩
abbrev s_ByZerod__initd_ : Stmt := inClass (top 15) 0
def d_ByZerod__initd_ : DefA := ⟨fun K => ma K (ga K "ByZero") "__init__", "__init__", "ByZero.__init__", defArgs s_ByZerod__initd_, defBody s_ByZerod__initd_, defScope s_ByZerod__initd_, []⟩
theorem sc_ByZerod__initd_ : FnScope ["self"] ["self"] (defScope s_ByZerod__initd_) := ⟨rfl, rfl, rfl, by decide +kernel, rfl, by decide +kernel, by decide +kernel⟩
abbrev s_common_divisor : Stmt := top 20
def d_common_divisor : DefA := ⟨fun K => ga K "common_divisor", "common_divisor", "common_divisor", defArgs s_common_divisor, defBody s_common_divisor, defScope s_common_divisor, []⟩
theorem sc_common_divisor : FnScope ["one", "other"] ["one", "other"] (defScope s_common_divisor) := ⟨rfl, rfl, rfl, by decide +kernel, rfl, by decide +kernel, by decide +kernel⟩
abbrev s_are_amounts : Stmt := top 29
def d_are_amounts : DefA := ⟨fun K => ga K "are_amounts", "are_amounts", "are_amounts", defArgs s_are_amounts, defBody s_are_amounts, defScope s_are_amounts, []⟩
theorem sc_are_amounts : FnScope ["value", "many", "item"] ["value", "many"] (defScope s_are_amounts) := ⟨rfl, rfl, rfl, by decide +kernel, rfl, by decide +kernel, by decide +kernel⟩
abbrev s_is_amount : Stmt := top 25
def d_is_amount : DefA := ⟨fun K => ga K "is_amount", "is_amount", "is_amount", defArgs s_is_amount, defBody s_is_amount, defScope s_is_amount, []⟩
theorem sc_is_amount : FnScope ["value"] ["value"] (defScope s_is_amount) := ⟨rfl, rfl, rfl, by decide +kernel, rfl, by decide +kernel, by decide +kernel⟩
abbrev s_is_list : Stmt := top 28
def d_is_list : DefA := ⟨fun K => ga K "is_list", "is_list", "is_list", defArgs s_is_list, defBody s_is_list, defScope s_is_list, []⟩
theorem sc_is_list : FnScope ["value"] ["value"] (defScope s_is_list) := ⟨rfl, rfl, rfl, by decide +kernel, rfl, by decide +kernel, by decide +kernel⟩
abbrev s_InvalidAmountsd__initd_ : Stmt := inClass (top 9) 0
def d_InvalidAmountsd__initd_ : DefA := ⟨fun K => ma K (ga K "InvalidAmounts") "__init__", "__init__", "InvalidAmounts.__init__", defArgs s_InvalidAmountsd__initd_, defBody s_InvalidAmountsd__initd_, defScope s_InvalidAmountsd__initd_, []⟩
theorem sc_InvalidAmountsd__initd_ : FnScope ["self", "value"] ["self", "value"] (defScope s_InvalidAmountsd__initd_) := ⟨rfl, rfl, rfl, by decide +kernel, rfl, by decide +kernel, by decide +kernel⟩
abbrev s_need_table : Stmt := top 48
def d_need_table : DefA := ⟨fun K => ga K "need_table", "need_table", "need_table", defArgs s_need_table, defBody s_need_table, defScope s_need_table, []⟩
theorem sc_need_table : FnScope ["table"] ["table"] (defScope s_need_table) := ⟨rfl, rfl, rfl, by decide +kernel, rfl, by decide +kernel, by decide +kernel⟩
abbrev s_InvalidTabled__initd_ : Stmt := inClass (top 8) 0
def d_InvalidTabled__initd_ : DefA := ⟨fun K => ma K (ga K "InvalidTable") "__init__", "__init__", "InvalidTable.__init__", defArgs s_InvalidTabled__initd_, defBody s_InvalidTabled__initd_, defScope s_InvalidTabled__initd_, []⟩
theorem sc_InvalidTabled__initd_ : FnScope ["self", "value"] ["self", "value"] (defScope s_InvalidTabled__initd_) := ⟨rfl, rfl, rfl, by decide +kernel, rfl, by decide +kernel, by decide +kernel⟩
abbrev s_Table_owned : Stmt := inClass (top 45) 11
def d_Table_owned : DefA := ⟨fun K => ma K (ga K "Table") "owned", "owned", "Table.owned", defArgs s_Table_owned, defBody s_Table_owned, defScope s_Table_owned, []⟩
theorem sc_Table_owned : FnScope ["self", "owner", "name", "before", "rows"] ["self", "owner"] (defScope s_Table_owned) := ⟨rfl, rfl, rfl, by decide +kernel, rfl, by decide +kernel, by decide +kernel⟩
abbrev s_Tabled__initd_ : Stmt := inClass (top 45) 0
def d_Tabled__initd_ : DefA := ⟨fun K => ma K (ga K "Table") "__init__", "__init__", "Table.__init__", defArgs s_Tabled__initd_, defBody s_Tabled__initd_, defScope s_Tabled__initd_, []⟩
theorem sc_Tabled__initd_ : FnScope ["self", "places", "found", "item", "name", "owner", "rows", "count"] ["self", "places"] (defScope s_Tabled__initd_) := ⟨rfl, rfl, rfl, by decide +kernel, rfl, by decide +kernel, by decide +kernel⟩
abbrev s_told_place : Stmt := top 43
def d_told_place : DefA := ⟨fun K => ga K "told_place", "told_place", "told_place", defArgs s_told_place, defBody s_told_place, defScope s_told_place, []⟩
theorem sc_told_place : FnScope ["item", "known", "many", "name", "owner", "rows", "number", "row"] ["item", "known", "many"] (defScope s_told_place) := ⟨rfl, rfl, rfl, by decide +kernel, rfl, by decide +kernel, by decide +kernel⟩
abbrev s_are_rows : Stmt := top 42
def d_are_rows : DefA := ⟨fun K => ga K "are_rows", "are_rows", "are_rows", defArgs s_are_rows, defBody s_are_rows, defScope s_are_rows, []⟩
theorem sc_are_rows : FnScope ["value", "many", "row"] ["value", "many"] (defScope s_are_rows) := ⟨rfl, rfl, rfl, by decide +kernel, rfl, by decide +kernel, by decide +kernel⟩
abbrev s_InvalidRowsd__initd_ : Stmt := inClass (top 7) 0
def d_InvalidRowsd__initd_ : DefA := ⟨fun K => ma K (ga K "InvalidRows") "__init__", "__init__", "InvalidRows.__init__", defArgs s_InvalidRowsd__initd_, defBody s_InvalidRowsd__initd_, defScope s_InvalidRowsd__initd_, []⟩
theorem sc_InvalidRowsd__initd_ : FnScope ["self", "value"] ["self", "value"] (defScope s_InvalidRowsd__initd_) := ⟨rfl, rfl, rfl, by decide +kernel, rfl, by decide +kernel, by decide +kernel⟩
abbrev s_need_owner : Stmt := top 41
def d_need_owner : DefA := ⟨fun K => ga K "need_owner", "need_owner", "need_owner", defArgs s_need_owner, defBody s_need_owner, defScope s_need_owner, []⟩
theorem sc_need_owner : FnScope ["owner"] ["owner"] (defScope s_need_owner) := ⟨rfl, rfl, rfl, by decide +kernel, rfl, by decide +kernel, by decide +kernel⟩
abbrev s_InvalidOwnerd__initd_ : Stmt := inClass (top 6) 0
def d_InvalidOwnerd__initd_ : DefA := ⟨fun K => ma K (ga K "InvalidOwner") "__init__", "__init__", "InvalidOwner.__init__", defArgs s_InvalidOwnerd__initd_, defBody s_InvalidOwnerd__initd_, defScope s_InvalidOwnerd__initd_, []⟩
theorem sc_InvalidOwnerd__initd_ : FnScope ["self", "value"] ["self", "value"] (defScope s_InvalidOwnerd__initd_) := ⟨rfl, rfl, rfl, by decide +kernel, rfl, by decide +kernel, by decide +kernel⟩
abbrev s_Duplicated__initd_ : Stmt := inClass (top 13) 0
def d_Duplicated__initd_ : DefA := ⟨fun K => ma K (ga K "Duplicate") "__init__", "__init__", "Duplicate.__init__", defArgs s_Duplicated__initd_, defBody s_Duplicated__initd_, defScope s_Duplicated__initd_, []⟩
theorem sc_Duplicated__initd_ : FnScope ["self", "name"] ["self", "name"] (defScope s_Duplicated__initd_) := ⟨rfl, rfl, rfl, by decide +kernel, rfl, by decide +kernel, by decide +kernel⟩
abbrev s_is_name : Stmt := top 40
def d_is_name : DefA := ⟨fun K => ga K "is_name", "is_name", "is_name", defArgs s_is_name, defBody s_is_name, defScope s_is_name, []⟩
theorem sc_is_name : FnScope ["value", "sign"] ["value"] (defScope s_is_name) := ⟨rfl, rfl, rfl, by decide +kernel, rfl, by decide +kernel, by decide +kernel⟩
abbrev s_InvalidNamed__initd_ : Stmt := inClass (top 5) 0
def d_InvalidNamed__initd_ : DefA := ⟨fun K => ma K (ga K "InvalidName") "__init__", "__init__", "InvalidName.__init__", defArgs s_InvalidNamed__initd_, defBody s_InvalidNamed__initd_, defScope s_InvalidNamed__initd_, []⟩
theorem sc_InvalidNamed__initd_ : FnScope ["self", "value"] ["self", "value"] (defScope s_InvalidNamed__initd_) := ⟨rfl, rfl, rfl, by decide +kernel, rfl, by decide +kernel, by decide +kernel⟩
abbrev s_count_picks : Stmt := top 44
def d_count_picks : DefA := ⟨fun K => ga K "count_picks", "count_picks", "count_picks", defArgs s_count_picks, defBody s_count_picks, defScope s_count_picks, []⟩
theorem sc_count_picks : FnScope ["numbers", "found", "number"] ["numbers"] (defScope s_count_picks) := ⟨rfl, rfl, rfl, by decide +kernel, rfl, by decide +kernel, by decide +kernel⟩
abbrev s_TooManyd__initd_ : Stmt := inClass (top 14) 0
def d_TooManyd__initd_ : DefA := ⟨fun K => ma K (ga K "TooMany") "__init__", "__init__", "TooMany.__init__", defArgs s_TooManyd__initd_, defBody s_TooManyd__initd_, defScope s_TooManyd__initd_, []⟩
theorem sc_TooManyd__initd_ : FnScope ["self", "count"] ["self", "count"] (defScope s_TooManyd__initd_) := ⟨rfl, rfl, rfl, by decide +kernel, rfl, by decide +kernel, by decide +kernel⟩
abbrev s__law_fronts : Stmt := top 84
def d__law_fronts : DefA := ⟨fun K => ga K "_law_fronts", "_law_fronts", "_law_fronts", defArgs s__law_fronts, defBody s__law_fronts, defScope s__law_fronts, []⟩
theorem sc__law_fronts : FnScope ["_law_spec_here", "_law_front", "_law_found"] ["_law_spec_here", "_law_front"] (defScope s__law_fronts) := ⟨rfl, rfl, rfl, by decide +kernel, rfl, by decide +kernel, by decide +kernel⟩
abbrev s__law_best_front : Stmt := top 83
def d__law_best_front : DefA := ⟨fun K => ga K "_law_best_front", "_law_best_front", "_law_best_front", defArgs s__law_best_front, defBody s__law_best_front, defScope s__law_best_front, []⟩
theorem sc__law_best_front : FnScope ["_law_spec_here", "_law_front", "_law_found", "_law_k", "_law_met", "_law_row"] ["_law_spec_here", "_law_front"] (defScope s__law_best_front) := ⟨rfl, rfl, rfl, by decide +kernel, rfl, by decide +kernel, by decide +kernel⟩
abbrev s__law_meets : Stmt := top 76
def d__law_meets : DefA := ⟨fun K => ga K "_law_meets", "_law_meets", "_law_meets", defArgs s__law_meets, defBody s__law_meets, defScope s__law_meets, []⟩
theorem sc__law_meets : FnScope ["_law_row", "_law_front", "_law_k"] ["_law_row", "_law_front"] (defScope s__law_meets) := ⟨rfl, rfl, rfl, by decide +kernel, rfl, by decide +kernel, by decide +kernel⟩
abbrev s__law_alive : Stmt := top 75
def d__law_alive : DefA := ⟨fun K => ga K "_law_alive", "_law_alive", "_law_alive", defArgs s__law_alive, defBody s__law_alive, defScope s__law_alive, []⟩
theorem sc__law_alive : FnScope ["_law_held", "_law_k"] ["_law_held"] (defScope s__law_alive) := ⟨rfl, rfl, rfl, by decide +kernel, rfl, by decide +kernel, by decide +kernel⟩
abbrev s_death : Stmt := top 59
def d_death : DefA := ⟨fun K => ga K "death", "death", "death", defArgs s_death, defBody s_death, defScope s_death, []⟩
theorem sc_death : FnScope ["table", "amounts", "found"] ["table", "amounts"] (defScope s_death) := ⟨rfl, rfl, rfl, by decide +kernel, rfl, by decide +kernel, by decide +kernel⟩
abbrev s_best_step : Stmt := top 53
def d_best_step : DefA := ⟨fun K => ga K "best_step", "best_step", "best_step", defArgs s_best_step, defBody s_best_step, defScope s_best_step, []⟩
theorem sc_best_step : FnScope ["table", "amounts", "held"] ["table", "amounts"] (defScope s_best_step) := ⟨rfl, rfl, rfl, by decide +kernel, rfl, by decide +kernel, by decide +kernel⟩
abbrev s_made : Stmt := top 50
def d_made : DefA := ⟨fun K => ga K "made", "made", "made", defArgs s_made, defBody s_made, defScope s_made, []⟩
theorem sc_made : FnScope ["table", "pick", "held", "row"] ["table", "pick", "held"] (defScope s_made) := ⟨rfl, rfl, rfl, by decide +kernel, rfl, by decide +kernel, by decide +kernel⟩
abbrev s_Table_matrix : Stmt := inClass (top 45) 9
def d_Table_matrix : DefA := ⟨fun K => ma K (ga K "Table") "matrix", "matrix", "Table.matrix", defArgs s_Table_matrix, defBody s_Table_matrix, defScope s_Table_matrix, []⟩
theorem sc_Table_matrix : FnScope ["self", "pick", "index", "held"] ["self", "pick"] (defScope s_Table_matrix) := ⟨rfl, rfl, rfl, by decide +kernel, rfl, by decide +kernel, by decide +kernel⟩
abbrev s_Table_is_pick : Stmt := inClass (top 45) 8
def d_Table_is_pick : DefA := ⟨fun K => ma K (ga K "Table") "is_pick", "is_pick", "Table.is_pick", defArgs s_Table_is_pick, defBody s_Table_is_pick, defScope s_Table_is_pick, []⟩
theorem sc_Table_is_pick : FnScope ["self", "value", "at", "held"] ["self", "value"] (defScope s_Table_is_pick) := ⟨rfl, rfl, rfl, by decide +kernel, rfl, by decide +kernel, by decide +kernel⟩
abbrev s_InvalidPickd__initd_ : Stmt := inClass (top 10) 0
def d_InvalidPickd__initd_ : DefA := ⟨fun K => ma K (ga K "InvalidPick") "__init__", "__init__", "InvalidPick.__init__", defArgs s_InvalidPickd__initd_, defBody s_InvalidPickd__initd_, defScope s_InvalidPickd__initd_, []⟩
theorem sc_InvalidPickd__initd_ : FnScope ["self", "value"] ["self", "value"] (defScope s_InvalidPickd__initd_) := ⟨rfl, rfl, rfl, by decide +kernel, rfl, by decide +kernel, by decide +kernel⟩
abbrev s_dot : Stmt := top 27
def d_dot : DefA := ⟨fun K => ga K "dot", "dot", "dot", defArgs s_dot, defBody s_dot, defScope s_dot, []⟩
theorem sc_dot : FnScope ["one", "other", "found", "left", "right"] ["one", "other"] (defScope s_dot) := ⟨rfl, rfl, rfl, by decide +kernel, rfl, by decide +kernel, by decide +kernel⟩
abbrev s_Ratiod__addd_ : Stmt := inClass (top 23) 5
def d_Ratiod__addd_ : DefA := ⟨fun K => ma K (ga K "Ratio") "__add__", "__add__", "Ratio.__add__", defArgs s_Ratiod__addd_, defBody s_Ratiod__addd_, defScope s_Ratiod__addd_, []⟩
theorem sc_Ratiod__addd_ : FnScope ["self", "other", "top", "bottom"] ["self", "other"] (defScope s_Ratiod__addd_) := ⟨rfl, rfl, rfl, by decide +kernel, rfl, by decide +kernel, by decide +kernel⟩
abbrev s_best_of : Stmt := top 52
def d_best_of : DefA := ⟨fun K => ga K "best_of", "best_of", "best_of", defArgs s_best_of, defBody s_best_of, defScope s_best_of, []⟩
theorem sc_best_of : FnScope ["table", "held", "place"] ["table", "held"] (defScope s_best_of) := ⟨rfl, rfl, rfl, by decide +kernel, rfl, by decide +kernel, by decide +kernel⟩
abbrev s_best_row : Stmt := top 51
def d_best_row : DefA := ⟨fun K => ga K "best_row", "best_row", "best_row", defArgs s_best_row, defBody s_best_row, defScope s_best_row, []⟩
theorem sc_best_row : FnScope ["table", "place", "held", "wants_much", "best", "told", "row", "index", "number"] ["table", "place", "held"] (defScope s_best_row) := ⟨rfl, rfl, rfl, by decide +kernel, rfl, by decide +kernel, by decide +kernel⟩
abbrev s_Ratio_below : Stmt := inClass (top 23) 11
def d_Ratio_below : DefA := ⟨fun K => ma K (ga K "Ratio") "below", "below", "Ratio.below", defArgs s_Ratio_below, defBody s_Ratio_below, defScope s_Ratio_below, []⟩
theorem sc_Ratio_below : FnScope ["self", "number", "top", "bottom"] ["self", "number"] (defScope s_Ratio_below) := ⟨rfl, rfl, rfl, by decide +kernel, rfl, by decide +kernel, by decide +kernel⟩
abbrev s__law_given : Stmt := top 69
def d__law_given : DefA := ⟨fun K => ga K "_law_given", "_law_given", "_law_given", defArgs s__law_given, defBody s__law_given, defScope s__law_given, []⟩
theorem sc__law_given : FnScope ["_law_pair"] ["_law_pair"] (defScope s__law_given) := ⟨rfl, rfl, rfl, by decide +kernel, rfl, by decide +kernel, by decide +kernel⟩
abbrev s__law_few : Stmt := top 82
def d__law_few : DefA := ⟨fun K => ga K "_law_few", "_law_few", "_law_few", defArgs s__law_few, defBody s__law_few, defScope s__law_few, []⟩
theorem sc__law_few : FnScope ["_law_box_here", "_law_many", "_law_k"] ["_law_box_here", "_law_many"] (defScope s__law_few) := ⟨rfl, rfl, rfl, by decide +kernel, rfl, by decide +kernel, by decide +kernel⟩
abbrev s__law_take : Stmt := top 63
def d__law_take : DefA := ⟨fun K => ga K "_law_take", "_law_take", "_law_take", defArgs s__law_take, defBody s__law_take, defScope s__law_take, []⟩
theorem sc__law_take : FnScope ["_law_box_here", "_law_many", "_law_digit", "_law_mixed"] ["_law_box_here", "_law_many"] (defScope s__law_take) := ⟨rfl, rfl, rfl, by decide +kernel, rfl, by decide +kernel, by decide +kernel⟩
abbrev s__law_number : Stmt := top 70
def d__law_number : DefA := ⟨fun K => ga K "_law_number", "_law_number", "_law_number", defArgs s__law_number, defBody s__law_number, defScope s__law_number, []⟩
theorem sc__law_number : FnScope ["_law_box_here", "_law_menu"] ["_law_box_here"] (defScope s__law_number) := ⟨rfl, rfl, rfl, by decide +kernel, rfl, by decide +kernel, by decide +kernel⟩
abbrev s__law_table : Stmt := top 73
def d__law_table : DefA := ⟨fun K => ga K "_law_table", "_law_table", "_law_table", defArgs s__law_table, defBody s__law_table, defScope s__law_table, []⟩
theorem sc__law_table : FnScope ["_law_spec_here"] ["_law_spec_here"] (defScope s__law_table) := ⟨rfl, rfl, rfl, by decide +kernel, rfl, by decide +kernel, by decide +kernel⟩
abbrev s__law_handed : Stmt := top 72
def d__law_handed : DefA := ⟨fun K => ga K "_law_handed", "_law_handed", "_law_handed", defArgs s__law_handed, defBody s__law_handed, defScope s__law_handed, []⟩
theorem sc__law_handed : FnScope ["_law_spec_here", "_law_found", "_law_name", "_law_owner", "_law_rows", "_law_pair", "_law_row"] ["_law_spec_here"] (defScope s__law_handed) := ⟨rfl, rfl, rfl, by decide +kernel, rfl, by decide +kernel, by decide +kernel⟩
abbrev s__law_thin : Stmt := top 81
def d__law_thin : DefA := ⟨fun K => ga K "_law_thin", "_law_thin", "_law_thin", defArgs s__law_thin, defBody s__law_thin, defScope s__law_thin, []⟩
theorem sc__law_thin : FnScope ["_law_box_here", "_law_spec_here", "_law_keep", "_law_found", "_law_name", "_law_owner", "_law_rows", "_law_told", "_law_pair", "_law_row"] ["_law_box_here", "_law_spec_here"] (defScope s__law_thin) := ⟨rfl, rfl, rfl, by decide +kernel, rfl, by decide +kernel, by decide +kernel⟩
abbrev s__law_spec : Stmt := top 71
def d__law_spec : DefA := ⟨fun K => ga K "_law_spec", "_law_spec", "_law_spec", defArgs s__law_spec, defBody s__law_spec, defScope s__law_spec, []⟩
theorem sc__law_spec : FnScope ["_law_box_here", "_law_most", "_law_found", "_law_many", "_law_names", "_law_at", "_law_count", "_law_rows", "_law_j", "_law_k"] ["_law_box_here", "_law_most"] (defScope s__law_spec) := ⟨rfl, rfl, rfl, by decide +kernel, rfl, by decide +kernel, by decide +kernel⟩
abbrev s__law_box : Stmt := top 62
def d__law_box : DefA := ⟨fun K => ga K "_law_box", "_law_box", "_law_box", defArgs s__law_box, defBody s__law_box, defScope s__law_box, []⟩
theorem sc__law_box : FnScope ["_law_cell_here"] ["_law_cell_here"] (defScope s__law_box) := ⟨rfl, rfl, rfl, by decide +kernel, rfl, by decide +kernel, by decide +kernel⟩
abbrev s__law_cell : Stmt := top 61
def d__law_cell : DefA := ⟨fun K => ga K "_law_cell", "_law_cell", "_law_cell", defArgs s__law_cell, defBody s__law_cell, defScope s__law_cell, []⟩
theorem sc__law_cell : FnScope ["_law_script", "_law_k"] ["_law_script", "_law_k"] (defScope s__law_cell) := ⟨rfl, rfl, rfl, by decide +kernel, rfl, by decide +kernel, by decide +kernel⟩
def fns : List DefA := [d_law, d__law_from_right, d_fronts, d_best_front, d_Tabled__lend_, d_Table_owner, d_Table_need_place, d_is_integer, d_InvalidCountd__initd_, d_Table_rows, d_meets, d_Ratiod__eqd_, d_parts, d_Ratio_bottom, d_Ratio_top, d_is_number, d_alive_in, d_told_amounts, d_as_ratio, d_Ratiod__initd_, d_InvalidNumberd__initd_, d_ByZerod__initd_, d_common_divisor, d_are_amounts, d_is_amount, d_is_list, d_InvalidAmountsd__initd_, d_need_table, d_InvalidTabled__initd_, d_Table_owned, d_Tabled__initd_, d_told_place, d_are_rows, d_InvalidRowsd__initd_, d_need_owner, d_InvalidOwnerd__initd_, d_Duplicated__initd_, d_is_name, d_InvalidNamed__initd_, d_count_picks, d_TooManyd__initd_, d__law_fronts, d__law_best_front, d__law_meets, d__law_alive, d_death, d_best_step, d_made, d_Table_matrix, d_Table_is_pick, d_InvalidPickd__initd_, d_dot, d_Ratiod__addd_, d_best_of, d_best_row, d_Ratio_below, d__law_given, d__law_few, d__law_take, d__law_number, d__law_table, d__law_handed, d__law_thin, d__law_spec, d__law_box, d__law_cell]
abbrev BB (K : PySem.W.Frag) (mg : Str → Option Value) : Prop := Bs fns cks K mg
section
variable {P : Program} {w : World} {K : PySem.W.Frag} {mg : Str → Option Value} {base : Heap}
theorem k0 (B : BB K mg) : (Fa.free "max").ok K = true := B.ck 0
theorem k1 (B : BB K mg) : (Fa.free "min").ok K = true := B.ck 1
theorem k2 (B : BB K mg) : (Fa.free "len").ok K = true := B.ck 2
theorem k3 (B : BB K mg) : (Fa.free "range").ok K = true := B.ck 3
theorem k4 (B : BB K mg) : clB K (ga K "Table") ["own_places"] = true := B.ck 4
theorem k5 (B : BB K mg) : siB K (ga K "Table") = true := B.ck 5
theorem k6 (B : BB K mg) : spB K (ga K "Table") "__len__" = true := B.ck 6
theorem k7 (B : BB K mg) : (Fa.free "isinstance").ok K = true := B.ck 7
theorem k8 (B : BB K mg) : (Fa.free "bool").ok K = true := B.ck 8
theorem k9 (B : BB K mg) : isB K (clf K) [0, 1] = true := B.ck 9
theorem k10 (B : BB K mg) : slB K (ga K "Ratio") = true := B.ck 10
theorem k11 (B : BB K mg) : siB K (ga K "Ratio") = true := B.ck 11
theorem k12 (B : BB K mg) : (Fa.free "int").ok K = true := B.ck 12
theorem k13 (B : BB K mg) : (Fa.glo "is_integer").ok K = true := B.ck 13
theorem k14 (B : BB K mg) : (Fa.glo "PickError").ok K = true := B.ck 14
theorem k15 (B : BB K mg) : bsB K (ga K "PickError") = true := B.ck 15
theorem k16 (B : BB K mg) : (Fa.glo "InvalidCount").ok K = true := B.ck 16
theorem k17 (B : BB K mg) : oinB K (ga K "InvalidCount") = true := B.ck 17
theorem k18 (B : BB K mg) : eqO (PySem.W.findIn K (.ref (ga K "InvalidCount")) "value") (some none) = true := B.ck 18
theorem k19 (B : BB K mg) : mtB K (ga K "Table") "need_place" = true := B.ck 19
theorem k20 (B : BB K mg) : mtB K (ga K "Table") "owner" = true := B.ck 20
theorem k21 (B : BB K mg) : (Fa.str "STEERER" "steerer").ok K = true := B.ck 21
theorem k22 (B : BB K mg) : (Fa.free "any").ok K = true := B.ck 22
theorem k23 (B : BB K mg) : (Fa.free "all").ok K = true := B.ck 23
theorem k24 (B : BB K mg) : (Fa.free "list").ok K = true := B.ck 24
theorem k25 (B : BB K mg) : mtB K (ga K "Table") "rows" = true := B.ck 25
theorem k26 (B : BB K mg) : stB K (ga K "Ratio") "down" 0 = true := B.ck 26
theorem k27 (B : BB K mg) : stB K (ga K "Ratio") "up" 1 = true := B.ck 27
theorem k28 (B : BB K mg) : (Fa.glo "Ratio").ok K = true := B.ck 28
theorem k29 (B : BB K mg) : prB K (ga K "Ratio") "bottom" = true := B.ck 29
theorem k30 (B : BB K mg) : prB K (ga K "Ratio") "top" = true := B.ck 30
theorem k31 (B : BB K mg) : (Fa.glo "parts").ok K = true := B.ck 31
theorem k32 (B : BB K mg) : (Fa.glo "is_number").ok K = true := B.ck 32
theorem k33 (B : BB K mg) : eqFB K (ga K "Ratio") [ga K "Ratio", ga K "Table"] = true := B.ck 33
theorem k34 (B : BB K mg) : neB K (ga K "Ratio") = true := B.ck 34
theorem k35 (B : BB K mg) : (Fa.glo "meets").ok K = true := B.ck 35
theorem k36 (B : BB K mg) : (Fa.glo "best_front").ok K = true := B.ck 36
theorem k37 (B : BB K mg) : (Fa.free "enumerate").ok K = true := B.ck 37
theorem k38 (B : BB K mg) : (Fa.glo "alive_in").ok K = true := B.ck 38
theorem k39 (B : BB K mg) : (Fa.glo "InvalidNumber").ok K = true := B.ck 39
theorem k40 (B : BB K mg) : oinB K (ga K "InvalidNumber") = true := B.ck 40
theorem k41 (B : BB K mg) : eqO (PySem.W.findIn K (.ref (ga K "InvalidNumber")) "value") (some none) = true := B.ck 41
theorem k42 (B : BB K mg) : (Fa.glo "ByZero").ok K = true := B.ck 42
theorem k43 (B : BB K mg) : oinB K (ga K "ByZero") = true := B.ck 43
theorem k44 (B : BB K mg) : (Fa.free "abs").ok K = true := B.ck 44
theorem k45 (B : BB K mg) : (Fa.glo "common_divisor").ok K = true := B.ck 45
theorem k46 (B : BB K mg) : mkB K (ga K "Ratio") = true := B.ck 46
theorem k47 (B : BB K mg) : (Fa.glo "as_ratio").ok K = true := B.ck 47
theorem k48 (B : BB K mg) : (Fa.glo "is_amount").ok K = true := B.ck 48
theorem k49 (B : BB K mg) : (Fa.free "tuple").ok K = true := B.ck 49
theorem k50 (B : BB K mg) : (Fa.glo "is_list").ok K = true := B.ck 50
theorem k51 (B : BB K mg) : (Fa.glo "are_amounts").ok K = true := B.ck 51
theorem k52 (B : BB K mg) : (Fa.glo "InvalidAmounts").ok K = true := B.ck 52
theorem k53 (B : BB K mg) : oinB K (ga K "InvalidAmounts") = true := B.ck 53
theorem k54 (B : BB K mg) : eqO (PySem.W.findIn K (.ref (ga K "InvalidAmounts")) "value") (some none) = true := B.ck 54
theorem k55 (B : BB K mg) : (Fa.glo "told_amounts").ok K = true := B.ck 55
theorem k56 (B : BB K mg) : (Fa.glo "Table").ok K = true := B.ck 56
theorem k57 (B : BB K mg) : (Fa.glo "InvalidTable").ok K = true := B.ck 57
theorem k58 (B : BB K mg) : oinB K (ga K "InvalidTable") = true := B.ck 58
theorem k59 (B : BB K mg) : eqO (PySem.W.findIn K (.ref (ga K "InvalidTable")) "value") (some none) = true := B.ck 59
theorem k60 (B : BB K mg) : (Fa.glo "need_table").ok K = true := B.ck 60
theorem k61 (B : BB K mg) : (Fa.glo "fronts").ok K = true := B.ck 61
theorem k62 (B : BB K mg) : (Fa.int "MOST_PLACES" 5).ok K = true := B.ck 62
theorem k63 (B : BB K mg) : (Fa.int "MOST_ROWS" 4).ok K = true := B.ck 63
theorem k64 (B : BB K mg) : (Fa.glo "are_rows").ok K = true := B.ck 64
theorem k65 (B : BB K mg) : (Fa.glo "InvalidRows").ok K = true := B.ck 65
theorem k66 (B : BB K mg) : oinB K (ga K "InvalidRows") = true := B.ck 66
theorem k67 (B : BB K mg) : eqO (PySem.W.findIn K (.ref (ga K "InvalidRows")) "value") (some none) = true := B.ck 67
theorem k68 (B : BB K mg) : tupB K "OWNERS" ["steerer", "foe"] = true := B.ck 68
theorem k69 (B : BB K mg) : (Fa.free "str").ok K = true := B.ck 69
theorem k70 (B : BB K mg) : (Fa.glo "InvalidOwner").ok K = true := B.ck 70
theorem k71 (B : BB K mg) : oinB K (ga K "InvalidOwner") = true := B.ck 71
theorem k72 (B : BB K mg) : eqO (PySem.W.findIn K (.ref (ga K "InvalidOwner")) "value") (some none) = true := B.ck 72
theorem k73 (B : BB K mg) : (Fa.glo "need_owner").ok K = true := B.ck 73
theorem k74 (B : BB K mg) : (Fa.glo "Duplicate").ok K = true := B.ck 74
theorem k75 (B : BB K mg) : oinB K (ga K "Duplicate") = true := B.ck 75
theorem k76 (B : BB K mg) : eqO (PySem.W.findIn K (.ref (ga K "Duplicate")) "name") (some none) = true := B.ck 76
theorem k77 (B : BB K mg) : (Fa.str "LETTERS" "abcdefghijklmnopqrstuvwxyz").ok K = true := B.ck 77
theorem k78 (B : BB K mg) : (Fa.str "FIGURES" "0123456789").ok K = true := B.ck 78
theorem k79 (B : BB K mg) : (Fa.int "LONGEST_NAME" 8).ok K = true := B.ck 79
theorem k80 (B : BB K mg) : (Fa.glo "is_name").ok K = true := B.ck 80
theorem k81 (B : BB K mg) : (Fa.glo "InvalidName").ok K = true := B.ck 81
theorem k82 (B : BB K mg) : oinB K (ga K "InvalidName") = true := B.ck 82
theorem k83 (B : BB K mg) : eqO (PySem.W.findIn K (.ref (ga K "InvalidName")) "value") (some none) = true := B.ck 83
theorem k84 (B : BB K mg) : (Fa.glo "told_place").ok K = true := B.ck 84
theorem k85 (B : BB K mg) : (Fa.glo "count_picks").ok K = true := B.ck 85
theorem k86 (B : BB K mg) : (Fa.int "MOST_PICKS" 100).ok K = true := B.ck 86
theorem k87 (B : BB K mg) : (Fa.glo "TooMany").ok K = true := B.ck 87
theorem k88 (B : BB K mg) : oinB K (ga K "TooMany") = true := B.ck 88
theorem k89 (B : BB K mg) : eqO (PySem.W.findIn K (.ref (ga K "TooMany")) "count") (some none) = true := B.ck 89
theorem k90 (B : BB K mg) : mkB K (ga K "Table") = true := B.ck 90
theorem k91 (B : BB K mg) : mtB K (ga K "Table") "owned" = true := B.ck 91
theorem k92 (B : BB K mg) : (Fa.glo "_law_meets").ok K = true := B.ck 92
theorem k93 (B : BB K mg) : (Fa.glo "_law_best_front").ok K = true := B.ck 93
theorem k94 (B : BB K mg) : (Fa.glo "_law_fronts").ok K = true := B.ck 94
theorem k95 (B : BB K mg) : (Fa.glo "_law_alive").ok K = true := B.ck 95
theorem k96 (B : BB K mg) : (Fa.glo "death").ok K = true := B.ck 96
theorem k97 (B : BB K mg) : (Fa.free "zip").ok K = true := B.ck 97
theorem k98 (B : BB K mg) : mtB K (ga K "Table") "is_pick" = true := B.ck 98
theorem k99 (B : BB K mg) : (Fa.glo "InvalidPick").ok K = true := B.ck 99
theorem k100 (B : BB K mg) : oinB K (ga K "InvalidPick") = true := B.ck 100
theorem k101 (B : BB K mg) : eqO (PySem.W.findIn K (.ref (ga K "InvalidPick")) "value") (some none) = true := B.ck 101
theorem k102 (B : BB K mg) : mtB K (ga K "Table") "matrix" = true := B.ck 102
theorem k103 (B : BB K mg) : bnB K (ga K "Ratio") .Add = true := B.ck 103
theorem k104 (B : BB K mg) : (Fa.glo "dot").ok K = true := B.ck 104
theorem k105 (B : BB K mg) : (Fa.glo "made").ok K = true := B.ck 105
theorem k106 (B : BB K mg) : mtB K (ga K "Ratio") "below" = true := B.ck 106
theorem k107 (B : BB K mg) : (Fa.glo "best_row").ok K = true := B.ck 107
theorem k108 (B : BB K mg) : (Fa.glo "best_of").ok K = true := B.ck 108
theorem k109 (B : BB K mg) : (Fa.glo "best_step").ok K = true := B.ck 109
theorem k110 (B : BB K mg) : (Fa.glo "_law_given").ok K = true := B.ck 110
theorem k111 (B : BB K mg) : (Fa.glo "_law_from_right").ok K = true := B.ck 111
theorem k112 (B : BB K mg) : (Fa.glo "_law_take").ok K = true := B.ck 112
theorem k113 (B : BB K mg) : (Fa.glo "_law_number").ok K = true := B.ck 113
theorem k114 (B : BB K mg) : (Fa.glo "_law_few").ok K = true := B.ck 114
theorem k115 (B : BB K mg) : (Fa.glo "_law_handed").ok K = true := B.ck 115
theorem k116 (B : BB K mg) : (Fa.glo "_law_table").ok K = true := B.ck 116
theorem k117 (B : BB K mg) : (Fa.glo "_law_thin").ok K = true := B.ck 117
theorem k118 (B : BB K mg) : (Fa.glo "_law_spec").ok K = true := B.ck 118
theorem k119 (B : BB K mg) : (Fa.glo "_law_box").ok K = true := B.ck 119
theorem k120 (B : BB K mg) : (Fa.glo "_law_cell").ok K = true := B.ck 120
theorem k121 (B : BB K mg) : (Fa.glo "law").ok K = true := B.ck 121
theorem cl1 (B : BB K mg) : ClF (GG K) 1 ["own_places"] := ⟨rfl, (clB_ok (k4 B)).1, siB_ok (k5 B), by decide +kernel, (clB_ok (k4 B)).2⟩
theorem sl0 (B : BB K mg) : SlF (GG K) 0 := ⟨rfl, slB_ok (k10 B), siB_ok (k11 B)⟩
theorem isf (B : BB K mg) : IsF (GG K) [0, 1] := isB_ok (k9 B) (fun k hk => by
  simp only [List.mem_cons, List.not_mem_nil, or_false] at hk
  rcases hk with rfl | rfl
  · exact (.sl (sl0 B))
  · exact (.cl _ (cl1 B)))
theorem st0_down (B : BB K mg) : SlotF (GG K) 0 "down" 0 := ⟨_, stB_ok (k26 B)⟩
theorem st0_up (B : BB K mg) : SlotF (GG K) 0 "up" 1 := ⟨_, stB_ok (k27 B)⟩
theorem eqf0 (B : BB K mg) : EqF (GG K) [0, 1] 0 (ma K (ga K "Ratio") "__eq__") := eqFB_ok (Γ := GG K) (cs := [0, 1]) (k := 0) (k33 B)
theorem nef0 (B : BB K mg) : NeF (GG K) 0 := neB_ok (Γ := GG K) (k := 0) (k34 B)
noncomputable def b_Tabled__lend_ : SF := (sRet (eOp1 gLen (eOp1 (gSlot 1 0) (eVar 0))))
noncomputable def D_Tabled__lend_ : List D → Store → Res := fnD 1 b_Tabled__lend_
theorem p_Tabled__lend_ (B : BB K mg) {ξ : Xx} (cdv : Value) (A : Around) (outer : List Env) (s : Shared) (H : Hp) (Ex : XK) (hr : Room 0 (A.deeper (envOfC d_Tabled__lend_.qual d_Tabled__lend_.scope s.heap.objs.size (d_Tabled__lend_.at_ (GG K).K) cdv))) :
    PSs (cxOf (L2.CX P w) P w (GG K).K mg base ["self"] d_Tabled__lend_.qual d_Tabled__lend_.scope (d_Tabled__lend_.at_ (GG K).K) cdv A outer s H Ex) d_Tabled__lend_.body (dS (GG K) ξ b_Tabled__lend_ (fun c d' _ H => Ex c d' H)) := by
  have hh : Here (GG K) P w mg base 0 (cxOf (L2.CX P w) P w (GG K).K mg base ["self"] d_Tabled__lend_.qual d_Tabled__lend_.scope (d_Tabled__lend_.at_ (GG K).K) cdv A outer s H Ex) (fun c d' _ H => Ex c d' H) := here_of hr
  exact (dss_one (ds_ret (de_b1 (cr_len hh.K) (B.free (k2 B)) (by decide +kernel) (dv_of (de_fld hh.K (cl1 B) (i := 0) rfl (de_var 0))))))
theorem c_Tabled__lend_ (B : BB K mg) : CalR (GG K) P w mg base 1 (ma K (ga K "Table") "__len__") 1 D_Tabled__lend_ := calR_of (Γ := GG K) (k := 0) (d := d_Tabled__lend_) (ξ := ⟨0, .none, none⟩) (body := b_Tabled__lend_) B 4 sc_Tabled__lend_ (p_Tabled__lend_ B) (fun _ _ _ _ _ _ us hl => match us, hl with | [_], _ => rfl)
noncomputable def b_is_integer : SF := (sRet (eAnd (eOp2 (gIsi [0, 1]) (eVar 0) (eC (.ty "int"))) (eNot (eOp2 (gIsi [0, 1]) (eVar 0) (eC (.ty "bool"))))))
noncomputable def D_is_integer : List D → Store → Res := fnD 1 b_is_integer
theorem p_is_integer (B : BB K mg) {ξ : Xx} (cdv : Value) (A : Around) (outer : List Env) (s : Shared) (H : Hp) (Ex : XK) (hr : Room 0 (A.deeper (envOfC d_is_integer.qual d_is_integer.scope s.heap.objs.size (d_is_integer.at_ (GG K).K) cdv))) :
    PSs (cxOf (L2.CX P w) P w (GG K).K mg base ["value"] d_is_integer.qual d_is_integer.scope (d_is_integer.at_ (GG K).K) cdv A outer s H Ex) d_is_integer.body (dS (GG K) ξ b_is_integer (fun c d' _ H => Ex c d' H)) := by
  have hh : Here (GG K) P w mg base 0 (cxOf (L2.CX P w) P w (GG K).K mg base ["value"] d_is_integer.qual d_is_integer.scope (d_is_integer.at_ (GG K).K) cdv A outer s H Ex) (fun c d' _ H => Ex c d' H) := here_of hr
  exact (dss_one (ds_ret (de_and (de_b2 (cr_isi hh.K (isf B)) (B.free (k7 B)) (by decide +kernel) (de_var 0) (de_ty (B.free (k12 B)) (by decide +kernel))) (de_one (de_not (de_b2 (cr_isi hh.K (isf B)) (B.free (k7 B)) (by decide +kernel) (de_var 0) (de_ty (B.free (k8 B)) (by decide +kernel))))))))
theorem c_is_integer (B : BB K mg) : Cal (GG K) P w mg base 1 "is_integer" 1 D_is_integer := cal_of (Γ := GG K) (k := 0) (d := d_is_integer) (ξ := ⟨0, .none, none⟩) (body := b_is_integer) B 7 sc_is_integer (k13 B) (p_is_integer B) (fun _ _ _ _ _ _ us hl => match us, hl with | [_], _ => rfl)
theorem c_InvalidCountd__initd_ (B : BB K mg) : ExF (GG K) P w mg base 1 "InvalidCount" 13 "value" := exf_of (d := d_InvalidCountd__initd_) (t := "a value is not a count that is asked for here") B 8 sc_InvalidCountd__initd_ (k16 B) (k17 B) (k18 B) (fun _ _ _ _ _ _ => pss_cons (ps_expr (pe_binit (bsB_ok (B.glo (k14 B)) (k15 B)) (pa_cons (pv 0) (pa_cons pe_str pa_nil)))) (pss_one (ps_ost (pv 0) (pv 1)))) (fun _ _ _ _ _ _ us hl => match us, hl with | [_, _], _ => rfl)
noncomputable def b_Table_need_place : SF := (sIf (eOr (eNot (eCall 1 D_is_integer (aCons (eVar 1) aNil))) (eNot (eChain iLe iLt (eC (.int 0)) (eVar 1) (eOp1 gLen (eOp1 (gSlot 1 0) (eVar 0)))))) (sRaise 13 "value" (eVar 1)) sNil)
noncomputable def D_Table_need_place : List D → Store → Res := fnD 2 b_Table_need_place
theorem p_Table_need_place (B : BB K mg) {ξ : Xx} (cdv : Value) (A : Around) (outer : List Env) (s : Shared) (H : Hp) (Ex : XK) (hr : Room 2 (A.deeper (envOfC d_Table_need_place.qual d_Table_need_place.scope s.heap.objs.size (d_Table_need_place.at_ (GG K).K) cdv))) :
    PSs (cxOf (L2.CX P w) P w (GG K).K mg base ["self", "place"] d_Table_need_place.qual d_Table_need_place.scope (d_Table_need_place.at_ (GG K).K) cdv A outer s H Ex) d_Table_need_place.body (dS (GG K) ξ b_Table_need_place (fun c d' _ H => Ex c d' H)) := by
  have hh : Here (GG K) P w mg base 2 (cxOf (L2.CX P w) P w (GG K).K mg base ["self", "place"] d_Table_need_place.qual d_Table_need_place.scope (d_Table_need_place.at_ (GG K).K) cdv A outer s H Ex) (fun c d' _ H => Ex c d' H) := here_of hr
  exact (dss_one (ds_if (PW.pt (dw_or (dt_not (dt_val (de_call hh (c_is_integer B) (da_cons (de_var 1) da_nil)))) (dw_or1 (dt_not (dt_chain op_iLe op_iLt de_int (de_var 1) (de_b1 (cr_len hh.K) (B.free (k2 B)) (by decide +kernel) (dv_of (de_fld hh.K (cl1 B) (i := 0) rfl (de_var 0))))))))) (dss_one (ds_raise hh (c_InvalidCountd__initd_ B) rfl (de_var 1))) dss_nil))
theorem c_Table_need_place (B : BB K mg) : CalR (GG K) P w mg base 3 (ma K (ga K "Table") "need_place") 2 D_Table_need_place := calR_of (Γ := GG K) (k := 2) (d := d_Table_need_place) (ξ := ⟨0, .none, none⟩) (body := b_Table_need_place) B 6 sc_Table_need_place (p_Table_need_place B) (fun _ _ _ _ _ _ us hl => match us, hl with | [_, _], _ => rfl)
noncomputable def b_Table_owner : SF := (sSeq (sExpr (eMeth 1 2 D_Table_need_place (eVar 0) (aCons (eVar 1) aNil)))
    (sRet (eOp2 gIx (eOp2 gIx (eOp1 (gSlot 1 0) (eVar 0)) (eVar 1)) (eC (.int 1)))))
noncomputable def D_Table_owner : List D → Store → Res := fnD 2 b_Table_owner
theorem p_Table_owner (B : BB K mg) {ξ : Xx} (cdv : Value) (A : Around) (outer : List Env) (s : Shared) (H : Hp) (Ex : XK) (hr : Room 3 (A.deeper (envOfC d_Table_owner.qual d_Table_owner.scope s.heap.objs.size (d_Table_owner.at_ (GG K).K) cdv))) :
    PSs (cxOf (L2.CX P w) P w (GG K).K mg base ["self", "place"] d_Table_owner.qual d_Table_owner.scope (d_Table_owner.at_ (GG K).K) cdv A outer s H Ex) d_Table_owner.body (dS (GG K) ξ b_Table_owner (fun c d' _ H => Ex c d' H)) := by
  have hh : Here (GG K) P w mg base 3 (cxOf (L2.CX P w) P w (GG K).K mg base ["self", "place"] d_Table_owner.qual d_Table_owner.scope (d_Table_owner.at_ (GG K).K) cdv A outer s H Ex) (fun c d' _ H => Ex c d' H) := here_of hr
  exact (dss_cons (ds_expr (de_meth hh (.cl _ (cl1 B)) (mtB_ok (k19 B)) (c_Table_need_place B) (de_var 0) (da_cons (de_var 1) da_nil)))
    (dss_one (ds_ret (de_ix hh.K (dv_of (de_ix hh.K (dv_of (de_fld hh.K (cl1 B) (i := 0) rfl (de_var 0))) (de_var 1))) de_int))))
theorem c_Table_owner (B : BB K mg) : CalR (GG K) P w mg base 4 (ma K (ga K "Table") "owner") 2 D_Table_owner := calR_of (Γ := GG K) (k := 3) (d := d_Table_owner) (ξ := ⟨0, .none, none⟩) (body := b_Table_owner) B 5 sc_Table_owner (p_Table_owner B) (fun _ _ _ _ _ _ us hl => match us, hl with | [_, _], _ => rfl)
noncomputable def b_Table_rows : SF := (sSeq (sExpr (eMeth 1 2 D_Table_need_place (eVar 0) (aCons (eVar 1) aNil)))
    (sRet (eOp1 gListOf (eOp2 gIx (eOp2 gIx (eOp1 (gSlot 1 0) (eVar 0)) (eVar 1)) (eC (.int 2))))))
noncomputable def D_Table_rows : List D → Store → Res := fnD 2 b_Table_rows
theorem p_Table_rows (B : BB K mg) {ξ : Xx} (cdv : Value) (A : Around) (outer : List Env) (s : Shared) (H : Hp) (Ex : XK) (hr : Room 3 (A.deeper (envOfC d_Table_rows.qual d_Table_rows.scope s.heap.objs.size (d_Table_rows.at_ (GG K).K) cdv))) :
    PSs (cxOf (L2.CX P w) P w (GG K).K mg base ["self", "place"] d_Table_rows.qual d_Table_rows.scope (d_Table_rows.at_ (GG K).K) cdv A outer s H Ex) d_Table_rows.body (dS (GG K) ξ b_Table_rows (fun c d' _ H => Ex c d' H)) := by
  have hh : Here (GG K) P w mg base 3 (cxOf (L2.CX P w) P w (GG K).K mg base ["self", "place"] d_Table_rows.qual d_Table_rows.scope (d_Table_rows.at_ (GG K).K) cdv A outer s H Ex) (fun c d' _ H => Ex c d' H) := here_of hr
  exact (dss_cons (ds_expr (de_meth hh (.cl _ (cl1 B)) (mtB_ok (k19 B)) (c_Table_need_place B) (de_var 0) (da_cons (de_var 1) da_nil)))
    (dss_one (ds_ret (de_t1 (cr_list hh.K) (B.free (k24 B)) (by decide +kernel) (dv_of (de_ix hh.K (dv_of (de_ix hh.K (dv_of (de_fld hh.K (cl1 B) (i := 0) rfl (de_var 0))) (de_var 1))) de_int))))))
theorem c_Table_rows (B : BB K mg) : CalR (GG K) P w mg base 4 (ma K (ga K "Table") "rows") 2 D_Table_rows := calR_of (Γ := GG K) (k := 3) (d := d_Table_rows) (ξ := ⟨0, .none, none⟩) (body := b_Table_rows) B 9 sc_Table_rows (p_Table_rows B) (fun _ _ _ _ _ _ us hl => match us, hl with | [_, _], _ => rfl)
noncomputable def b_Ratio_bottom : SF := (sRet (eOp1 (gSlot 0 0) (eVar 0)))
noncomputable def D_Ratio_bottom : List D → Store → Res := fnD 1 b_Ratio_bottom
theorem p_Ratio_bottom (B : BB K mg) {ξ : Xx} (cdv : Value) (A : Around) (outer : List Env) (s : Shared) (H : Hp) (Ex : XK) (hr : Room 0 (A.deeper (envOfC d_Ratio_bottom.qual d_Ratio_bottom.scope s.heap.objs.size (d_Ratio_bottom.at_ (GG K).K) cdv))) :
    PSs (cxOf (L2.CX P w) P w (GG K).K mg base ["self"] d_Ratio_bottom.qual d_Ratio_bottom.scope (d_Ratio_bottom.at_ (GG K).K) cdv A outer s H Ex) d_Ratio_bottom.body (dS (GG K) ξ b_Ratio_bottom (fun c d' _ H => Ex c d' H)) := by
  have hh : Here (GG K) P w mg base 0 (cxOf (L2.CX P w) P w (GG K).K mg base ["self"] d_Ratio_bottom.qual d_Ratio_bottom.scope (d_Ratio_bottom.at_ (GG K).K) cdv A outer s H Ex) (fun c d' _ H => Ex c d' H) := here_of hr
  exact (dss_one (ds_ret (de_slot hh.K (sl0 B) (st0_down B) (de_var 0))))
theorem c_Ratio_bottom (B : BB K mg) : CalR (GG K) P w mg base 1 (pa K (ga K "Ratio") "bottom") 1 D_Ratio_bottom := calR_of (Γ := GG K) (k := 0) (d := d_Ratio_bottom) (ξ := ⟨0, .none, none⟩) (body := b_Ratio_bottom) B 13 sc_Ratio_bottom (p_Ratio_bottom B) (fun _ _ _ _ _ _ us hl => match us, hl with | [_], _ => rfl)
noncomputable def b_Ratio_top : SF := (sRet (eOp1 (gSlot 0 1) (eVar 0)))
noncomputable def D_Ratio_top : List D → Store → Res := fnD 1 b_Ratio_top
theorem p_Ratio_top (B : BB K mg) {ξ : Xx} (cdv : Value) (A : Around) (outer : List Env) (s : Shared) (H : Hp) (Ex : XK) (hr : Room 0 (A.deeper (envOfC d_Ratio_top.qual d_Ratio_top.scope s.heap.objs.size (d_Ratio_top.at_ (GG K).K) cdv))) :
    PSs (cxOf (L2.CX P w) P w (GG K).K mg base ["self"] d_Ratio_top.qual d_Ratio_top.scope (d_Ratio_top.at_ (GG K).K) cdv A outer s H Ex) d_Ratio_top.body (dS (GG K) ξ b_Ratio_top (fun c d' _ H => Ex c d' H)) := by
  have hh : Here (GG K) P w mg base 0 (cxOf (L2.CX P w) P w (GG K).K mg base ["self"] d_Ratio_top.qual d_Ratio_top.scope (d_Ratio_top.at_ (GG K).K) cdv A outer s H Ex) (fun c d' _ H => Ex c d' H) := here_of hr
  exact (dss_one (ds_ret (de_slot hh.K (sl0 B) (st0_up B) (de_var 0))))
theorem c_Ratio_top (B : BB K mg) : CalR (GG K) P w mg base 1 (pa K (ga K "Ratio") "top") 1 D_Ratio_top := calR_of (Γ := GG K) (k := 0) (d := d_Ratio_top) (ξ := ⟨0, .none, none⟩) (body := b_Ratio_top) B 14 sc_Ratio_top (p_Ratio_top B) (fun _ _ _ _ _ _ us hl => match us, hl with | [_], _ => rfl)
noncomputable def b_parts : SF := (sSeq (sIf (eOp2 (gIsi [0, 1]) (eVar 0) (eC (.cls 0))) (sRet (eTup (aCons (eOp1 (gProp 0 D_Ratio_top) (eVar 0)) (aCons (eOp1 (gProp 0 D_Ratio_bottom) (eVar 0)) aNil)))) sNil)
    (sRet (eTup (aCons (eVar 0) (aCons (eC (.int 1)) aNil)))))
noncomputable def D_parts : List D → Store → Res := fnD 1 b_parts
theorem p_parts (B : BB K mg) {ξ : Xx} (cdv : Value) (A : Around) (outer : List Env) (s : Shared) (H : Hp) (Ex : XK) (hr : Room 2 (A.deeper (envOfC d_parts.qual d_parts.scope s.heap.objs.size (d_parts.at_ (GG K).K) cdv))) :
    PSs (cxOf (L2.CX P w) P w (GG K).K mg base ["number"] d_parts.qual d_parts.scope (d_parts.at_ (GG K).K) cdv A outer s H Ex) d_parts.body (dS (GG K) ξ b_parts (fun c d' _ H => Ex c d' H)) := by
  have hh : Here (GG K) P w mg base 2 (cxOf (L2.CX P w) P w (GG K).K mg base ["number"] d_parts.qual d_parts.scope (d_parts.at_ (GG K).K) cdv A outer s H Ex) (fun c d' _ H => Ex c d' H) := here_of hr
  exact (dss_cons (ds_if (dt_val (de_b2 (cr_isi hh.K (isf B)) (B.free (k7 B)) (by decide +kernel) (de_var 0) (de_glob hh.mg (B.cls (k28 B) rfl)))) (dss_one (ds_ret (de_tup (da_cons (de_prop hh (sl0 B) (prB_ok (Γ := GG K) (k30 B)) (c_Ratio_top B) (de_var 0)) (da_cons (de_prop hh (sl0 B) (prB_ok (Γ := GG K) (k29 B)) (c_Ratio_bottom B) (de_var 0)) da_nil))))) dss_nil)
    (dss_one (ds_ret (de_tup (da_cons (de_var 0) (da_cons de_int da_nil))))))
theorem c_parts (B : BB K mg) : Cal (GG K) P w mg base 3 "parts" 1 D_parts := cal_of (Γ := GG K) (k := 2) (d := d_parts) (ξ := ⟨0, .none, none⟩) (body := b_parts) B 12 sc_parts (k31 B) (p_parts B) (fun _ _ _ _ _ _ us hl => match us, hl with | [_], _ => rfl)
noncomputable def b_is_number : SF := (sRet (eOr (eOp2 (gIsi [0, 1]) (eVar 0) (eC (.cls 0))) (eCall 1 D_is_integer (aCons (eVar 0) aNil))))
noncomputable def D_is_number : List D → Store → Res := fnD 1 b_is_number
theorem p_is_number (B : BB K mg) {ξ : Xx} (cdv : Value) (A : Around) (outer : List Env) (s : Shared) (H : Hp) (Ex : XK) (hr : Room 1 (A.deeper (envOfC d_is_number.qual d_is_number.scope s.heap.objs.size (d_is_number.at_ (GG K).K) cdv))) :
    PSs (cxOf (L2.CX P w) P w (GG K).K mg base ["value"] d_is_number.qual d_is_number.scope (d_is_number.at_ (GG K).K) cdv A outer s H Ex) d_is_number.body (dS (GG K) ξ b_is_number (fun c d' _ H => Ex c d' H)) := by
  have hh : Here (GG K) P w mg base 1 (cxOf (L2.CX P w) P w (GG K).K mg base ["value"] d_is_number.qual d_is_number.scope (d_is_number.at_ (GG K).K) cdv A outer s H Ex) (fun c d' _ H => Ex c d' H) := here_of hr
  exact (dss_one (ds_ret (de_or (de_b2 (cr_isi hh.K (isf B)) (B.free (k7 B)) (by decide +kernel) (de_var 0) (de_glob hh.mg (B.cls (k28 B) rfl))) (de_one (de_call hh (c_is_integer B) (da_cons (de_var 0) da_nil))))))
theorem c_is_number (B : BB K mg) : Cal (GG K) P w mg base 2 "is_number" 1 D_is_number := cal_of (Γ := GG K) (k := 1) (d := d_is_number) (ξ := ⟨0, .none, none⟩) (body := b_is_number) B 15 sc_is_number (k32 B) (p_is_number B) (fun _ _ _ _ _ _ us hl => match us, hl with | [_], _ => rfl)
noncomputable def b_Ratiod__eqd_ : SF := (sSeq (sIf (eNot (eCall 1 D_is_number (aCons (eVar 1) aNil))) (sRet (eC (.bl false))) sNil)
    (sRet (eOp2 gEq (eTup (aCons (eOp1 (gSlot 0 1) (eVar 0)) (aCons (eOp1 (gSlot 0 0) (eVar 0)) aNil))) (eCall 1 D_parts (aCons (eVar 1) aNil)))))
noncomputable def D_Ratiod__eqd_ : List D → Store → Res := fnD 2 b_Ratiod__eqd_
theorem p_Ratiod__eqd_ (B : BB K mg) {ξ : Xx} (cdv : Value) (A : Around) (outer : List Env) (s : Shared) (H : Hp) (Ex : XK) (hr : Room 3 (A.deeper (envOfC d_Ratiod__eqd_.qual d_Ratiod__eqd_.scope s.heap.objs.size (d_Ratiod__eqd_.at_ (GG K).K) cdv))) :
    PSs (cxOf (L2.CX P w) P w (GG K).K mg base ["self", "other"] d_Ratiod__eqd_.qual d_Ratiod__eqd_.scope (d_Ratiod__eqd_.at_ (GG K).K) cdv A outer s H Ex) d_Ratiod__eqd_.body (dS (GG K) ξ b_Ratiod__eqd_ (fun c d' _ H => Ex c d' H)) := by
  have hh : Here (GG K) P w mg base 3 (cxOf (L2.CX P w) P w (GG K).K mg base ["self", "other"] d_Ratiod__eqd_.qual d_Ratiod__eqd_.scope (d_Ratiod__eqd_.at_ (GG K).K) cdv A outer s H Ex) (fun c d' _ H => Ex c d' H) := here_of hr
  exact (dss_cons (ds_if (dt_not (dt_val (de_call hh (c_is_number B) (da_cons (de_var 1) da_nil)))) (dss_one (ds_ret de_bl)) dss_nil)
    (dss_one (ds_ret (de_cmp (op_gEq hh.K hh.u64) (de_tup (da_cons (de_slot hh.K (sl0 B) (st0_up B) (de_var 0)) (da_cons (de_slot hh.K (sl0 B) (st0_down B) (de_var 0)) da_nil))) (de_call hh (c_parts B) (da_cons (de_var 1) da_nil))))))
theorem c_Ratiod__eqd_ (B : BB K mg) : CalR (GG K) P w mg base 4 (ma K (ga K "Ratio") "__eq__") 2 D_Ratiod__eqd_ := calR_of (Γ := GG K) (k := 3) (d := d_Ratiod__eqd_) (ξ := ⟨0, .none, none⟩) (body := b_Ratiod__eqd_) B 11 sc_Ratiod__eqd_ (p_Ratiod__eqd_ B) (fun _ _ _ _ _ _ us hl => match us, hl with | [_, _], _ => rfl)
noncomputable def b_meets : SF := (sRet (eOp1 gAny (eLc false [2] (itSeq (eVar 1)) (tgN 2) eYes (eOp2 (gOwnNe [0, 1] 0 D_Ratiod__eqd_) (eOp2 gIx (eVar 0) (eVar 2)) (eC (.int 0))))))
noncomputable def D_meets : List D → Store → Res := fnD 3 b_meets
theorem p_meets (B : BB K mg) {ξ : Xx} (cdv : Value) (A : Around) (outer : List Env) (s : Shared) (H : Hp) (Ex : XK) (hr : Room 5 (A.deeper (envOfC d_meets.qual d_meets.scope s.heap.objs.size (d_meets.at_ (GG K).K) cdv))) :
    PSs (cxOf (L2.CX P w) P w (GG K).K mg base ["row", "front", "place"] d_meets.qual d_meets.scope (d_meets.at_ (GG K).K) cdv A outer s H Ex) d_meets.body (dS (GG K) ξ b_meets (fun c d' _ H => Ex c d' H)) := by
  have hh : Here (GG K) P w mg base 5 (cxOf (L2.CX P w) P w (GG K).K mg base ["row", "front", "place"] d_meets.qual d_meets.scope (d_meets.at_ (GG K).K) cdv A outer s H Ex) (fun c d' _ H => Ex c d' H) := here_of hr
  exact (dss_one (ds_ret (de_b1 (cr_gAny hh.K rfl) (B.free (k22 B)) (by decide +kernel) (dv_of (de_lc (q := false) rfl sc_meets.nd (diq_seqT hh.K (dv_of (de_var 1))) (blkOk_by (own := [("place", 2)]) (by kernel_rfl)) (fun _ _ _ _ _ => (dg_name sc_meets.nd)) (fun _ _ _ _ _ => dts_nil) (fun _ _ _ _ _ => (de_cmp (op_ownNe hh.blk (eqf0 B) (nef0 B) (c_Ratiod__eqd_ B)) (de_ix hh.blk.K (dv_of (de_var 0)) (de_var 2)) de_int)))))))
theorem c_meets (B : BB K mg) : Cal (GG K) P w mg base 6 "meets" 2 D_meets := cal_of (Γ := GG K) (k := 5) (d := d_meets) (ξ := ⟨0, .none, none⟩) (body := b_meets) B 10 sc_meets (k35 B) (p_meets B) (fun _ _ _ _ _ _ us hl => match us, hl with | [_, _], _ => rfl)
noncomputable def b_best_front : SF := (sSeq (sAcc 2 aNil)
    (sSeq (sFor (itRange1 (aCons (eOp1 (gLenO 1 D_Tabled__lend_) (eVar 0)) aNil)) (tgN 3) (sSeq (sAsg (tgN 4) (eLc false [5] (itSeq (eMeth 1 2 D_Table_rows (eVar 0) (aCons (eVar 3) aNil))) (tgN 5) eYes (eCall 2 D_meets (aCons (eVar 5) (aCons (eVar 1) aNil)))))
    (sIf (eIf (eOp2 gEq (eMeth 1 2 D_Table_owner (eVar 0) (aCons (eVar 3) aNil)) (eC (.str "steerer"))) (eOp1 gAny (eVar 4)) (eOp1 gAll (eVar 4))) (sApp 2 (eVar 3)) sNil)))
    (sRet (eVar 2))))
noncomputable def D_best_front : List D → Store → Res := fnD 6 b_best_front
theorem p_best_front (B : BB K mg) {ξ : Xx} (cdv : Value) (A : Around) (outer : List Env) (s : Shared) (H : Hp) (Ex : XK) (hr : Room 6 (A.deeper (envOfC d_best_front.qual d_best_front.scope s.heap.objs.size (d_best_front.at_ (GG K).K) cdv))) :
    PSs (cxOf (L2.CX P w) P w (GG K).K mg base ["table", "front", "found", "place", "met", "row"] d_best_front.qual d_best_front.scope (d_best_front.at_ (GG K).K) cdv A outer s H Ex) d_best_front.body (dS (GG K) ξ b_best_front (fun c d' _ H => Ex c d' H)) := by
  have hh : Here (GG K) P w mg base 6 (cxOf (L2.CX P w) P w (GG K).K mg base ["table", "front", "found", "place", "met", "row"] d_best_front.qual d_best_front.scope (d_best_front.at_ (GG K).K) cdv A outer s H Ex) (fun c d' _ H => Ex c d' H) := here_of hr
  exact (dss_cons (ds_acc sc_best_front.nd da_nil)
    (dss_cons (ds_for (passes_of rfl) rfl (di_range1 (da_cons (de_b1 (cr_lenO (k := 1) hh (spB_ok (k6 B)).1 (spB_ok (k6 B)).2 (c_Tabled__lend_ B)) (B.free (k2 B)) (by decide +kernel) (dv_of (de_var 0))) da_nil) (B.free (k3 B))) (dg_name sc_best_front.nd) (dss_cons (ds_lcs (q := false) rfl sc_best_front.nd (blkOk_by (own := [("row", 5)]) (by kernel_rfl)) (diq_seqT hh.K (dv_of (de_meth hh (.cl _ (cl1 B)) (mtB_ok (k25 B)) (c_Table_rows B) (de_var 0) (da_cons (de_var 3) da_nil)))) (fun _ _ _ _ _ => (dg_name sc_best_front.nd)) (fun _ _ _ _ _ => dts_nil) (fun _ _ _ _ _ => (de_call hh.blk (c_meets B) (da_cons (de_var 5) (da_cons (de_var 1) da_nil)))))
    (dss_one (ds_if (dt_if (dt_cmp (op_gEq hh.K hh.u64) (de_meth hh (.cl _ (cl1 B)) (mtB_ok (k20 B)) (c_Table_owner B) (de_var 0) (da_cons (de_var 3) da_nil)) (de_glob hh.mg (B.str (k21 B)))) (dt_val (de_b1 (cr_gAny hh.K rfl) (B.free (k22 B)) (by decide +kernel) (dv_of (de_var 4)))) (dt_val (de_b1 (cr_gAll hh.K rfl) (B.free (k23 B)) (by decide +kernel) (dv_of (de_var 4))))) (dss_one (ds_app (i := 2) hh.K (pe_bm PySem.F.plainAttrs_list PySem.F.slot_list_append PySem.F.type_list_append mt_append (pv 2) (pa_cons (de_var 3) pa_nil)))) dss_nil))))
    (dss_one (ds_ret (de_var 2)))))
theorem c_best_front (B : BB K mg) : Cal (GG K) P w mg base 7 "best_front" 2 D_best_front := cal_of (Γ := GG K) (k := 6) (d := d_best_front) (ξ := ⟨0, .none, none⟩) (body := b_best_front) B 3 sc_best_front (k36 B) (p_best_front B) (fun _ _ _ _ _ _ us hl => match us, hl with | [_, _], _ => rfl)
noncomputable def b_alive_in : SF := (sRet (eLc true [1, 2] (itEnum (aCons (eVar 0) aNil)) (tgT 2 (tsCons (tgN 1) (tsCons (tgN 2) tsNil))) (eOp2 (gOwnNe [0, 1] 0 D_Ratiod__eqd_) (eVar 2) (eC (.int 0))) (eVar 1)))
noncomputable def D_alive_in : List D → Store → Res := fnD 3 b_alive_in
theorem p_alive_in (B : BB K mg) {ξ : Xx} (cdv : Value) (A : Around) (outer : List Env) (s : Shared) (H : Hp) (Ex : XK) (hr : Room 5 (A.deeper (envOfC d_alive_in.qual d_alive_in.scope s.heap.objs.size (d_alive_in.at_ (GG K).K) cdv))) :
    PSs (cxOf (L2.CX P w) P w (GG K).K mg base ["held", "place", "amount"] d_alive_in.qual d_alive_in.scope (d_alive_in.at_ (GG K).K) cdv A outer s H Ex) d_alive_in.body (dS (GG K) ξ b_alive_in (fun c d' _ H => Ex c d' H)) := by
  have hh : Here (GG K) P w mg base 5 (cxOf (L2.CX P w) P w (GG K).K mg base ["held", "place", "amount"] d_alive_in.qual d_alive_in.scope (d_alive_in.at_ (GG K).K) cdv A outer s H Ex) (fun c d' _ H => Ex c d' H) := here_of hr
  exact (dss_one (ds_ret (de_lc (q := true) rfl sc_alive_in.nd (diq (di_enum hh.K (B.free (k37 B)) (da_cons (de_var 0) da_nil))) (blkOk_by (own := [("place", 1), ("amount", 2)]) (by kernel_rfl)) (fun _ _ _ _ _ => (dg_tup hh.blk.K rfl (dgs_cons (dg_name sc_alive_in.nd) (dgs_cons (dg_name sc_alive_in.nd) dgs_nil)))) (fun _ _ _ _ _ => (dts_one (dt_cmp (op_ownNe hh.blk (eqf0 B) (nef0 B) (c_Ratiod__eqd_ B)) (de_var 2) de_int))) (fun _ _ _ _ _ => (de_var 1)))))
theorem c_alive_in (B : BB K mg) : Cal (GG K) P w mg base 6 "alive_in" 1 D_alive_in := cal_of (Γ := GG K) (k := 5) (d := d_alive_in) (ξ := ⟨0, .none, none⟩) (body := b_alive_in) B 16 sc_alive_in (k38 B) (p_alive_in B) (fun _ _ _ _ _ _ us hl => match us, hl with | [_], _ => rfl)
theorem c_InvalidNumberd__initd_ (B : BB K mg) : ExF (GG K) P w mg base 1 "InvalidNumber" 3 "value" := exf_of (d := d_InvalidNumberd__initd_) (t := "a value is not a number that is asked for here") B 20 sc_InvalidNumberd__initd_ (k39 B) (k40 B) (k41 B) (fun _ _ _ _ _ _ => pss_cons (ps_expr (pe_binit (bsB_ok (B.glo (k14 B)) (k15 B)) (pa_cons (pv 0) (pa_cons pe_str pa_nil)))) (pss_one (ps_ost (pv 0) (pv 1)))) (fun _ _ _ _ _ _ us hl => match us, hl with | [_, _], _ => rfl)
theorem c_ByZerod__initd_ (B : BB K mg) : ExF0 (GG K) P w mg base 1 "ByZero" 4 := exf0_of (d := d_ByZerod__initd_) (t := "a number is divided by 0") B 21 sc_ByZerod__initd_ (k42 B) (k43 B) (fun _ _ _ _ _ _ => pss_one (ps_expr (pe_binit (bsB_ok (B.glo (k14 B)) (k15 B)) (pa_cons (pv 0) (pa_cons pe_str pa_nil))))) (fun _ _ _ _ _ _ us hl => match us, hl with | [_], _ => rfl)
noncomputable def b_common_divisor : SF := (sSeq (sWhile (eOp2 gNe (eVar 1) (eC (.int 0))) (sPar 0 1 (aCons (eVar 1) (aCons (eOp2 iModN (eVar 0) (eVar 1)) aNil))))
    (sRet (eOp1 gAbs (eVar 0))))
noncomputable def D_common_divisor : List D → Store → Res := fnD 2 b_common_divisor
theorem p_common_divisor (B : BB K mg) {ξ : Xx} (cdv : Value) (A : Around) (outer : List Env) (s : Shared) (H : Hp) (Ex : XK) (hr : Room 0 (A.deeper (envOfC d_common_divisor.qual d_common_divisor.scope s.heap.objs.size (d_common_divisor.at_ (GG K).K) cdv))) :
    PSs (cxOf (L2.CX P w) P w (GG K).K mg base ["one", "other"] d_common_divisor.qual d_common_divisor.scope (d_common_divisor.at_ (GG K).K) cdv A outer s H Ex) d_common_divisor.body (dS (GG K) ξ b_common_divisor (fun c d' _ H => Ex c d' H)) := by
  have hh : Here (GG K) P w mg base 0 (cxOf (L2.CX P w) P w (GG K).K mg base ["one", "other"] d_common_divisor.qual d_common_divisor.scope (d_common_divisor.at_ (GG K).K) cdv A outer s H Ex) (fun c d' _ H => Ex c d' H) := here_of hr
  exact (dss_cons (ds_while (passes_of rfl) (dt_cmp (op_gNe hh.K hh.u64) (de_var 1) de_int) (dss_one (ds_par rfl sc_common_divisor.nd (da_cons (de_var 1) (da_cons (de_op op_iModN (de_var 0) (de_var 1)) da_nil)))))
    (dss_one (ds_ret (de_b1 (cr_abs) (B.free (k44 B)) (by decide +kernel) (dv_of (de_var 0))))))
theorem c_common_divisor (B : BB K mg) : Cal (GG K) P w mg base 1 "common_divisor" 2 D_common_divisor := cal_of (Γ := GG K) (k := 0) (d := d_common_divisor) (ξ := ⟨0, .none, none⟩) (body := b_common_divisor) B 22 sc_common_divisor (k45 B) (p_common_divisor B) (fun _ _ _ _ _ _ us hl => match us, hl with | [_, _], _ => rfl)
noncomputable def b_Ratiod__initd_ : SF := (sSeq (sIf (eNot (eCall 1 D_is_integer (aCons (eVar 1) aNil))) (sRaise 3 "value" (eVar 1)) sNil)
    (sSeq (sIf (eNot (eCall 1 D_is_integer (aCons (eVar 2) aNil))) (sRaise 3 "value" (eVar 2)) sNil)
    (sSeq (sIf (eOp2 gEq (eVar 2) (eC (.int 0))) (sRaise0 4) sNil)
    (sSeq (sAsg (tgN 3) (eIf (eOp2 iGt (eVar 2) (eC (.int 0))) (eCall 2 D_common_divisor (aCons (eVar 1) (aCons (eVar 2) aNil))) (eOp1 iNeg (eCall 2 D_common_divisor (aCons (eVar 1) (aCons (eVar 2) aNil))))))
    sPass))))
noncomputable def I_Ratiod__initd_ : List D → Store → ResA := initD true 4 b_Ratiod__initd_ (eOp2 iDivN (eVar 1) (eVar 3)) (eOp2 iDivN (eVar 2) (eVar 3))
theorem i_Ratiod__initd_ (B : BB K mg) {fd : FuncData} (F : FunD (GG K).K d_Ratiod__initd_.name d_Ratiod__initd_.qual d_Ratiod__initd_.params d_Ratiod__initd_.body d_Ratiod__initd_.scope (d_Ratiod__initd_.dvs (GG K).K) [] (d_Ratiod__initd_.at_ (GG K).K) fd) : FnOk P w (GG K).K mg base (L2.CX P w) 3 (d_Ratiod__initd_.at_ (GG K).K) fd ["self", "top", "bottom"] (spI (GG K) 0 2 I_Ratiod__initd_) := init_of (sw := true) (Γ := GG K) (k := 2) (d := d_Ratiod__initd_) (body := b_Ratiod__initd_) F sc_Ratiod__initd_ rfl rfl (sl0 B) (st0_up B) (st0_down B) fun ξ cdv A outer s H Ex hr => by
  have hh : Here (GG K) P w mg base 2 (cxOf (L2.CX P w) P w (GG K).K mg base ["self", "top", "bottom", "piece"] d_Ratiod__initd_.qual d_Ratiod__initd_.scope (d_Ratiod__initd_.at_ (GG K).K) cdv A outer s H Ex) (fun c d' _ H => Ex c d' H) := here_of hr
  exact (di_cons (ds_if (dt_not (dt_val (de_call hh (c_is_integer B) (da_cons (de_var 1) da_nil)))) (dss_one (ds_raise hh (c_InvalidNumberd__initd_ B) rfl (de_var 1))) dss_nil)
    (di_cons (ds_if (dt_not (dt_val (de_call hh (c_is_integer B) (da_cons (de_var 2) da_nil)))) (dss_one (ds_raise hh (c_InvalidNumberd__initd_ B) rfl (de_var 2))) dss_nil)
    (di_cons (ds_if (dt_cmp (op_gEq hh.K hh.u64) (de_var 2) de_int) (dss_one (ds_raise0 hh (c_ByZerod__initd_ B) rfl)) dss_nil)
    (di_cons (ds_set sc_Ratiod__initd_.nd (de_if (dt_cmp op_iGt (de_var 2) de_int) (de_call hh (c_common_divisor B) (da_cons (de_var 1) (da_cons (de_var 2) da_nil))) (de_un un_iNeg (de_call hh (c_common_divisor B) (da_cons (de_var 1) (da_cons (de_var 2) da_nil))))))
    (di_tail (pss_cons (SlX.ps_sl (pv 0) (de_op op_iDivN (de_var 1) (de_var 3))) (pss_one (SlX.ps_sl (pv 0) (de_op op_iDivN (de_var 2) (de_var 3))))))))))
theorem mk_Ratiod__initd__2 (B : BB K mg) : Mak (GG K) P w mg base 3 "Ratio" 0 2 [] I_Ratiod__initd_ := mak_of (ps := ["self", "top", "bottom"]) (d := d_Ratiod__initd_) B 19 (k28 B) (k46 B) (fun fd F => i_Ratiod__initd_ B F) (fun fd F => binds_dfl F 3 1 (by intro h; cases h) rfl (fun W => by show Reps (GG K) W [] _; exact Reps.nil) (fun _ _ _ _ _ _ _ us its hu hi => match us, its, hu, hi with | [_, _, _], [_], _, _ => ⟨_, rfl, rfl⟩))
theorem mk_Ratiod__initd__1 (B : BB K mg) : Mak (GG K) P w mg base 3 "Ratio" 0 2 [.int 1] I_Ratiod__initd_ := mak_of (ps := ["self", "top", "bottom"]) (d := d_Ratiod__initd_) B 19 (k28 B) (k46 B) (fun fd F => i_Ratiod__initd_ B F) (fun fd F => binds_dfl F 2 0 (by intro h; cases h) rfl (fun W => by show Reps (GG K) W [.int 1] _; exact Reps.cons (by simp only [Rep]; rfl) (Reps.nil)) (fun _ _ _ _ _ _ _ us its hu hi => match us, its, hu, hi with | [_, _], [_], _, _ => ⟨_, rfl, rfl⟩))
noncomputable def b_as_ratio : SF := (sSeq (sIf (eNot (eCall 1 D_is_number (aCons (eVar 0) aNil))) (sRaise 3 "value" (eVar 0)) sNil)
    (sRet (eNew 0 2 [] I_Ratiod__initd_ (aCons (eOp2 gIx (eCall 1 D_parts (aCons (eVar 0) aNil)) (eC (.int 0))) (aCons (eOp2 gIx (eCall 1 D_parts (aCons (eVar 0) aNil)) (eC (.int 1))) aNil)))))
noncomputable def D_as_ratio : List D → Store → Res := fnD 1 b_as_ratio
theorem p_as_ratio (B : BB K mg) {ξ : Xx} (cdv : Value) (A : Around) (outer : List Env) (s : Shared) (H : Hp) (Ex : XK) (hr : Room 4 (A.deeper (envOfC d_as_ratio.qual d_as_ratio.scope s.heap.objs.size (d_as_ratio.at_ (GG K).K) cdv))) :
    PSs (cxOf (L2.CX P w) P w (GG K).K mg base ["number"] d_as_ratio.qual d_as_ratio.scope (d_as_ratio.at_ (GG K).K) cdv A outer s H Ex) d_as_ratio.body (dS (GG K) ξ b_as_ratio (fun c d' _ H => Ex c d' H)) := by
  have hh : Here (GG K) P w mg base 4 (cxOf (L2.CX P w) P w (GG K).K mg base ["number"] d_as_ratio.qual d_as_ratio.scope (d_as_ratio.at_ (GG K).K) cdv A outer s H Ex) (fun c d' _ H => Ex c d' H) := here_of hr
  exact (dss_cons (ds_if (dt_not (dt_val (de_call hh (c_is_number B) (da_cons (de_var 0) da_nil)))) (dss_one (ds_raise hh (c_InvalidNumberd__initd_ B) rfl (de_var 0))) dss_nil)
    (dss_one (ds_ret (de_new hh (mk_Ratiod__initd__2 B) (da_cons (de_ix hh.K (dv_of (de_call hh (c_parts B) (da_cons (de_var 0) da_nil))) de_int) (da_cons (de_ix hh.K (dv_of (de_call hh (c_parts B) (da_cons (de_var 0) da_nil))) de_int) da_nil))))))
theorem c_as_ratio (B : BB K mg) : Cal (GG K) P w mg base 5 "as_ratio" 1 D_as_ratio := cal_of (Γ := GG K) (k := 4) (d := d_as_ratio) (ξ := ⟨0, .none, none⟩) (body := b_as_ratio) B 18 sc_as_ratio (k47 B) (p_as_ratio B) (fun _ _ _ _ _ _ us hl => match us, hl with | [_], _ => rfl)
noncomputable def b_is_amount : SF := (sRet (eAnd (eCall 1 D_is_number (aCons (eVar 0) aNil)) (eOp2 iGe (eOp2 gIx (eCall 1 D_parts (aCons (eVar 0) aNil)) (eC (.int 0))) (eC (.int 0)))))
noncomputable def D_is_amount : List D → Store → Res := fnD 1 b_is_amount
theorem p_is_amount (B : BB K mg) {ξ : Xx} (cdv : Value) (A : Around) (outer : List Env) (s : Shared) (H : Hp) (Ex : XK) (hr : Room 3 (A.deeper (envOfC d_is_amount.qual d_is_amount.scope s.heap.objs.size (d_is_amount.at_ (GG K).K) cdv))) :
    PSs (cxOf (L2.CX P w) P w (GG K).K mg base ["value"] d_is_amount.qual d_is_amount.scope (d_is_amount.at_ (GG K).K) cdv A outer s H Ex) d_is_amount.body (dS (GG K) ξ b_is_amount (fun c d' _ H => Ex c d' H)) := by
  have hh : Here (GG K) P w mg base 3 (cxOf (L2.CX P w) P w (GG K).K mg base ["value"] d_is_amount.qual d_is_amount.scope (d_is_amount.at_ (GG K).K) cdv A outer s H Ex) (fun c d' _ H => Ex c d' H) := here_of hr
  exact (dss_one (ds_ret (de_and (de_call hh (c_is_number B) (da_cons (de_var 0) da_nil)) (de_one (de_cmp op_iGe (de_ix hh.K (dv_of (de_call hh (c_parts B) (da_cons (de_var 0) da_nil))) de_int) de_int)))))
theorem c_is_amount (B : BB K mg) : Cal (GG K) P w mg base 4 "is_amount" 1 D_is_amount := cal_of (Γ := GG K) (k := 3) (d := d_is_amount) (ξ := ⟨0, .none, none⟩) (body := b_is_amount) B 24 sc_is_amount (k48 B) (p_is_amount B) (fun _ _ _ _ _ _ us hl => match us, hl with | [_], _ => rfl)
noncomputable def b_is_list : SF := (sRet (eIsiT [0, 1] (eVar 0) (aCons (eC (.ty "list")) (aCons (eC (.ty "tuple")) aNil))))
noncomputable def D_is_list : List D → Store → Res := fnD 1 b_is_list
theorem p_is_list (B : BB K mg) {ξ : Xx} (cdv : Value) (A : Around) (outer : List Env) (s : Shared) (H : Hp) (Ex : XK) (hr : Room 0 (A.deeper (envOfC d_is_list.qual d_is_list.scope s.heap.objs.size (d_is_list.at_ (GG K).K) cdv))) :
    PSs (cxOf (L2.CX P w) P w (GG K).K mg base ["value"] d_is_list.qual d_is_list.scope (d_is_list.at_ (GG K).K) cdv A outer s H Ex) d_is_list.body (dS (GG K) ξ b_is_list (fun c d' _ H => Ex c d' H)) := by
  have hh : Here (GG K) P w mg base 0 (cxOf (L2.CX P w) P w (GG K).K mg base ["value"] d_is_list.qual d_is_list.scope (d_is_list.at_ (GG K).K) cdv A outer s H Ex) (fun c d' _ H => Ex c d' H) := here_of hr
  exact (dss_one (ds_ret (de_isiT hh.K (isf B) aCons_ne (B.free (k7 B)) (by decide +kernel) (de_var 0) (da_cons (de_ty (B.free (k24 B)) (by decide +kernel)) (da_cons (de_ty (B.free (k49 B)) (by decide +kernel)) da_nil)))))
theorem c_is_list (B : BB K mg) : Cal (GG K) P w mg base 1 "is_list" 1 D_is_list := cal_of (Γ := GG K) (k := 0) (d := d_is_list) (ξ := ⟨0, .none, none⟩) (body := b_is_list) B 25 sc_is_list (k50 B) (p_is_list B) (fun _ _ _ _ _ _ us hl => match us, hl with | [_], _ => rfl)
noncomputable def b_are_amounts : SF := (sRet (eAnd (eCall 1 D_is_list (aCons (eVar 0) aNil)) (eAnd (eOp2 gEq (eOp1 gLen (eVar 0)) (eVar 1)) (eOp1 gAll (eLc false [2] (itSeq (eVar 0)) (tgN 2) eYes (eCall 1 D_is_amount (aCons (eVar 2) aNil)))))))
noncomputable def D_are_amounts : List D → Store → Res := fnD 3 b_are_amounts
theorem p_are_amounts (B : BB K mg) {ξ : Xx} (cdv : Value) (A : Around) (outer : List Env) (s : Shared) (H : Hp) (Ex : XK) (hr : Room 4 (A.deeper (envOfC d_are_amounts.qual d_are_amounts.scope s.heap.objs.size (d_are_amounts.at_ (GG K).K) cdv))) :
    PSs (cxOf (L2.CX P w) P w (GG K).K mg base ["value", "many", "item"] d_are_amounts.qual d_are_amounts.scope (d_are_amounts.at_ (GG K).K) cdv A outer s H Ex) d_are_amounts.body (dS (GG K) ξ b_are_amounts (fun c d' _ H => Ex c d' H)) := by
  have hh : Here (GG K) P w mg base 4 (cxOf (L2.CX P w) P w (GG K).K mg base ["value", "many", "item"] d_are_amounts.qual d_are_amounts.scope (d_are_amounts.at_ (GG K).K) cdv A outer s H Ex) (fun c d' _ H => Ex c d' H) := here_of hr
  exact (dss_one (ds_ret (de_and (de_call hh (c_is_list B) (da_cons (de_var 0) da_nil)) (de_and (de_cmp (op_gEq hh.K hh.u64) (de_b1 (cr_len hh.K) (B.free (k2 B)) (by decide +kernel) (dv_of (de_var 0))) (de_var 1)) (de_one (de_b1 (cr_gAll hh.K rfl) (B.free (k23 B)) (by decide +kernel) (dv_of (de_lc (q := false) rfl sc_are_amounts.nd (diq_seqT hh.K (dv_of (de_var 0))) (blkOk_by (own := [("item", 2)]) (by kernel_rfl)) (fun _ _ _ _ _ => (dg_name sc_are_amounts.nd)) (fun _ _ _ _ _ => dts_nil) (fun _ _ _ _ _ => (de_call hh.blk (c_is_amount B) (da_cons (de_var 2) da_nil)))))))))))
theorem c_are_amounts (B : BB K mg) : Cal (GG K) P w mg base 5 "are_amounts" 2 D_are_amounts := cal_of (Γ := GG K) (k := 4) (d := d_are_amounts) (ξ := ⟨0, .none, none⟩) (body := b_are_amounts) B 23 sc_are_amounts (k51 B) (p_are_amounts B) (fun _ _ _ _ _ _ us hl => match us, hl with | [_, _], _ => rfl)
theorem c_InvalidAmountsd__initd_ (B : BB K mg) : ExF (GG K) P w mg base 1 "InvalidAmounts" 11 "value" := exf_of (d := d_InvalidAmountsd__initd_) (t := "a value is not amounts of a table") B 26 sc_InvalidAmountsd__initd_ (k52 B) (k53 B) (k54 B) (fun _ _ _ _ _ _ => pss_cons (ps_expr (pe_binit (bsB_ok (B.glo (k14 B)) (k15 B)) (pa_cons (pv 0) (pa_cons pe_str pa_nil)))) (pss_one (ps_ost (pv 0) (pv 1)))) (fun _ _ _ _ _ _ us hl => match us, hl with | [_, _], _ => rfl)
noncomputable def b_told_amounts : SF := (sSeq (sIf (eNot (eCall 2 D_are_amounts (aCons (eVar 1) (aCons (eOp1 (gLenO 1 D_Tabled__lend_) (eVar 0)) aNil)))) (sRaise 11 "value" (eVar 1)) sNil)
    (sRet (eLc false [2] (itSeq (eVar 1)) (tgN 2) eYes (eCall 1 D_as_ratio (aCons (eVar 2) aNil)))))
noncomputable def D_told_amounts : List D → Store → Res := fnD 3 b_told_amounts
theorem p_told_amounts (B : BB K mg) {ξ : Xx} (cdv : Value) (A : Around) (outer : List Env) (s : Shared) (H : Hp) (Ex : XK) (hr : Room 5 (A.deeper (envOfC d_told_amounts.qual d_told_amounts.scope s.heap.objs.size (d_told_amounts.at_ (GG K).K) cdv))) :
    PSs (cxOf (L2.CX P w) P w (GG K).K mg base ["table", "amounts", "amount"] d_told_amounts.qual d_told_amounts.scope (d_told_amounts.at_ (GG K).K) cdv A outer s H Ex) d_told_amounts.body (dS (GG K) ξ b_told_amounts (fun c d' _ H => Ex c d' H)) := by
  have hh : Here (GG K) P w mg base 5 (cxOf (L2.CX P w) P w (GG K).K mg base ["table", "amounts", "amount"] d_told_amounts.qual d_told_amounts.scope (d_told_amounts.at_ (GG K).K) cdv A outer s H Ex) (fun c d' _ H => Ex c d' H) := here_of hr
  exact (dss_cons (ds_if (dt_not (dt_val (de_call hh (c_are_amounts B) (da_cons (de_var 1) (da_cons (de_b1 (cr_lenO (k := 1) hh (spB_ok (k6 B)).1 (spB_ok (k6 B)).2 (c_Tabled__lend_ B)) (B.free (k2 B)) (by decide +kernel) (dv_of (de_var 0))) da_nil))))) (dss_one (ds_raise hh (c_InvalidAmountsd__initd_ B) rfl (de_var 1))) dss_nil)
    (dss_one (ds_ret (de_lc (q := false) rfl sc_told_amounts.nd (diq_seqT hh.K (dv_of (de_var 1))) (blkOk_by (own := [("amount", 2)]) (by kernel_rfl)) (fun _ _ _ _ _ => (dg_name sc_told_amounts.nd)) (fun _ _ _ _ _ => dts_nil) (fun _ _ _ _ _ => (de_call hh.blk (c_as_ratio B) (da_cons (de_var 2) da_nil)))))))
theorem c_told_amounts (B : BB K mg) : Cal (GG K) P w mg base 6 "told_amounts" 2 D_told_amounts := cal_of (Γ := GG K) (k := 5) (d := d_told_amounts) (ξ := ⟨0, .none, none⟩) (body := b_told_amounts) B 17 sc_told_amounts (k55 B) (p_told_amounts B) (fun _ _ _ _ _ _ us hl => match us, hl with | [_, _], _ => rfl)
theorem c_InvalidTabled__initd_ (B : BB K mg) : ExF (GG K) P w mg base 1 "InvalidTable" 5 "value" := exf_of (d := d_InvalidTabled__initd_) (t := "a value is not what tables are made of") B 28 sc_InvalidTabled__initd_ (k57 B) (k58 B) (k59 B) (fun _ _ _ _ _ _ => pss_cons (ps_expr (pe_binit (bsB_ok (B.glo (k14 B)) (k15 B)) (pa_cons (pv 0) (pa_cons pe_str pa_nil)))) (pss_one (ps_ost (pv 0) (pv 1)))) (fun _ _ _ _ _ _ us hl => match us, hl with | [_, _], _ => rfl)
noncomputable def b_need_table : SF := (sIf (eNot (eOp2 (gIsi [0, 1]) (eVar 0) (eC (.cls 1)))) (sRaise 5 "value" (eVar 0)) sNil)
noncomputable def D_need_table : List D → Store → Res := fnD 1 b_need_table
theorem p_need_table (B : BB K mg) {ξ : Xx} (cdv : Value) (A : Around) (outer : List Env) (s : Shared) (H : Hp) (Ex : XK) (hr : Room 2 (A.deeper (envOfC d_need_table.qual d_need_table.scope s.heap.objs.size (d_need_table.at_ (GG K).K) cdv))) :
    PSs (cxOf (L2.CX P w) P w (GG K).K mg base ["table"] d_need_table.qual d_need_table.scope (d_need_table.at_ (GG K).K) cdv A outer s H Ex) d_need_table.body (dS (GG K) ξ b_need_table (fun c d' _ H => Ex c d' H)) := by
  have hh : Here (GG K) P w mg base 2 (cxOf (L2.CX P w) P w (GG K).K mg base ["table"] d_need_table.qual d_need_table.scope (d_need_table.at_ (GG K).K) cdv A outer s H Ex) (fun c d' _ H => Ex c d' H) := here_of hr
  exact (dss_one (ds_if (dt_not (dt_val (de_b2 (cr_isi hh.K (isf B)) (B.free (k7 B)) (by decide +kernel) (de_var 0) (de_glob hh.mg (B.cls (k56 B) rfl))))) (dss_one (ds_raise hh (c_InvalidTabled__initd_ B) rfl (de_var 0))) dss_nil))
theorem c_need_table (B : BB K mg) : Cal (GG K) P w mg base 3 "need_table" 1 D_need_table := cal_of (Γ := GG K) (k := 2) (d := d_need_table) (ξ := ⟨0, .none, none⟩) (body := b_need_table) B 27 sc_need_table (k60 B) (p_need_table B) (fun _ _ _ _ _ _ us hl => match us, hl with | [_], _ => rfl)
noncomputable def b_fronts : SF := (sSeq (sExpr (eCall 1 D_need_table (aCons (eVar 0) aNil)))
    (sSeq (sAsg (tgN 2) (eCell (aCons (eCall 1 D_alive_in (aCons (eCall 2 D_told_amounts (aCons (eVar 0) (aCons (eVar 1) aNil))) aNil)) aNil)))
    (sSeq (sAsg (tgN 3) (eCall 2 D_best_front (aCons (eVar 0) (aCons (eOp2 gIx (eVar 2) (eC (.int 0))) aNil))))
    (sSeq (sWhile (eOp2 (gInP true) (eVar 3) (eVar 2)) (sSeq (sAppC (eVar 2) (eVar 3))
    (sAsg (tgN 3) (eCall 2 D_best_front (aCons (eVar 0) (aCons (eVar 3) aNil))))))
    (sRet (eTup (aCons (eVar 2) (aCons (eMt gIdx (eVar 2) (eVar 3)) aNil))))))))
noncomputable def D_fronts : List D → Store → Res := fnD 4 b_fronts
theorem p_fronts (B : BB K mg) {ξ : Xx} (cdv : Value) (A : Around) (outer : List Env) (s : Shared) (H : Hp) (Ex : XK) (hr : Room 7 (A.deeper (envOfC d_fronts.qual d_fronts.scope s.heap.objs.size (d_fronts.at_ (GG K).K) cdv))) :
    PSs (cxOf (L2.CX P w) P w (GG K).K mg base ["table", "amounts", "found", "later"] d_fronts.qual d_fronts.scope (d_fronts.at_ (GG K).K) cdv A outer s H Ex) d_fronts.body (dS (GG K) ξ b_fronts (fun c d' _ H => Ex c d' H)) := by
  have hh : Here (GG K) P w mg base 7 (cxOf (L2.CX P w) P w (GG K).K mg base ["table", "amounts", "found", "later"] d_fronts.qual d_fronts.scope (d_fronts.at_ (GG K).K) cdv A outer s H Ex) (fun c d' _ H => Ex c d' H) := here_of hr
  exact (dss_cons (ds_expr (de_call hh (c_need_table B) (da_cons (de_var 0) da_nil)))
    (dss_cons (ds_set sc_fronts.nd (de_cell (da_cons (de_call hh (c_alive_in B) (da_cons (de_call hh (c_told_amounts B) (da_cons (de_var 0) (da_cons (de_var 1) da_nil))) da_nil)) da_nil)))
    (dss_cons (ds_set sc_fronts.nd (de_call hh (c_best_front B) (da_cons (de_var 0) (da_cons (de_ix hh.K (dv_of (de_var 2)) de_int) da_nil))))
    (dss_cons (ds_while (passes_of rfl) (dt_cmpW (op_gInPn hh.K (u65_of hh.u66)) (de_var 3) (dv_of (de_var 2))) (dss_cons (ds_appC hh.K (pe_bm PySem.F.plainAttrs_list PySem.F.slot_list_append PySem.F.type_list_append mt_append (de_var 2) (pa_cons (de_var 3) pa_nil)))
    (dss_one (ds_set sc_fronts.nd (de_call hh (c_best_front B) (da_cons (de_var 0) (da_cons (de_var 3) da_nil)))))))
    (dss_one (ds_ret (de_tup (da_cons (de_var 2) (da_cons (de_idx hh.K (u65_of hh.u66) PySem.F.type_list_index (dv_of (de_var 2)) (de_var 3)) da_nil)))))))))
theorem c_fronts (B : BB K mg) : Cal (GG K) P w mg base 8 "fronts" 2 D_fronts := cal_of (Γ := GG K) (k := 7) (d := d_fronts) (ξ := ⟨0, .none, none⟩) (body := b_fronts) B 2 sc_fronts (k61 B) (p_fronts B) (fun _ _ _ _ _ _ us hl => match us, hl with | [_, _], _ => rfl)
noncomputable def b_are_rows : SF := (sSeq (sIf (eOr (eNot (eCall 1 D_is_list (aCons (eVar 0) aNil))) (eNot (eChain iLe iLe (eC (.int 1)) (eOp1 gLen (eVar 0)) (eC (.int 4))))) (sRet (eC (.bl false))) sNil)
    (sRet (eOp1 gAll (eLc false [2] (itSeq (eVar 0)) (tgN 2) eYes (eCall 2 D_are_amounts (aCons (eVar 2) (aCons (eVar 1) aNil)))))))
noncomputable def D_are_rows : List D → Store → Res := fnD 3 b_are_rows
theorem p_are_rows (B : BB K mg) {ξ : Xx} (cdv : Value) (A : Around) (outer : List Env) (s : Shared) (H : Hp) (Ex : XK) (hr : Room 5 (A.deeper (envOfC d_are_rows.qual d_are_rows.scope s.heap.objs.size (d_are_rows.at_ (GG K).K) cdv))) :
    PSs (cxOf (L2.CX P w) P w (GG K).K mg base ["value", "many", "row"] d_are_rows.qual d_are_rows.scope (d_are_rows.at_ (GG K).K) cdv A outer s H Ex) d_are_rows.body (dS (GG K) ξ b_are_rows (fun c d' _ H => Ex c d' H)) := by
  have hh : Here (GG K) P w mg base 5 (cxOf (L2.CX P w) P w (GG K).K mg base ["value", "many", "row"] d_are_rows.qual d_are_rows.scope (d_are_rows.at_ (GG K).K) cdv A outer s H Ex) (fun c d' _ H => Ex c d' H) := here_of hr
  exact (dss_cons (ds_if (PW.pt (dw_or (dt_not (dt_val (de_call hh (c_is_list B) (da_cons (de_var 0) da_nil)))) (dw_or1 (dt_not (dt_chain op_iLe op_iLe de_int (de_b1 (cr_len hh.K) (B.free (k2 B)) (by decide +kernel) (dv_of (de_var 0))) (de_glob hh.mg (B.int (k63 B)))))))) (dss_one (ds_ret de_bl)) dss_nil)
    (dss_one (ds_ret (de_b1 (cr_gAll hh.K rfl) (B.free (k23 B)) (by decide +kernel) (dv_of (de_lc (q := false) rfl sc_are_rows.nd (diq_seqT hh.K (dv_of (de_var 0))) (blkOk_by (own := [("row", 2)]) (by kernel_rfl)) (fun _ _ _ _ _ => (dg_name sc_are_rows.nd)) (fun _ _ _ _ _ => dts_nil) (fun _ _ _ _ _ => (de_call hh.blk (c_are_amounts B) (da_cons (de_var 2) (da_cons (de_var 1) da_nil))))))))))
theorem c_are_rows (B : BB K mg) : Cal (GG K) P w mg base 6 "are_rows" 2 D_are_rows := cal_of (Γ := GG K) (k := 5) (d := d_are_rows) (ξ := ⟨0, .none, none⟩) (body := b_are_rows) B 32 sc_are_rows (k64 B) (p_are_rows B) (fun _ _ _ _ _ _ us hl => match us, hl with | [_, _], _ => rfl)
theorem c_InvalidRowsd__initd_ (B : BB K mg) : ExF (GG K) P w mg base 1 "InvalidRows" 9 "value" := exf_of (d := d_InvalidRowsd__initd_) (t := "a value is not the rows of a place") B 33 sc_InvalidRowsd__initd_ (k65 B) (k66 B) (k67 B) (fun _ _ _ _ _ _ => pss_cons (ps_expr (pe_binit (bsB_ok (B.glo (k14 B)) (k15 B)) (pa_cons (pv 0) (pa_cons pe_str pa_nil)))) (pss_one (ps_ost (pv 0) (pv 1)))) (fun _ _ _ _ _ _ us hl => match us, hl with | [_, _], _ => rfl)
theorem c_InvalidOwnerd__initd_ (B : BB K mg) : ExF (GG K) P w mg base 1 "InvalidOwner" 8 "value" := exf_of (d := d_InvalidOwnerd__initd_) (t := "a value is not an owner") B 35 sc_InvalidOwnerd__initd_ (k70 B) (k71 B) (k72 B) (fun _ _ _ _ _ _ => pss_cons (ps_expr (pe_binit (bsB_ok (B.glo (k14 B)) (k15 B)) (pa_cons (pv 0) (pa_cons pe_str pa_nil)))) (pss_one (ps_ost (pv 0) (pv 1)))) (fun _ _ _ _ _ _ us hl => match us, hl with | [_, _], _ => rfl)
noncomputable def b_need_owner : SF := (sIf (eOr (eNot (eOp2 (gIsi [0, 1]) (eVar 0) (eC (.ty "str")))) (eOp2 (gIn true) (eVar 0) (eC (.tup [.str "steerer", .str "foe"])))) (sRaise 8 "value" (eVar 0)) sNil)
noncomputable def D_need_owner : List D → Store → Res := fnD 1 b_need_owner
theorem p_need_owner (B : BB K mg) {ξ : Xx} (cdv : Value) (A : Around) (outer : List Env) (s : Shared) (H : Hp) (Ex : XK) (hr : Room 2 (A.deeper (envOfC d_need_owner.qual d_need_owner.scope s.heap.objs.size (d_need_owner.at_ (GG K).K) cdv))) :
    PSs (cxOf (L2.CX P w) P w (GG K).K mg base ["owner"] d_need_owner.qual d_need_owner.scope (d_need_owner.at_ (GG K).K) cdv A outer s H Ex) d_need_owner.body (dS (GG K) ξ b_need_owner (fun c d' _ H => Ex c d' H)) := by
  have hh : Here (GG K) P w mg base 2 (cxOf (L2.CX P w) P w (GG K).K mg base ["owner"] d_need_owner.qual d_need_owner.scope (d_need_owner.at_ (GG K).K) cdv A outer s H Ex) (fun c d' _ H => Ex c d' H) := here_of hr
  exact (dss_one (ds_if (PW.pt (dw_or (dt_not (dt_val (de_b2 (cr_isi hh.K (isf B)) (B.free (k7 B)) (by decide +kernel) (de_var 0) (de_ty (B.free (k69 B)) (by decide +kernel))))) (dw_or1 (dt_cmp (op_gNotIn hh.K) (de_var 0) (de_glob hh.mg (B.tup (k68 B))))))) (dss_one (ds_raise hh (c_InvalidOwnerd__initd_ B) rfl (de_var 0))) dss_nil))
theorem c_need_owner (B : BB K mg) : Cal (GG K) P w mg base 3 "need_owner" 1 D_need_owner := cal_of (Γ := GG K) (k := 2) (d := d_need_owner) (ξ := ⟨0, .none, none⟩) (body := b_need_owner) B 34 sc_need_owner (k73 B) (p_need_owner B) (fun _ _ _ _ _ _ us hl => match us, hl with | [_], _ => rfl)
theorem c_Duplicated__initd_ (B : BB K mg) : ExF (GG K) P w mg base 1 "Duplicate" 7 "name" := exf_of (d := d_Duplicated__initd_) (t := "something stands there twice") B 36 sc_Duplicated__initd_ (k74 B) (k75 B) (k76 B) (fun _ _ _ _ _ _ => pss_cons (ps_expr (pe_binit (bsB_ok (B.glo (k14 B)) (k15 B)) (pa_cons (pv 0) (pa_cons pe_str pa_nil)))) (pss_one (ps_ost (pv 0) (pv 1)))) (fun _ _ _ _ _ _ us hl => match us, hl with | [_, _], _ => rfl)
noncomputable def b_is_name : SF := (sSeq (sIf (eOr (eNot (eOp2 (gIsi [0, 1]) (eVar 0) (eC (.ty "str")))) (eOr (eNot (eChain iLe iLe (eC (.int 1)) (eOp1 gLen (eVar 0)) (eC (.int 8)))) (eOp2 (gIn true) (eOp2 gIx (eVar 0) (eC (.int 0))) (eC (.str "abcdefghijklmnopqrstuvwxyz"))))) (sRet (eC (.bl false))) sNil)
    (sRet (eOp1 gAll (eLc false [1] (itSeq (eVar 0)) (tgN 1) eYes (eOp2 (gIn false) (eVar 1) (eOp2 sCat (eC (.str "abcdefghijklmnopqrstuvwxyz")) (eC (.str "0123456789"))))))))
noncomputable def D_is_name : List D → Store → Res := fnD 2 b_is_name
theorem p_is_name (B : BB K mg) {ξ : Xx} (cdv : Value) (A : Around) (outer : List Env) (s : Shared) (H : Hp) (Ex : XK) (hr : Room 0 (A.deeper (envOfC d_is_name.qual d_is_name.scope s.heap.objs.size (d_is_name.at_ (GG K).K) cdv))) :
    PSs (cxOf (L2.CX P w) P w (GG K).K mg base ["value", "sign"] d_is_name.qual d_is_name.scope (d_is_name.at_ (GG K).K) cdv A outer s H Ex) d_is_name.body (dS (GG K) ξ b_is_name (fun c d' _ H => Ex c d' H)) := by
  have hh : Here (GG K) P w mg base 0 (cxOf (L2.CX P w) P w (GG K).K mg base ["value", "sign"] d_is_name.qual d_is_name.scope (d_is_name.at_ (GG K).K) cdv A outer s H Ex) (fun c d' _ H => Ex c d' H) := here_of hr
  exact (dss_cons (ds_if (PW.pt (dw_or (dt_not (dt_val (de_b2 (cr_isi hh.K (isf B)) (B.free (k7 B)) (by decide +kernel) (de_var 0) (de_ty (B.free (k69 B)) (by decide +kernel))))) (dw_or (dt_not (dt_chain op_iLe op_iLe de_int (de_b1 (cr_len hh.K) (B.free (k2 B)) (by decide +kernel) (dv_of (de_var 0))) (de_glob hh.mg (B.int (k79 B))))) (dw_or1 (dt_cmp (op_gNotIn hh.K) (de_ix hh.K (dv_of (de_var 0)) de_int) (de_glob hh.mg (B.str (k77 B)))))))) (dss_one (ds_ret de_bl)) dss_nil)
    (dss_one (ds_ret (de_b1 (cr_gAll hh.K rfl) (B.free (k23 B)) (by decide +kernel) (dv_of (de_lc (q := false) rfl sc_is_name.nd (diq_seqT hh.K (dv_of (de_var 0))) (blkOk_by (own := [("sign", 1)]) (by kernel_rfl)) (fun _ _ _ _ _ => (dg_name sc_is_name.nd)) (fun _ _ _ _ _ => dts_nil) (fun _ _ _ _ _ => (de_cmp (op_gIn hh.blk.K) (de_var 1) (de_op op_sCat (de_glob hh.blk.mg (B.str (k77 B))) (de_glob hh.blk.mg (B.str (k78 B))))))))))))
theorem c_is_name (B : BB K mg) : Cal (GG K) P w mg base 1 "is_name" 1 D_is_name := cal_of (Γ := GG K) (k := 0) (d := d_is_name) (ξ := ⟨0, .none, none⟩) (body := b_is_name) B 37 sc_is_name (k80 B) (p_is_name B) (fun _ _ _ _ _ _ us hl => match us, hl with | [_], _ => rfl)
theorem c_InvalidNamed__initd_ (B : BB K mg) : ExF (GG K) P w mg base 1 "InvalidName" 6 "value" := exf_of (d := d_InvalidNamed__initd_) (t := "a value is not a name") B 38 sc_InvalidNamed__initd_ (k81 B) (k82 B) (k83 B) (fun _ _ _ _ _ _ => pss_cons (ps_expr (pe_binit (bsB_ok (B.glo (k14 B)) (k15 B)) (pa_cons (pv 0) (pa_cons pe_str pa_nil)))) (pss_one (ps_ost (pv 0) (pv 1)))) (fun _ _ _ _ _ _ us hl => match us, hl with | [_, _], _ => rfl)
noncomputable def b_told_place : SF := (sSeq (sIf (eOr (eNot (eCall 1 D_is_list (aCons (eVar 0) aNil))) (eOp2 gNe (eOp1 gLen (eVar 0)) (eC (.int 3)))) (sRaise 5 "value" (eVar 0)) sNil)
    (sSeq (sAsg (tgT 3 (tsCons (tgN 3) (tsCons (tgN 4) (tsCons (tgN 5) tsNil)))) (eVar 0))
    (sSeq (sIf (eNot (eCall 1 D_is_name (aCons (eVar 3) aNil))) (sRaise 6 "value" (eVar 3)) sNil)
    (sSeq (sIf (eOp2 (gIn false) (eVar 3) (eVar 1)) (sRaise 7 "name" (eVar 3)) sNil)
    (sSeq (sExpr (eCall 1 D_need_owner (aCons (eVar 4) aNil)))
    (sSeq (sIf (eNot (eCall 2 D_are_rows (aCons (eVar 5) (aCons (eVar 2) aNil)))) (sRaise 9 "value" (eVar 5)) sNil)
    (sRet (eTup (aCons (eVar 3) (aCons (eVar 4) (aCons (eOp1 gTupOf (eLc false [7] (itSeq (eVar 5)) (tgN 7) eYes (eOp1 gTupOf (eLc false [6] (itSeq (eVar 7)) (tgN 6) eYes (eCall 1 D_as_ratio (aCons (eVar 6) aNil)))))) aNil)))))))))))
noncomputable def D_told_place : List D → Store → Res := fnD 8 b_told_place
theorem p_told_place (B : BB K mg) {ξ : Xx} (cdv : Value) (A : Around) (outer : List Env) (s : Shared) (H : Hp) (Ex : XK) (hr : Room 6 (A.deeper (envOfC d_told_place.qual d_told_place.scope s.heap.objs.size (d_told_place.at_ (GG K).K) cdv))) :
    PSs (cxOf (L2.CX P w) P w (GG K).K mg base ["item", "known", "many", "name", "owner", "rows", "number", "row"] d_told_place.qual d_told_place.scope (d_told_place.at_ (GG K).K) cdv A outer s H Ex) d_told_place.body (dS (GG K) ξ b_told_place (fun c d' _ H => Ex c d' H)) := by
  have hh : Here (GG K) P w mg base 6 (cxOf (L2.CX P w) P w (GG K).K mg base ["item", "known", "many", "name", "owner", "rows", "number", "row"] d_told_place.qual d_told_place.scope (d_told_place.at_ (GG K).K) cdv A outer s H Ex) (fun c d' _ H => Ex c d' H) := here_of hr
  exact (dss_cons (ds_if (PW.pt (dw_or (dt_not (dt_val (de_call hh (c_is_list B) (da_cons (de_var 0) da_nil)))) (dw_or1 (dt_cmp (op_gNe hh.K hh.u64) (de_b1 (cr_len hh.K) (B.free (k2 B)) (by decide +kernel) (dv_of (de_var 0))) de_int)))) (dss_one (ds_raise hh (c_InvalidTabled__initd_ B) rfl (de_var 0))) dss_nil)
    (dss_cons (ds_asg (de_var 0) (dg_tup hh.K rfl (dgs_cons (dg_name sc_told_place.nd) (dgs_cons (dg_name sc_told_place.nd) (dgs_cons (dg_name sc_told_place.nd) dgs_nil)))))
    (dss_cons (ds_if (dt_not (dt_val (de_call hh (c_is_name B) (da_cons (de_var 3) da_nil)))) (dss_one (ds_raise hh (c_InvalidNamed__initd_ B) rfl (de_var 3))) dss_nil)
    (dss_cons (ds_if (dt_cmp (op_gIn hh.K) (de_var 3) (de_var 1)) (dss_one (ds_raise hh (c_Duplicated__initd_ B) rfl (de_var 3))) dss_nil)
    (dss_cons (ds_expr (de_call hh (c_need_owner B) (da_cons (de_var 4) da_nil)))
    (dss_cons (ds_if (dt_not (dt_val (de_call hh (c_are_rows B) (da_cons (de_var 5) (da_cons (de_var 2) da_nil))))) (dss_one (ds_raise hh (c_InvalidRowsd__initd_ B) rfl (de_var 5))) dss_nil)
    (dss_one (ds_ret (de_tup (da_cons (de_var 3) (da_cons (de_var 4) (da_cons (de_t1 (cr_tuple hh.K) (B.free (k49 B)) (by decide +kernel) (dv_of (de_lc (q := false) rfl sc_told_place.nd (diq_seqT hh.K (dv_of (de_var 5))) (blkOk_by (own := [("row", 7)]) (by kernel_rfl)) (fun _ _ _ _ _ => (dg_name sc_told_place.nd)) (fun _ _ _ _ _ => dts_nil) (fun _ _ _ _ _ => (de_t1 (cr_tuple hh.blk.K) (B.free (k49 B)) (by decide +kernel) (dv_of (de_lc (q := false) rfl sc_told_place.nd (diq_seqT hh.blk.K (dv_of (de_var 7))) (blkOk_by (own := [("number", 6)]) (by kernel_rfl)) (fun _ _ _ _ _ => (dg_name sc_told_place.nd)) (fun _ _ _ _ _ => dts_nil) (fun _ _ _ _ _ => (de_call hh.blk.blk (c_as_ratio B) (da_cons (de_var 6) da_nil)))))))))) da_nil))))))))))))
theorem c_told_place (B : BB K mg) : Cal (GG K) P w mg base 7 "told_place" 3 D_told_place := cal_of (Γ := GG K) (k := 6) (d := d_told_place) (ξ := ⟨0, .none, none⟩) (body := b_told_place) B 31 sc_told_place (k84 B) (p_told_place B) (fun _ _ _ _ _ _ us hl => match us, hl with | [_, _, _], _ => rfl)
noncomputable def b_count_picks : SF := (sSeq (sAsg (tgN 1) (eC (.int 1)))
    (sSeq (sFor (itSeq (eVar 0)) (tgN 2) (sAsg (tgN 1) (eOp2 iMul (eVar 1) (eVar 2))))
    (sRet (eVar 1))))
noncomputable def D_count_picks : List D → Store → Res := fnD 3 b_count_picks
theorem p_count_picks (B : BB K mg) {ξ : Xx} (cdv : Value) (A : Around) (outer : List Env) (s : Shared) (H : Hp) (Ex : XK) (hr : Room 0 (A.deeper (envOfC d_count_picks.qual d_count_picks.scope s.heap.objs.size (d_count_picks.at_ (GG K).K) cdv))) :
    PSs (cxOf (L2.CX P w) P w (GG K).K mg base ["numbers", "found", "number"] d_count_picks.qual d_count_picks.scope (d_count_picks.at_ (GG K).K) cdv A outer s H Ex) d_count_picks.body (dS (GG K) ξ b_count_picks (fun c d' _ H => Ex c d' H)) := by
  have hh : Here (GG K) P w mg base 0 (cxOf (L2.CX P w) P w (GG K).K mg base ["numbers", "found", "number"] d_count_picks.qual d_count_picks.scope (d_count_picks.at_ (GG K).K) cdv A outer s H Ex) (fun c d' _ H => Ex c d' H) := here_of hr
  exact (dss_cons (ds_set sc_count_picks.nd de_int)
    (dss_cons (ds_for (passes_of rfl) rfl (di_seq hh.K (de_var 0)) (dg_name sc_count_picks.nd) (dss_one (ds_set sc_count_picks.nd (de_op op_iMul (de_var 1) (de_var 2)))))
    (dss_one (ds_ret (de_var 1)))))
theorem c_count_picks (B : BB K mg) : Cal (GG K) P w mg base 1 "count_picks" 1 D_count_picks := cal_of (Γ := GG K) (k := 0) (d := d_count_picks) (ξ := ⟨0, .none, none⟩) (body := b_count_picks) B 39 sc_count_picks (k85 B) (p_count_picks B) (fun _ _ _ _ _ _ us hl => match us, hl with | [_], _ => rfl)
theorem c_TooManyd__initd_ (B : BB K mg) : ExF (GG K) P w mg base 1 "TooMany" 10 "count" := exf_of (d := d_TooManyd__initd_) (t := "there are too many of them") B 40 sc_TooManyd__initd_ (k87 B) (k88 B) (k89 B) (fun _ _ _ _ _ _ => pss_cons (ps_expr (pe_binit (bsB_ok (B.glo (k14 B)) (k15 B)) (pa_cons (pv 0) (pa_cons pe_str pa_nil)))) (pss_one (ps_ost (pv 0) (pv 1)))) (fun _ _ _ _ _ _ us hl => match us, hl with | [_, _], _ => rfl)
noncomputable def b_Tabled__initd_ : SF := (sSeq (sIf (eOr (eNot (eCall 1 D_is_list (aCons (eVar 1) aNil))) (eNot (eChain iLe iLe (eC (.int 1)) (eOp1 gLen (eVar 1)) (eC (.int 5))))) (sRaise 5 "value" (eVar 1)) sNil)
    (sSeq (sAcc 2 aNil)
    (sSeq (sFor (itSeq (eVar 1)) (tgN 3) (sApp 2 (eCall 3 D_told_place (aCons (eVar 3) (aCons (eLc false [4, 5, 6] (itSeq (eVarT 2)) (tgT 3 (tsCons (tgN 4) (tsCons (tgN 5) (tsCons (tgN 6) tsNil)))) eYes (eVar 4)) (aCons (eOp1 gLen (eVar 1)) aNil))))))
    (sSeq (sAsg (tgN 7) (eCall 1 D_count_picks (aCons (eLc false [4, 5, 6] (itSeq (eVarT 2)) (tgT 3 (tsCons (tgN 4) (tsCons (tgN 5) (tsCons (tgN 6) tsNil)))) eYes (eOp1 gLen (eVar 6))) aNil)))
    (sSeq (sIf (eOp2 iGt (eVar 7) (eC (.int 100))) (sRaise 10 "count" (eVar 7)) sNil)
    sPass)))))
noncomputable def I_Tabled__initd_ : List D → Store → ResA := initC 8 b_Tabled__initd_ [(eOp1 gTupOf (eVar 2))]
theorem i_Tabled__initd_ (B : BB K mg) {fd : FuncData} (F : FunD (GG K).K d_Tabled__initd_.name d_Tabled__initd_.qual d_Tabled__initd_.params d_Tabled__initd_.body d_Tabled__initd_.scope (d_Tabled__initd_.dvs (GG K).K) [] (d_Tabled__initd_.at_ (GG K).K) fd) : FnOk P w (GG K).K mg base (L2.CX P w) 8 (d_Tabled__initd_.at_ (GG K).K) fd ["self", "places"] (spC (GG K) 1 1 ["own_places"] I_Tabled__initd_) := initC_of (Γ := GG K) (k := 7) (d := d_Tabled__initd_) (body := b_Tabled__initd_) F sc_Tabled__initd_ rfl rfl (cl1 B) (by decide) rfl fun ξ cdv A outer s H Ex hr => by
  have hh : Here (GG K) P w mg base 7 (cxOf (L2.CX P w) P w (GG K).K mg base ["self", "places", "found", "item", "name", "owner", "rows", "count"] d_Tabled__initd_.qual d_Tabled__initd_.scope (d_Tabled__initd_.at_ (GG K).K) cdv A outer s H Ex) (fun c d' _ H => Ex c d' H) := here_of hr
  exact (di_cons (ds_if (PW.pt (dw_or (dt_not (dt_val (de_call hh (c_is_list B) (da_cons (de_var 1) da_nil)))) (dw_or1 (dt_not (dt_chain op_iLe op_iLe de_int (de_b1 (cr_len hh.K) (B.free (k2 B)) (by decide +kernel) (dv_of (de_var 1))) (de_glob hh.mg (B.int (k62 B)))))))) (dss_one (ds_raise hh (c_InvalidTabled__initd_ B) rfl (de_var 1))) dss_nil)
    (di_cons (ds_acc sc_Tabled__initd_.nd da_nil)
    (di_cons (ds_for (passes_of rfl) rfl (di_seq hh.K (de_var 1)) (dg_name sc_Tabled__initd_.nd) (dss_one (ds_app (i := 2) hh.K (pe_bm PySem.F.plainAttrs_list PySem.F.slot_list_append PySem.F.type_list_append mt_append (pv 2) (pa_cons (de_call hh (c_told_place B) (da_cons (de_var 3) (da_cons (de_lc (q := false) rfl sc_Tabled__initd_.nd (diq_seqT hh.K (dv_var 2)) (blkOk_by (own := [("name", 4), ("owner", 5), ("rows", 6)]) (by kernel_rfl)) (fun _ _ _ _ _ => (dg_tup hh.blk.K rfl (dgs_cons (dg_name sc_Tabled__initd_.nd) (dgs_cons (dg_name sc_Tabled__initd_.nd) (dgs_cons (dg_name sc_Tabled__initd_.nd) dgs_nil))))) (fun _ _ _ _ _ => dts_nil) (fun _ _ _ _ _ => (de_var 4))) (da_cons (de_b1 (cr_len hh.K) (B.free (k2 B)) (by decide +kernel) (dv_of (de_var 1))) da_nil)))) pa_nil)))))
    (di_cons (ds_set sc_Tabled__initd_.nd (de_call hh (c_count_picks B) (da_cons (de_lc (q := false) rfl sc_Tabled__initd_.nd (diq_seqT hh.K (dv_var 2)) (blkOk_by (own := [("name", 4), ("owner", 5), ("rows", 6)]) (by kernel_rfl)) (fun _ _ _ _ _ => (dg_tup hh.blk.K rfl (dgs_cons (dg_name sc_Tabled__initd_.nd) (dgs_cons (dg_name sc_Tabled__initd_.nd) (dgs_cons (dg_name sc_Tabled__initd_.nd) dgs_nil))))) (fun _ _ _ _ _ => dts_nil) (fun _ _ _ _ _ => (de_b1 (cr_len hh.blk.K) (B.free (k2 B)) (by decide +kernel) (dv_of (de_var 6))))) da_nil)))
    (di_cons (ds_if (dt_cmp op_iGt (de_var 7) (de_glob hh.mg (B.int (k86 B)))) (dss_one (ds_raise hh (c_TooManyd__initd_ B) rfl (de_var 7))) dss_nil)
    (di_tail (pss_cons (ps_fld (pv 0) (de_t1 (cr_tuple hh.K) (B.free (k49 B)) (by decide +kernel) (dv_of (de_var 2))) rfl) pss_nil)))))))
theorem mk_Tabled__initd__1 (B : BB K mg) : MakC (GG K) P w mg base 8 "Table" 1 1 ["own_places"] [] I_Tabled__initd_ := makC_of (ps := ["self", "places"]) (d := d_Tabled__initd_) B 30 (k56 B) (k90 B) (fun fd F => i_Tabled__initd_ B F) (fun fd F => ⟨[], [], FunD.bindsN F (fun _ _ _ _ _ _ us hl => match us, hl with | [_, _], _ => rfl), .nil, fun W => Reps.nil⟩)
noncomputable def b_Table_owned : SF := (sSeq (sExpr (eCall 1 D_need_owner (aCons (eVar 1) aNil)))
    (sRet (eNewC 1 1 1 [] I_Tabled__initd_ (aCons (eLc false [2, 3, 4] (itSeq (eOp1 (gSlot 1 0) (eVar 0))) (tgT 3 (tsCons (tgN 2) (tsCons (tgN 3) (tsCons (tgN 4) tsNil)))) eYes (eTup (aCons (eVar 2) (aCons (eVar 1) (aCons (eVar 4) aNil))))) aNil))))
noncomputable def D_Table_owned : List D → Store → Res := fnD 5 b_Table_owned
theorem p_Table_owned (B : BB K mg) {ξ : Xx} (cdv : Value) (A : Around) (outer : List Env) (s : Shared) (H : Hp) (Ex : XK) (hr : Room 9 (A.deeper (envOfC d_Table_owned.qual d_Table_owned.scope s.heap.objs.size (d_Table_owned.at_ (GG K).K) cdv))) :
    PSs (cxOf (L2.CX P w) P w (GG K).K mg base ["self", "owner", "name", "before", "rows"] d_Table_owned.qual d_Table_owned.scope (d_Table_owned.at_ (GG K).K) cdv A outer s H Ex) d_Table_owned.body (dS (GG K) ξ b_Table_owned (fun c d' _ H => Ex c d' H)) := by
  have hh : Here (GG K) P w mg base 9 (cxOf (L2.CX P w) P w (GG K).K mg base ["self", "owner", "name", "before", "rows"] d_Table_owned.qual d_Table_owned.scope (d_Table_owned.at_ (GG K).K) cdv A outer s H Ex) (fun c d' _ H => Ex c d' H) := here_of hr
  exact (dss_cons (ds_expr (de_call hh (c_need_owner B) (da_cons (de_var 1) da_nil)))
    (dss_one (ds_ret (de_newC hh (mk_Tabled__initd__1 B) (da_cons (de_lc (q := false) rfl sc_Table_owned.nd (diq_seqT hh.K (dv_of (de_fld hh.K (cl1 B) (i := 0) rfl (de_var 0)))) (blkOk_by (own := [("name", 2), ("before", 3), ("rows", 4)]) (by kernel_rfl)) (fun _ _ _ _ _ => (dg_tup hh.blk.K rfl (dgs_cons (dg_name sc_Table_owned.nd) (dgs_cons (dg_name sc_Table_owned.nd) (dgs_cons (dg_name sc_Table_owned.nd) dgs_nil))))) (fun _ _ _ _ _ => dts_nil) (fun _ _ _ _ _ => (de_tup (da_cons (de_var 2) (da_cons (de_var 1) (da_cons (de_var 4) da_nil)))))) da_nil)))))
theorem c_Table_owned (B : BB K mg) : CalR (GG K) P w mg base 10 (ma K (ga K "Table") "owned") 2 D_Table_owned := calR_of (Γ := GG K) (k := 9) (d := d_Table_owned) (ξ := ⟨0, .none, none⟩) (body := b_Table_owned) B 29 sc_Table_owned (p_Table_owned B) (fun _ _ _ _ _ _ us hl => match us, hl with | [_, _], _ => rfl)
noncomputable def b__law_meets : SF := (sRet (eOp2 gNe (eLc false [2] (itSeq (eVar 1)) (tgN 2) (eOp2 iGt (eOp2 gIx (eOp2 gIx (eVar 0) (eVar 2)) (eC (.int 0))) (eC (.int 0))) (eVar 2)) (eLst aNil)))
noncomputable def D__law_meets : List D → Store → Res := fnD 3 b__law_meets
theorem p__law_meets (B : BB K mg) {ξ : Xx} (cdv : Value) (A : Around) (outer : List Env) (s : Shared) (H : Hp) (Ex : XK) (hr : Room 0 (A.deeper (envOfC d__law_meets.qual d__law_meets.scope s.heap.objs.size (d__law_meets.at_ (GG K).K) cdv))) :
    PSs (cxOf (L2.CX P w) P w (GG K).K mg base ["_law_row", "_law_front", "_law_k"] d__law_meets.qual d__law_meets.scope (d__law_meets.at_ (GG K).K) cdv A outer s H Ex) d__law_meets.body (dS (GG K) ξ b__law_meets (fun c d' _ H => Ex c d' H)) := by
  have hh : Here (GG K) P w mg base 0 (cxOf (L2.CX P w) P w (GG K).K mg base ["_law_row", "_law_front", "_law_k"] d__law_meets.qual d__law_meets.scope (d__law_meets.at_ (GG K).K) cdv A outer s H Ex) (fun c d' _ H => Ex c d' H) := here_of hr
  exact (dss_one (ds_ret (de_cmp (op_gNe hh.K hh.u64) (de_lc (q := false) rfl sc__law_meets.nd (diq_seqT hh.K (dv_of (de_var 1))) (blkOk_by (own := [("_law_k", 2)]) (by kernel_rfl)) (fun _ _ _ _ _ => (dg_name sc__law_meets.nd)) (fun _ _ _ _ _ => (dts_one (dt_cmp op_iGt (de_ix hh.blk.K (dv_of (de_ix hh.blk.K (dv_of (de_var 0)) (de_var 2))) de_int) de_int))) (fun _ _ _ _ _ => (de_var 2))) (de_lst da_nil))))
theorem c__law_meets (B : BB K mg) : Cal (GG K) P w mg base 1 "_law_meets" 2 D__law_meets := cal_of (Γ := GG K) (k := 0) (d := d__law_meets) (ξ := ⟨0, .none, none⟩) (body := b__law_meets) B 43 sc__law_meets (k92 B) (p__law_meets B) (fun _ _ _ _ _ _ us hl => match us, hl with | [_, _], _ => rfl)
noncomputable def b__law_best_front : SF := (sSeq (sAcc 2 aNil)
    (sSeq (sFor (itRange1 (aCons (eOp1 gLen (eVar 0)) aNil)) (tgN 3) (sSeq (sAsg (tgN 4) (eLc false [5] (itSeq (eOp2 gIx (eOp2 gIx (eVar 0) (eVar 3)) (eC (.int 2)))) (tgN 5) eYes (eCall 2 D__law_meets (aCons (eVar 5) (aCons (eVar 1) aNil)))))
    (sIf (eAnd (eOp2 (gInP false) (eC (.bl true)) (eVar 4)) (eOr (eOp2 gEq (eOp2 gIx (eOp2 gIx (eVar 0) (eVar 3)) (eC (.int 1))) (eC (.str "steerer"))) (eOp2 (gInP true) (eC (.bl false)) (eVar 4)))) (sApp 2 (eVar 3)) sNil)))
    (sRet (eVar 2))))
noncomputable def D__law_best_front : List D → Store → Res := fnD 6 b__law_best_front
theorem p__law_best_front (B : BB K mg) {ξ : Xx} (cdv : Value) (A : Around) (outer : List Env) (s : Shared) (H : Hp) (Ex : XK) (hr : Room 1 (A.deeper (envOfC d__law_best_front.qual d__law_best_front.scope s.heap.objs.size (d__law_best_front.at_ (GG K).K) cdv))) :
    PSs (cxOf (L2.CX P w) P w (GG K).K mg base ["_law_spec_here", "_law_front", "_law_found", "_law_k", "_law_met", "_law_row"] d__law_best_front.qual d__law_best_front.scope (d__law_best_front.at_ (GG K).K) cdv A outer s H Ex) d__law_best_front.body (dS (GG K) ξ b__law_best_front (fun c d' _ H => Ex c d' H)) := by
  have hh : Here (GG K) P w mg base 1 (cxOf (L2.CX P w) P w (GG K).K mg base ["_law_spec_here", "_law_front", "_law_found", "_law_k", "_law_met", "_law_row"] d__law_best_front.qual d__law_best_front.scope (d__law_best_front.at_ (GG K).K) cdv A outer s H Ex) (fun c d' _ H => Ex c d' H) := here_of hr
  exact (dss_cons (ds_acc sc__law_best_front.nd da_nil)
    (dss_cons (ds_for (passes_of rfl) rfl (di_range1 (da_cons (de_b1 (cr_len hh.K) (B.free (k2 B)) (by decide +kernel) (dv_of (de_var 0))) da_nil) (B.free (k3 B))) (dg_name sc__law_best_front.nd) (dss_cons (ds_lcs (q := false) rfl sc__law_best_front.nd (blkOk_by (own := [("_law_row", 5)]) (by kernel_rfl)) (diq_seqT hh.K (dv_of (de_ix hh.K (dv_of (de_ix hh.K (dv_of (de_var 0)) (de_var 3))) de_int))) (fun _ _ _ _ _ => (dg_name sc__law_best_front.nd)) (fun _ _ _ _ _ => dts_nil) (fun _ _ _ _ _ => (de_call hh.blk (c__law_meets B) (da_cons (de_var 5) (da_cons (de_var 1) da_nil)))))
    (dss_one (ds_if (PW.pt (dw_and (dt_cmpW (op_gInP hh.K (u65_of hh.u66)) de_bl (dv_of (de_var 4))) (dw_and1 (PW.pt (dw_or (dt_cmp (op_gEq hh.K hh.u64) (de_ix hh.K (dv_of (de_ix hh.K (dv_of (de_var 0)) (de_var 3))) de_int) de_str) (dw_or1 (dt_cmpW (op_gInPn hh.K (u65_of hh.u66)) de_bl (dv_of (de_var 4))))))))) (dss_one (ds_app (i := 2) hh.K (pe_bm PySem.F.plainAttrs_list PySem.F.slot_list_append PySem.F.type_list_append mt_append (pv 2) (pa_cons (de_var 3) pa_nil)))) dss_nil))))
    (dss_one (ds_ret (de_var 2)))))
theorem c__law_best_front (B : BB K mg) : Cal (GG K) P w mg base 2 "_law_best_front" 2 D__law_best_front := cal_of (Γ := GG K) (k := 1) (d := d__law_best_front) (ξ := ⟨0, .none, none⟩) (body := b__law_best_front) B 42 sc__law_best_front (k93 B) (p__law_best_front B) (fun _ _ _ _ _ _ us hl => match us, hl with | [_, _], _ => rfl)
noncomputable def b__law_fronts : SF := (sSeq (sAcc 2 (aCons (eVar 1) aNil))
    (sSeq (sWhile (eOp2 (gInP true) (eCall 2 D__law_best_front (aCons (eVar 0) (aCons (eOp2 gIx (eVarT 2) (eOp1 iNeg (eC (.int 1)))) aNil))) (eVarT 2)) (sApp 2 (eCall 2 D__law_best_front (aCons (eVar 0) (aCons (eOp2 gIx (eVarT 2) (eOp1 iNeg (eC (.int 1)))) aNil)))))
    (sRet (eTup (aCons (eVar 2) (aCons (eMt gIdx (eVarT 2) (eCall 2 D__law_best_front (aCons (eVar 0) (aCons (eOp2 gIx (eVarT 2) (eOp1 iNeg (eC (.int 1)))) aNil)))) aNil))))))
noncomputable def D__law_fronts : List D → Store → Res := fnD 3 b__law_fronts
theorem p__law_fronts (B : BB K mg) {ξ : Xx} (cdv : Value) (A : Around) (outer : List Env) (s : Shared) (H : Hp) (Ex : XK) (hr : Room 2 (A.deeper (envOfC d__law_fronts.qual d__law_fronts.scope s.heap.objs.size (d__law_fronts.at_ (GG K).K) cdv))) :
    PSs (cxOf (L2.CX P w) P w (GG K).K mg base ["_law_spec_here", "_law_front", "_law_found"] d__law_fronts.qual d__law_fronts.scope (d__law_fronts.at_ (GG K).K) cdv A outer s H Ex) d__law_fronts.body (dS (GG K) ξ b__law_fronts (fun c d' _ H => Ex c d' H)) := by
  have hh : Here (GG K) P w mg base 2 (cxOf (L2.CX P w) P w (GG K).K mg base ["_law_spec_here", "_law_front", "_law_found"] d__law_fronts.qual d__law_fronts.scope (d__law_fronts.at_ (GG K).K) cdv A outer s H Ex) (fun c d' _ H => Ex c d' H) := here_of hr
  exact (dss_cons (ds_acc sc__law_fronts.nd (da_cons (de_var 1) da_nil))
    (dss_cons (ds_while (passes_of rfl) (dt_cmpW (op_gInPn hh.K (u65_of hh.u66)) (de_call hh (c__law_best_front B) (da_cons (de_var 0) (da_cons (de_ix hh.K (dv_var 2) (de_un un_iNeg de_int)) da_nil))) (dv_var 2)) (dss_one (ds_app (i := 2) hh.K (pe_bm PySem.F.plainAttrs_list PySem.F.slot_list_append PySem.F.type_list_append mt_append (pv 2) (pa_cons (de_call hh (c__law_best_front B) (da_cons (de_var 0) (da_cons (de_ix hh.K (dv_var 2) (de_un un_iNeg de_int)) da_nil))) pa_nil)))))
    (dss_one (ds_ret (de_tup (da_cons (de_var 2) (da_cons (de_idx hh.K (u65_of hh.u66) PySem.F.type_list_index (dv_var 2) (de_call hh (c__law_best_front B) (da_cons (de_var 0) (da_cons (de_ix hh.K (dv_var 2) (de_un un_iNeg de_int)) da_nil)))) da_nil)))))))
theorem c__law_fronts (B : BB K mg) : Cal (GG K) P w mg base 3 "_law_fronts" 2 D__law_fronts := cal_of (Γ := GG K) (k := 2) (d := d__law_fronts) (ξ := ⟨0, .none, none⟩) (body := b__law_fronts) B 41 sc__law_fronts (k94 B) (p__law_fronts B) (fun _ _ _ _ _ _ us hl => match us, hl with | [_, _], _ => rfl)
noncomputable def b__law_alive : SF := (sRet (eLc false [1] (itRange1 (aCons (eOp1 gLen (eVar 0)) aNil)) (tgN 1) (eOp2 iGt (eOp2 gIx (eOp2 gIx (eVar 0) (eVar 1)) (eC (.int 0))) (eC (.int 0))) (eVar 1)))
noncomputable def D__law_alive : List D → Store → Res := fnD 2 b__law_alive
theorem p__law_alive (B : BB K mg) {ξ : Xx} (cdv : Value) (A : Around) (outer : List Env) (s : Shared) (H : Hp) (Ex : XK) (hr : Room 0 (A.deeper (envOfC d__law_alive.qual d__law_alive.scope s.heap.objs.size (d__law_alive.at_ (GG K).K) cdv))) :
    PSs (cxOf (L2.CX P w) P w (GG K).K mg base ["_law_held", "_law_k"] d__law_alive.qual d__law_alive.scope (d__law_alive.at_ (GG K).K) cdv A outer s H Ex) d__law_alive.body (dS (GG K) ξ b__law_alive (fun c d' _ H => Ex c d' H)) := by
  have hh : Here (GG K) P w mg base 0 (cxOf (L2.CX P w) P w (GG K).K mg base ["_law_held", "_law_k"] d__law_alive.qual d__law_alive.scope (d__law_alive.at_ (GG K).K) cdv A outer s H Ex) (fun c d' _ H => Ex c d' H) := here_of hr
  exact (dss_one (ds_ret (de_lc (q := false) rfl sc__law_alive.nd (diq (di_range1 (da_cons (de_b1 (cr_len hh.K) (B.free (k2 B)) (by decide +kernel) (dv_of (de_var 0))) da_nil) (B.free (k3 B)))) (blkOk_by (own := [("_law_k", 1)]) (by kernel_rfl)) (fun _ _ _ _ _ => (dg_name sc__law_alive.nd)) (fun _ _ _ _ _ => (dts_one (dt_cmp op_iGt (de_ix hh.blk.K (dv_of (de_ix hh.blk.K (dv_of (de_var 0)) (de_var 1))) de_int) de_int))) (fun _ _ _ _ _ => (de_var 1)))))
theorem c__law_alive (B : BB K mg) : Cal (GG K) P w mg base 1 "_law_alive" 1 D__law_alive := cal_of (Γ := GG K) (k := 0) (d := d__law_alive) (ξ := ⟨0, .none, none⟩) (body := b__law_alive) B 44 sc__law_alive (k95 B) (p__law_alive B) (fun _ _ _ _ _ _ us hl => match us, hl with | [_], _ => rfl)
noncomputable def b_death : SF := (sSeq (sAsg (tgN 2) (eOp2 gIx (eCall 2 D_fronts (aCons (eVar 0) (aCons (eVar 1) aNil))) (eC (.int 0))))
    (sRet (eIf (eOp2 (gInP false) (eLst aNil) (eVar 2)) (eMt gIdx (eVar 2) (eLst aNil)) (eC .non))))
noncomputable def D_death : List D → Store → Res := fnD 3 b_death
theorem p_death (B : BB K mg) {ξ : Xx} (cdv : Value) (A : Around) (outer : List Env) (s : Shared) (H : Hp) (Ex : XK) (hr : Room 8 (A.deeper (envOfC d_death.qual d_death.scope s.heap.objs.size (d_death.at_ (GG K).K) cdv))) :
    PSs (cxOf (L2.CX P w) P w (GG K).K mg base ["table", "amounts", "found"] d_death.qual d_death.scope (d_death.at_ (GG K).K) cdv A outer s H Ex) d_death.body (dS (GG K) ξ b_death (fun c d' _ H => Ex c d' H)) := by
  have hh : Here (GG K) P w mg base 8 (cxOf (L2.CX P w) P w (GG K).K mg base ["table", "amounts", "found"] d_death.qual d_death.scope (d_death.at_ (GG K).K) cdv A outer s H Ex) (fun c d' _ H => Ex c d' H) := here_of hr
  exact (dss_cons (ds_set sc_death.nd (de_ix hh.K (dv_of (de_call hh (c_fronts B) (da_cons (de_var 0) (da_cons (de_var 1) da_nil)))) de_int))
    (dss_one (ds_ret (de_if (dt_cmpW (op_gInP hh.K (u65_of hh.u66)) (de_lst da_nil) (dv_of (de_var 2))) (de_idx hh.K (u65_of hh.u66) PySem.F.type_list_index (dv_of (de_var 2)) (de_lst da_nil)) de_non))))
theorem c_death (B : BB K mg) : Cal (GG K) P w mg base 9 "death" 2 D_death := cal_of (Γ := GG K) (k := 8) (d := d_death) (ξ := ⟨0, .none, none⟩) (body := b_death) B 45 sc_death (k96 B) (p_death B) (fun _ _ _ _ _ _ us hl => match us, hl with | [_, _], _ => rfl)
noncomputable def b_Table_is_pick : SF := (sSeq (sIf (eOr (eNot (eCall 1 D_is_list (aCons (eVar 1) aNil))) (eOp2 gNe (eOp1 gLen (eVar 1)) (eOp1 gLen (eOp1 (gSlot 1 0) (eVar 0))))) (sRet (eC (.bl false))) sNil)
    (sRet (eOp1 gAll (eLc false [2, 3] (itZip (aCons (eVar 1) (aCons (eOp1 (gSlot 1 0) (eVar 0)) aNil))) (tgT 2 (tsCons (tgN 2) (tsCons (tgN 3) tsNil))) eYes (eAnd (eCall 1 D_is_integer (aCons (eVar 2) aNil)) (eChain iLe iLt (eC (.int 0)) (eVar 2) (eOp1 gLen (eOp2 gIx (eVar 3) (eC (.int 2))))))))))
noncomputable def D_Table_is_pick : List D → Store → Res := fnD 4 b_Table_is_pick
theorem p_Table_is_pick (B : BB K mg) {ξ : Xx} (cdv : Value) (A : Around) (outer : List Env) (s : Shared) (H : Hp) (Ex : XK) (hr : Room 1 (A.deeper (envOfC d_Table_is_pick.qual d_Table_is_pick.scope s.heap.objs.size (d_Table_is_pick.at_ (GG K).K) cdv))) :
    PSs (cxOf (L2.CX P w) P w (GG K).K mg base ["self", "value", "at", "held"] d_Table_is_pick.qual d_Table_is_pick.scope (d_Table_is_pick.at_ (GG K).K) cdv A outer s H Ex) d_Table_is_pick.body (dS (GG K) ξ b_Table_is_pick (fun c d' _ H => Ex c d' H)) := by
  have hh : Here (GG K) P w mg base 1 (cxOf (L2.CX P w) P w (GG K).K mg base ["self", "value", "at", "held"] d_Table_is_pick.qual d_Table_is_pick.scope (d_Table_is_pick.at_ (GG K).K) cdv A outer s H Ex) (fun c d' _ H => Ex c d' H) := here_of hr
  exact (dss_cons (ds_if (PW.pt (dw_or (dt_not (dt_val (de_call hh (c_is_list B) (da_cons (de_var 1) da_nil)))) (dw_or1 (dt_cmp (op_gNe hh.K hh.u64) (de_b1 (cr_len hh.K) (B.free (k2 B)) (by decide +kernel) (dv_of (de_var 1))) (de_b1 (cr_len hh.K) (B.free (k2 B)) (by decide +kernel) (dv_of (de_fld hh.K (cl1 B) (i := 0) rfl (de_var 0)))))))) (dss_one (ds_ret de_bl)) dss_nil)
    (dss_one (ds_ret (de_b1 (cr_gAll hh.K rfl) (B.free (k23 B)) (by decide +kernel) (dv_of (de_lc (q := false) rfl sc_Table_is_pick.nd (diq (di_zip hh.K (B.free (k97 B)) (da_cons (de_var 1) (da_cons (de_fld hh.K (cl1 B) (i := 0) rfl (de_var 0)) da_nil)))) (blkOk_by (own := [("at", 2), ("held", 3)]) (by kernel_rfl)) (fun _ _ _ _ _ => (dg_tup hh.blk.K rfl (dgs_cons (dg_name sc_Table_is_pick.nd) (dgs_cons (dg_name sc_Table_is_pick.nd) dgs_nil)))) (fun _ _ _ _ _ => dts_nil) (fun _ _ _ _ _ => (de_and (de_call hh.blk (c_is_integer B) (da_cons (de_var 2) da_nil)) (de_one (de_chain op_iLe op_iLt de_int (de_var 2) (de_b1 (cr_len hh.blk.K) (B.free (k2 B)) (by decide +kernel) (dv_of (de_ix hh.blk.K (dv_of (de_var 3)) de_int)))))))))))))
theorem c_Table_is_pick (B : BB K mg) : CalR (GG K) P w mg base 2 (ma K (ga K "Table") "is_pick") 2 D_Table_is_pick := calR_of (Γ := GG K) (k := 1) (d := d_Table_is_pick) (ξ := ⟨0, .none, none⟩) (body := b_Table_is_pick) B 49 sc_Table_is_pick (p_Table_is_pick B) (fun _ _ _ _ _ _ us hl => match us, hl with | [_, _], _ => rfl)
theorem c_InvalidPickd__initd_ (B : BB K mg) : ExF (GG K) P w mg base 1 "InvalidPick" 12 "value" := exf_of (d := d_InvalidPickd__initd_) (t := "a value is not a pick of a table") B 50 sc_InvalidPickd__initd_ (k99 B) (k100 B) (k101 B) (fun _ _ _ _ _ _ => pss_cons (ps_expr (pe_binit (bsB_ok (B.glo (k14 B)) (k15 B)) (pa_cons (pv 0) (pa_cons pe_str pa_nil)))) (pss_one (ps_ost (pv 0) (pv 1)))) (fun _ _ _ _ _ _ us hl => match us, hl with | [_, _], _ => rfl)
noncomputable def b_Table_matrix : SF := (sSeq (sIf (eNot (eMeth 1 2 D_Table_is_pick (eVar 0) (aCons (eVar 1) aNil))) (sRaise 12 "value" (eVar 1)) sNil)
    (sRet (eLc false [2, 3] (itZip (aCons (eVar 1) (aCons (eOp1 (gSlot 1 0) (eVar 0)) aNil))) (tgT 2 (tsCons (tgN 2) (tsCons (tgN 3) tsNil))) eYes (eOp1 gListOf (eOp2 gIx (eOp2 gIx (eVar 3) (eC (.int 2))) (eVar 2))))))
noncomputable def D_Table_matrix : List D → Store → Res := fnD 4 b_Table_matrix
theorem p_Table_matrix (B : BB K mg) {ξ : Xx} (cdv : Value) (A : Around) (outer : List Env) (s : Shared) (H : Hp) (Ex : XK) (hr : Room 2 (A.deeper (envOfC d_Table_matrix.qual d_Table_matrix.scope s.heap.objs.size (d_Table_matrix.at_ (GG K).K) cdv))) :
    PSs (cxOf (L2.CX P w) P w (GG K).K mg base ["self", "pick", "index", "held"] d_Table_matrix.qual d_Table_matrix.scope (d_Table_matrix.at_ (GG K).K) cdv A outer s H Ex) d_Table_matrix.body (dS (GG K) ξ b_Table_matrix (fun c d' _ H => Ex c d' H)) := by
  have hh : Here (GG K) P w mg base 2 (cxOf (L2.CX P w) P w (GG K).K mg base ["self", "pick", "index", "held"] d_Table_matrix.qual d_Table_matrix.scope (d_Table_matrix.at_ (GG K).K) cdv A outer s H Ex) (fun c d' _ H => Ex c d' H) := here_of hr
  exact (dss_cons (ds_if (dt_not (dt_val (de_meth hh (.cl _ (cl1 B)) (mtB_ok (k98 B)) (c_Table_is_pick B) (de_var 0) (da_cons (de_var 1) da_nil)))) (dss_one (ds_raise hh (c_InvalidPickd__initd_ B) rfl (de_var 1))) dss_nil)
    (dss_one (ds_ret (de_lc (q := false) rfl sc_Table_matrix.nd (diq (di_zip hh.K (B.free (k97 B)) (da_cons (de_var 1) (da_cons (de_fld hh.K (cl1 B) (i := 0) rfl (de_var 0)) da_nil)))) (blkOk_by (own := [("index", 2), ("held", 3)]) (by kernel_rfl)) (fun _ _ _ _ _ => (dg_tup hh.blk.K rfl (dgs_cons (dg_name sc_Table_matrix.nd) (dgs_cons (dg_name sc_Table_matrix.nd) dgs_nil)))) (fun _ _ _ _ _ => dts_nil) (fun _ _ _ _ _ => (de_t1 (cr_list hh.blk.K) (B.free (k24 B)) (by decide +kernel) (dv_of (de_ix hh.blk.K (dv_of (de_ix hh.blk.K (dv_of (de_var 3)) de_int)) (de_var 2)))))))))
theorem c_Table_matrix (B : BB K mg) : CalR (GG K) P w mg base 3 (ma K (ga K "Table") "matrix") 2 D_Table_matrix := calR_of (Γ := GG K) (k := 2) (d := d_Table_matrix) (ξ := ⟨0, .none, none⟩) (body := b_Table_matrix) B 48 sc_Table_matrix (p_Table_matrix B) (fun _ _ _ _ _ _ us hl => match us, hl with | [_, _], _ => rfl)
noncomputable def b_Ratiod__addd_ : SF := (sSeq (sAsg (tgT 2 (tsCons (tgN 2) (tsCons (tgN 3) tsNil))) (eCall 1 D_parts (aCons (eVar 1) aNil)))
    (sRet (eNew 0 2 [] I_Ratiod__initd_ (aCons (eOp2 iAdd (eOp2 iMul (eOp1 (gSlot 0 1) (eVar 0)) (eVar 3)) (eOp2 iMul (eVar 2) (eOp1 (gSlot 0 0) (eVar 0)))) (aCons (eOp2 iMul (eOp1 (gSlot 0 0) (eVar 0)) (eVar 3)) aNil)))))
noncomputable def D_Ratiod__addd_ : List D → Store → Res := fnD 4 b_Ratiod__addd_
theorem p_Ratiod__addd_ (B : BB K mg) {ξ : Xx} (cdv : Value) (A : Around) (outer : List Env) (s : Shared) (H : Hp) (Ex : XK) (hr : Room 4 (A.deeper (envOfC d_Ratiod__addd_.qual d_Ratiod__addd_.scope s.heap.objs.size (d_Ratiod__addd_.at_ (GG K).K) cdv))) :
    PSs (cxOf (L2.CX P w) P w (GG K).K mg base ["self", "other", "top", "bottom"] d_Ratiod__addd_.qual d_Ratiod__addd_.scope (d_Ratiod__addd_.at_ (GG K).K) cdv A outer s H Ex) d_Ratiod__addd_.body (dS (GG K) ξ b_Ratiod__addd_ (fun c d' _ H => Ex c d' H)) := by
  have hh : Here (GG K) P w mg base 4 (cxOf (L2.CX P w) P w (GG K).K mg base ["self", "other", "top", "bottom"] d_Ratiod__addd_.qual d_Ratiod__addd_.scope (d_Ratiod__addd_.at_ (GG K).K) cdv A outer s H Ex) (fun c d' _ H => Ex c d' H) := here_of hr
  exact (dss_cons (ds_asg (de_call hh (c_parts B) (da_cons (de_var 1) da_nil)) (dg_tup hh.K rfl (dgs_cons (dg_name sc_Ratiod__addd_.nd) (dgs_cons (dg_name sc_Ratiod__addd_.nd) dgs_nil))))
    (dss_one (ds_ret (de_new hh (mk_Ratiod__initd__2 B) (da_cons (de_op op_iAdd (de_op op_iMul (de_slot hh.K (sl0 B) (st0_up B) (de_var 0)) (de_var 3)) (de_op op_iMul (de_var 2) (de_slot hh.K (sl0 B) (st0_down B) (de_var 0)))) (da_cons (de_op op_iMul (de_slot hh.K (sl0 B) (st0_down B) (de_var 0)) (de_var 3)) da_nil))))))
theorem c_Ratiod__addd_ (B : BB K mg) : CalR (GG K) P w mg base 5 (ma K (ga K "Ratio") "__add__") 2 D_Ratiod__addd_ := calR_of (Γ := GG K) (k := 4) (d := d_Ratiod__addd_) (ξ := ⟨0, .none, none⟩) (body := b_Ratiod__addd_) B 52 sc_Ratiod__addd_ (p_Ratiod__addd_ B) (fun _ _ _ _ _ _ us hl => match us, hl with | [_, _], _ => rfl)
noncomputable def b_dot : SF := (sSeq (sAsg (tgN 2) (eNew 0 2 [.int 1] I_Ratiod__initd_ (aCons (eC (.int 0)) aNil)))
    (sSeq (sFor (itZip (aCons (eVar 0) (aCons (eVar 1) aNil))) (tgT 2 (tsCons (tgN 3) (tsCons (tgN 4) tsNil))) (sAsg (tgN 2) (eOp2 (gOwn 0 D_Ratiod__addd_) (eVar 2) (eNew 0 2 [] I_Ratiod__initd_ (aCons (eOp2 iMul (eOp2 gIx (eCall 1 D_parts (aCons (eVar 3) aNil)) (eC (.int 0))) (eOp2 gIx (eCall 1 D_parts (aCons (eVar 4) aNil)) (eC (.int 0)))) (aCons (eOp2 iMul (eOp2 gIx (eCall 1 D_parts (aCons (eVar 3) aNil)) (eC (.int 1))) (eOp2 gIx (eCall 1 D_parts (aCons (eVar 4) aNil)) (eC (.int 1)))) aNil))))))
    (sRet (eVar 2))))
noncomputable def D_dot : List D → Store → Res := fnD 5 b_dot
theorem p_dot (B : BB K mg) {ξ : Xx} (cdv : Value) (A : Around) (outer : List Env) (s : Shared) (H : Hp) (Ex : XK) (hr : Room 5 (A.deeper (envOfC d_dot.qual d_dot.scope s.heap.objs.size (d_dot.at_ (GG K).K) cdv))) :
    PSs (cxOf (L2.CX P w) P w (GG K).K mg base ["one", "other", "found", "left", "right"] d_dot.qual d_dot.scope (d_dot.at_ (GG K).K) cdv A outer s H Ex) d_dot.body (dS (GG K) ξ b_dot (fun c d' _ H => Ex c d' H)) := by
  have hh : Here (GG K) P w mg base 5 (cxOf (L2.CX P w) P w (GG K).K mg base ["one", "other", "found", "left", "right"] d_dot.qual d_dot.scope (d_dot.at_ (GG K).K) cdv A outer s H Ex) (fun c d' _ H => Ex c d' H) := here_of hr
  exact (dss_cons (ds_set sc_dot.nd (de_new hh (mk_Ratiod__initd__1 B) (da_cons de_int da_nil)))
    (dss_cons (ds_for (passes_of rfl) rfl (di_zip hh.K (B.free (k97 B)) (da_cons (de_var 0) (da_cons (de_var 1) da_nil))) (dg_tup hh.K rfl (dgs_cons (dg_name sc_dot.nd) (dgs_cons (dg_name sc_dot.nd) dgs_nil))) (dss_one (ds_set sc_dot.nd (de_op (op_own hh (bnB_ok (k103 B)) (c_Ratiod__addd_ B)) (de_var 2) (de_new hh (mk_Ratiod__initd__2 B) (da_cons (de_op op_iMul (de_ix hh.K (dv_of (de_call hh (c_parts B) (da_cons (de_var 3) da_nil))) de_int) (de_ix hh.K (dv_of (de_call hh (c_parts B) (da_cons (de_var 4) da_nil))) de_int)) (da_cons (de_op op_iMul (de_ix hh.K (dv_of (de_call hh (c_parts B) (da_cons (de_var 3) da_nil))) de_int) (de_ix hh.K (dv_of (de_call hh (c_parts B) (da_cons (de_var 4) da_nil))) de_int)) da_nil)))))))
    (dss_one (ds_ret (de_var 2)))))
theorem c_dot (B : BB K mg) : Cal (GG K) P w mg base 6 "dot" 2 D_dot := cal_of (Γ := GG K) (k := 5) (d := d_dot) (ξ := ⟨0, .none, none⟩) (body := b_dot) B 51 sc_dot (k104 B) (p_dot B) (fun _ _ _ _ _ _ us hl => match us, hl with | [_, _], _ => rfl)
noncomputable def b_made : SF := (sRet (eLc false [3] (itSeq (eMeth 1 2 D_Table_matrix (eVar 0) (aCons (eVar 1) aNil))) (tgN 3) eYes (eCall 2 D_dot (aCons (eVar 3) (aCons (eVar 2) aNil)))))
noncomputable def D_made : List D → Store → Res := fnD 4 b_made
theorem p_made (B : BB K mg) {ξ : Xx} (cdv : Value) (A : Around) (outer : List Env) (s : Shared) (H : Hp) (Ex : XK) (hr : Room 6 (A.deeper (envOfC d_made.qual d_made.scope s.heap.objs.size (d_made.at_ (GG K).K) cdv))) :
    PSs (cxOf (L2.CX P w) P w (GG K).K mg base ["table", "pick", "held", "row"] d_made.qual d_made.scope (d_made.at_ (GG K).K) cdv A outer s H Ex) d_made.body (dS (GG K) ξ b_made (fun c d' _ H => Ex c d' H)) := by
  have hh : Here (GG K) P w mg base 6 (cxOf (L2.CX P w) P w (GG K).K mg base ["table", "pick", "held", "row"] d_made.qual d_made.scope (d_made.at_ (GG K).K) cdv A outer s H Ex) (fun c d' _ H => Ex c d' H) := here_of hr
  exact (dss_one (ds_ret (de_lc (q := false) rfl sc_made.nd (diq_seqT hh.K (dv_of (de_meth hh (.cl _ (cl1 B)) (mtB_ok (k102 B)) (c_Table_matrix B) (de_var 0) (da_cons (de_var 1) da_nil)))) (blkOk_by (own := [("row", 3)]) (by kernel_rfl)) (fun _ _ _ _ _ => (dg_name sc_made.nd)) (fun _ _ _ _ _ => dts_nil) (fun _ _ _ _ _ => (de_call hh.blk (c_dot B) (da_cons (de_var 3) (da_cons (de_var 2) da_nil)))))))
theorem c_made (B : BB K mg) : Cal (GG K) P w mg base 7 "made" 3 D_made := cal_of (Γ := GG K) (k := 6) (d := d_made) (ξ := ⟨0, .none, none⟩) (body := b_made) B 47 sc_made (k105 B) (p_made B) (fun _ _ _ _ _ _ us hl => match us, hl with | [_, _, _], _ => rfl)
noncomputable def b_Ratio_below : SF := (sSeq (sAsg (tgT 2 (tsCons (tgN 2) (tsCons (tgN 3) tsNil))) (eCall 1 D_parts (aCons (eVar 1) aNil)))
    (sRet (eOp2 iLt (eOp2 iMul (eOp1 (gSlot 0 1) (eVar 0)) (eVar 3)) (eOp2 iMul (eVar 2) (eOp1 (gSlot 0 0) (eVar 0))))))
noncomputable def D_Ratio_below : List D → Store → Res := fnD 4 b_Ratio_below
theorem p_Ratio_below (B : BB K mg) {ξ : Xx} (cdv : Value) (A : Around) (outer : List Env) (s : Shared) (H : Hp) (Ex : XK) (hr : Room 3 (A.deeper (envOfC d_Ratio_below.qual d_Ratio_below.scope s.heap.objs.size (d_Ratio_below.at_ (GG K).K) cdv))) :
    PSs (cxOf (L2.CX P w) P w (GG K).K mg base ["self", "number", "top", "bottom"] d_Ratio_below.qual d_Ratio_below.scope (d_Ratio_below.at_ (GG K).K) cdv A outer s H Ex) d_Ratio_below.body (dS (GG K) ξ b_Ratio_below (fun c d' _ H => Ex c d' H)) := by
  have hh : Here (GG K) P w mg base 3 (cxOf (L2.CX P w) P w (GG K).K mg base ["self", "number", "top", "bottom"] d_Ratio_below.qual d_Ratio_below.scope (d_Ratio_below.at_ (GG K).K) cdv A outer s H Ex) (fun c d' _ H => Ex c d' H) := here_of hr
  exact (dss_cons (ds_asg (de_call hh (c_parts B) (da_cons (de_var 1) da_nil)) (dg_tup hh.K rfl (dgs_cons (dg_name sc_Ratio_below.nd) (dgs_cons (dg_name sc_Ratio_below.nd) dgs_nil))))
    (dss_one (ds_ret (de_cmp op_iLt (de_op op_iMul (de_slot hh.K (sl0 B) (st0_up B) (de_var 0)) (de_var 3)) (de_op op_iMul (de_var 2) (de_slot hh.K (sl0 B) (st0_down B) (de_var 0)))))))
theorem c_Ratio_below (B : BB K mg) : CalR (GG K) P w mg base 4 (ma K (ga K "Ratio") "below") 2 D_Ratio_below := calR_of (Γ := GG K) (k := 3) (d := d_Ratio_below) (ξ := ⟨0, .none, none⟩) (body := b_Ratio_below) B 55 sc_Ratio_below (p_Ratio_below B) (fun _ _ _ _ _ _ us hl => match us, hl with | [_, _], _ => rfl)
noncomputable def b_best_row : SF := (sSeq (sAsg (tgN 3) (eOp2 gEq (eMeth 1 2 D_Table_owner (eVar 0) (aCons (eVar 1) aNil)) (eC (.str "steerer"))))
    (sSeq (sAsg (tgN 4) (eC (.int 0)))
    (sSeq (sAsg (tgN 5) (eLc false [6] (itSeq (eMeth 1 2 D_Table_rows (eVar 0) (aCons (eVar 1) aNil))) (tgN 6) eYes (eCall 2 D_dot (aCons (eVar 6) (aCons (eVar 2) aNil)))))
    (sSeq (sFor (itEnum (aCons (eVar 5) aNil)) (tgT 2 (tsCons (tgN 7) (tsCons (tgN 8) tsNil))) (sIf (eIf (eVar 3) (eMeth 0 2 D_Ratio_below (eOp2 gIx (eVar 5) (eVar 4)) (aCons (eVar 8) aNil)) (eMeth 0 2 D_Ratio_below (eVar 8) (aCons (eOp2 gIx (eVar 5) (eVar 4)) aNil))) (sAsg (tgN 4) (eVar 7)) sNil))
    (sRet (eVar 4))))))
noncomputable def D_best_row : List D → Store → Res := fnD 9 b_best_row
theorem p_best_row (B : BB K mg) {ξ : Xx} (cdv : Value) (A : Around) (outer : List Env) (s : Shared) (H : Hp) (Ex : XK) (hr : Room 6 (A.deeper (envOfC d_best_row.qual d_best_row.scope s.heap.objs.size (d_best_row.at_ (GG K).K) cdv))) :
    PSs (cxOf (L2.CX P w) P w (GG K).K mg base ["table", "place", "held", "wants_much", "best", "told", "row", "index", "number"] d_best_row.qual d_best_row.scope (d_best_row.at_ (GG K).K) cdv A outer s H Ex) d_best_row.body (dS (GG K) ξ b_best_row (fun c d' _ H => Ex c d' H)) := by
  have hh : Here (GG K) P w mg base 6 (cxOf (L2.CX P w) P w (GG K).K mg base ["table", "place", "held", "wants_much", "best", "told", "row", "index", "number"] d_best_row.qual d_best_row.scope (d_best_row.at_ (GG K).K) cdv A outer s H Ex) (fun c d' _ H => Ex c d' H) := here_of hr
  exact (dss_cons (ds_set sc_best_row.nd (de_cmp (op_gEq hh.K hh.u64) (de_meth hh (.cl _ (cl1 B)) (mtB_ok (k20 B)) (c_Table_owner B) (de_var 0) (da_cons (de_var 1) da_nil)) (de_glob hh.mg (B.str (k21 B)))))
    (dss_cons (ds_set sc_best_row.nd de_int)
    (dss_cons (ds_lcs (q := false) rfl sc_best_row.nd (blkOk_by (own := [("row", 6)]) (by kernel_rfl)) (diq_seqT hh.K (dv_of (de_meth hh (.cl _ (cl1 B)) (mtB_ok (k25 B)) (c_Table_rows B) (de_var 0) (da_cons (de_var 1) da_nil)))) (fun _ _ _ _ _ => (dg_name sc_best_row.nd)) (fun _ _ _ _ _ => dts_nil) (fun _ _ _ _ _ => (de_call hh.blk (c_dot B) (da_cons (de_var 6) (da_cons (de_var 2) da_nil)))))
    (dss_cons (ds_for (passes_of rfl) rfl (di_enum hh.K (B.free (k37 B)) (da_cons (de_var 5) da_nil)) (dg_tup hh.K rfl (dgs_cons (dg_name sc_best_row.nd) (dgs_cons (dg_name sc_best_row.nd) dgs_nil))) (dss_one (ds_if (dt_if (dt_val (de_var 3)) (dt_val (de_meth hh (.sl (sl0 B)) (mtB_ok (k106 B)) (c_Ratio_below B) (de_ix hh.K (dv_of (de_var 5)) (de_var 4)) (da_cons (de_var 8) da_nil))) (dt_val (de_meth hh (.sl (sl0 B)) (mtB_ok (k106 B)) (c_Ratio_below B) (de_var 8) (da_cons (de_ix hh.K (dv_of (de_var 5)) (de_var 4)) da_nil)))) (dss_one (ds_set sc_best_row.nd (de_var 7))) dss_nil)))
    (dss_one (ds_ret (de_var 4)))))))
theorem c_best_row (B : BB K mg) : Cal (GG K) P w mg base 7 "best_row" 3 D_best_row := cal_of (Γ := GG K) (k := 6) (d := d_best_row) (ξ := ⟨0, .none, none⟩) (body := b_best_row) B 54 sc_best_row (k107 B) (p_best_row B) (fun _ _ _ _ _ _ us hl => match us, hl with | [_, _, _], _ => rfl)
noncomputable def b_best_of : SF := (sRet (eOp1 gTupOf (eLc false [2] (itRange1 (aCons (eOp1 (gLenO 1 D_Tabled__lend_) (eVar 0)) aNil)) (tgN 2) eYes (eCall 3 D_best_row (aCons (eVar 0) (aCons (eVar 2) (aCons (eVar 1) aNil)))))))
noncomputable def D_best_of : List D → Store → Res := fnD 3 b_best_of
theorem p_best_of (B : BB K mg) {ξ : Xx} (cdv : Value) (A : Around) (outer : List Env) (s : Shared) (H : Hp) (Ex : XK) (hr : Room 7 (A.deeper (envOfC d_best_of.qual d_best_of.scope s.heap.objs.size (d_best_of.at_ (GG K).K) cdv))) :
    PSs (cxOf (L2.CX P w) P w (GG K).K mg base ["table", "held", "place"] d_best_of.qual d_best_of.scope (d_best_of.at_ (GG K).K) cdv A outer s H Ex) d_best_of.body (dS (GG K) ξ b_best_of (fun c d' _ H => Ex c d' H)) := by
  have hh : Here (GG K) P w mg base 7 (cxOf (L2.CX P w) P w (GG K).K mg base ["table", "held", "place"] d_best_of.qual d_best_of.scope (d_best_of.at_ (GG K).K) cdv A outer s H Ex) (fun c d' _ H => Ex c d' H) := here_of hr
  exact (dss_one (ds_ret (de_t1 (cr_tuple hh.K) (B.free (k49 B)) (by decide +kernel) (dv_of (de_lc (q := false) rfl sc_best_of.nd (diq (di_range1 (da_cons (de_b1 (cr_lenO (k := 1) hh (spB_ok (k6 B)).1 (spB_ok (k6 B)).2 (c_Tabled__lend_ B)) (B.free (k2 B)) (by decide +kernel) (dv_of (de_var 0))) da_nil) (B.free (k3 B)))) (blkOk_by (own := [("place", 2)]) (by kernel_rfl)) (fun _ _ _ _ _ => (dg_name sc_best_of.nd)) (fun _ _ _ _ _ => dts_nil) (fun _ _ _ _ _ => (de_call hh.blk (c_best_row B) (da_cons (de_var 0) (da_cons (de_var 2) (da_cons (de_var 1) da_nil))))))))))
theorem c_best_of (B : BB K mg) : Cal (GG K) P w mg base 8 "best_of" 2 D_best_of := cal_of (Γ := GG K) (k := 7) (d := d_best_of) (ξ := ⟨0, .none, none⟩) (body := b_best_of) B 53 sc_best_of (k108 B) (p_best_of B) (fun _ _ _ _ _ _ us hl => match us, hl with | [_, _], _ => rfl)
noncomputable def b_best_step : SF := (sSeq (sExpr (eCall 1 D_need_table (aCons (eVar 0) aNil)))
    (sSeq (sAsg (tgN 2) (eCall 2 D_told_amounts (aCons (eVar 0) (aCons (eVar 1) aNil))))
    (sRet (eCall 3 D_made (aCons (eVar 0) (aCons (eCall 2 D_best_of (aCons (eVar 0) (aCons (eVar 2) aNil))) (aCons (eVar 2) aNil)))))))
noncomputable def D_best_step : List D → Store → Res := fnD 3 b_best_step
theorem p_best_step (B : BB K mg) {ξ : Xx} (cdv : Value) (A : Around) (outer : List Env) (s : Shared) (H : Hp) (Ex : XK) (hr : Room 8 (A.deeper (envOfC d_best_step.qual d_best_step.scope s.heap.objs.size (d_best_step.at_ (GG K).K) cdv))) :
    PSs (cxOf (L2.CX P w) P w (GG K).K mg base ["table", "amounts", "held"] d_best_step.qual d_best_step.scope (d_best_step.at_ (GG K).K) cdv A outer s H Ex) d_best_step.body (dS (GG K) ξ b_best_step (fun c d' _ H => Ex c d' H)) := by
  have hh : Here (GG K) P w mg base 8 (cxOf (L2.CX P w) P w (GG K).K mg base ["table", "amounts", "held"] d_best_step.qual d_best_step.scope (d_best_step.at_ (GG K).K) cdv A outer s H Ex) (fun c d' _ H => Ex c d' H) := here_of hr
  exact (dss_cons (ds_expr (de_call hh (c_need_table B) (da_cons (de_var 0) da_nil)))
    (dss_cons (ds_set sc_best_step.nd (de_call hh (c_told_amounts B) (da_cons (de_var 0) (da_cons (de_var 1) da_nil))))
    (dss_one (ds_ret (de_call hh (c_made B) (da_cons (de_var 0) (da_cons (de_call hh (c_best_of B) (da_cons (de_var 0) (da_cons (de_var 2) da_nil))) (da_cons (de_var 2) da_nil))))))))
theorem c_best_step (B : BB K mg) : Cal (GG K) P w mg base 9 "best_step" 2 D_best_step := cal_of (Γ := GG K) (k := 8) (d := d_best_step) (ξ := ⟨0, .none, none⟩) (body := b_best_step) B 46 sc_best_step (k109 B) (p_best_step B) (fun _ _ _ _ _ _ us hl => match us, hl with | [_, _], _ => rfl)
noncomputable def b__law_given : SF := (sSeq (sIf (eOp2 gEq (eOp2 gIx (eVar 0) (eC (.int 1))) (eC (.int 1))) (sRet (eOp2 gIx (eVar 0) (eC (.int 0)))) sNil)
    (sRet (eNew 0 2 [] I_Ratiod__initd_ (aCons (eOp2 gIx (eVar 0) (eC (.int 0))) (aCons (eOp2 gIx (eVar 0) (eC (.int 1))) aNil)))))
noncomputable def D__law_given : List D → Store → Res := fnD 1 b__law_given
theorem p__law_given (B : BB K mg) {ξ : Xx} (cdv : Value) (A : Around) (outer : List Env) (s : Shared) (H : Hp) (Ex : XK) (hr : Room 4 (A.deeper (envOfC d__law_given.qual d__law_given.scope s.heap.objs.size (d__law_given.at_ (GG K).K) cdv))) :
    PSs (cxOf (L2.CX P w) P w (GG K).K mg base ["_law_pair"] d__law_given.qual d__law_given.scope (d__law_given.at_ (GG K).K) cdv A outer s H Ex) d__law_given.body (dS (GG K) ξ b__law_given (fun c d' _ H => Ex c d' H)) := by
  have hh : Here (GG K) P w mg base 4 (cxOf (L2.CX P w) P w (GG K).K mg base ["_law_pair"] d__law_given.qual d__law_given.scope (d__law_given.at_ (GG K).K) cdv A outer s H Ex) (fun c d' _ H => Ex c d' H) := here_of hr
  exact (dss_cons (ds_if (dt_cmp (op_gEq hh.K hh.u64) (de_ix hh.K (dv_of (de_var 0)) de_int) de_int) (dss_one (ds_ret (de_ix hh.K (dv_of (de_var 0)) de_int))) dss_nil)
    (dss_one (ds_ret (de_new hh (mk_Ratiod__initd__2 B) (da_cons (de_ix hh.K (dv_of (de_var 0)) de_int) (da_cons (de_ix hh.K (dv_of (de_var 0)) de_int) da_nil))))))
theorem c__law_given (B : BB K mg) : Cal (GG K) P w mg base 5 "_law_given" 1 D__law_given := cal_of (Γ := GG K) (k := 4) (d := d__law_given) (ξ := ⟨0, .none, none⟩) (body := b__law_given) B 56 sc__law_given (k110 B) (p__law_given B) (fun _ _ _ _ _ _ us hl => match us, hl with | [_], _ => rfl)
noncomputable def b__law_from_right : SF := (sSeq (sAsg (tgN 4) (eLc false [5] (itSeq (eVar 2)) (tgN 5) eYes (eIf (eVar 3) (eCall 1 D__law_given (aCons (eVar 5) aNil)) (eNew 0 2 [] I_Ratiod__initd_ (aCons (eOp2 gIx (eVar 5) (eC (.int 0))) (aCons (eOp2 gIx (eVar 5) (eC (.int 1))) aNil))))))
    (sSeq (sAsg (tgT 2 (tsCons (tgN 6) (tsCons (tgN 7) tsNil))) (eCall 2 D__law_fronts (aCons (eVar 0) (aCons (eCall 1 D__law_alive (aCons (eVar 2) aNil)) aNil))))
    (sSeq (sFor (itRange1 (aCons (eC (.int 2)) aNil)) (tgN 8) (sSeq (sAsg (tgN 9) (eCall 2 D_fronts (aCons (eVar 1) (aCons (eVar 4) aNil))))
    (sSeq (sIf (eOr (eOp2 gNe (eVar 9) (eTup (aCons (eVar 6) (aCons (eVar 7) aNil)))) (eOr (eNot (eOp2 (gIsi [0, 1]) (eVar 9) (eC (.ty "tuple")))) (eOp2 (gIsi [0, 1]) (eOp2 gIx (eVar 9) (eC (.int 1))) (eC (.ty "bool"))))) (sRet (eC (.bl false))) sNil)
    (sSeq (sAppC (eOp2 gIx (eOp2 gIx (eVar 9) (eC (.int 0))) (eC (.int 0))) (eC (.str "late")))
    (sAppC (eOp2 gIx (eVar 9) (eC (.int 0))) (eC (.str "late")))))))
    (sSeq (sAsg (tgN 10) (eVar 4))
    (sSeq (sFor (itSeq (eVar 6)) (tgN 11) (sSeq (sIf (eOp2 gNe (eLc false [12] (itRange1 (aCons (eOp1 gLen (eVar 0)) aNil)) (tgN 12) (eOp2 (gOr gNe (gOwnNe [0, 1] 0 D_Ratiod__eqd_)) (eOp2 gIx (eVar 10) (eVar 12)) (eC (.int 0))) (eVar 12)) (eVar 11)) (sRet (eC (.bl false))) sNil)
    (sAsg (tgN 10) (eCall 2 D_best_step (aCons (eVar 1) (aCons (eVar 10) aNil))))))
    (sSeq (sAsg (tgN 13) (eIf (eOp2 (gInP false) (eLst aNil) (eVar 6)) (eMt gIdx (eVar 6) (eLst aNil)) (eC .non)))
    (sSeq (sIf (eOr (eOp2 gNe (eCall 2 D_death (aCons (eVar 1) (aCons (eVar 4) aNil))) (eVar 13)) (eOp2 gNe (eCall 2 D_death (aCons (eVar 1) (aCons (eOp1 gTupOf (eVar 4)) aNil))) (eVar 13))) (sRet (eC (.bl false))) sNil)
    (sSeq (sFor (itSeq (eLst (aCons (eC (.str "steerer")) (aCons (eC (.str "foe")) aNil)))) (tgN 14) (sSeq (sAsg (tgN 15) (eLc false [16, 17, 18] (itSeq (eVar 0)) (tgT 3 (tsCons (tgN 16) (tsCons (tgN 17) (tsCons (tgN 18) tsNil)))) eYes (eLst (aCons (eVar 16) (aCons (eVar 14) (aCons (eVar 18) aNil))))))
    (sIf (eOp2 gNe (eCall 2 D_fronts (aCons (eMeth 1 2 D_Table_owned (eVar 1) (aCons (eVar 14) aNil)) (aCons (eVar 4) aNil))) (eCall 2 D__law_fronts (aCons (eVar 15) (aCons (eCall 1 D__law_alive (aCons (eVar 2) aNil)) aNil)))) (sRet (eC (.bl false))) sNil)))
    (sRet (eC (.bl true)))))))))))
noncomputable def D__law_from_right : List D → Store → Res := fnD 19 b__law_from_right
theorem p__law_from_right (B : BB K mg) {ξ : Xx} (cdv : Value) (A : Around) (outer : List Env) (s : Shared) (H : Hp) (Ex : XK) (hr : Room 10 (A.deeper (envOfC d__law_from_right.qual d__law_from_right.scope s.heap.objs.size (d__law_from_right.at_ (GG K).K) cdv))) :
    PSs (cxOf (L2.CX P w) P w (GG K).K mg base ["_law_spec_here", "_law_table_here", "_law_held", "_law_whole", "_law_amounts", "_law_pair", "_law_due", "_law_back", "_law_turn", "_law_told", "_law_now", "_law_front", "_law_at", "_law_first", "_law_owner", "_law_other", "_law_name", "_law_one", "_law_rows"] d__law_from_right.qual d__law_from_right.scope (d__law_from_right.at_ (GG K).K) cdv A outer s H Ex) d__law_from_right.body (dS (GG K) ξ b__law_from_right (fun c d' _ H => Ex c d' H)) := by
  have hh : Here (GG K) P w mg base 10 (cxOf (L2.CX P w) P w (GG K).K mg base ["_law_spec_here", "_law_table_here", "_law_held", "_law_whole", "_law_amounts", "_law_pair", "_law_due", "_law_back", "_law_turn", "_law_told", "_law_now", "_law_front", "_law_at", "_law_first", "_law_owner", "_law_other", "_law_name", "_law_one", "_law_rows"] d__law_from_right.qual d__law_from_right.scope (d__law_from_right.at_ (GG K).K) cdv A outer s H Ex) (fun c d' _ H => Ex c d' H) := here_of hr
  exact (dss_cons (ds_lcs (q := false) rfl sc__law_from_right.nd (blkOk_by (own := [("_law_pair", 5)]) (by kernel_rfl)) (diq_seqT hh.K (dv_of (de_var 2))) (fun _ _ _ _ _ => (dg_name sc__law_from_right.nd)) (fun _ _ _ _ _ => dts_nil) (fun _ _ _ _ _ => (de_if (dt_val (de_var 3)) (de_call hh.blk (c__law_given B) (da_cons (de_var 5) da_nil)) (de_new hh.blk (mk_Ratiod__initd__2 B) (da_cons (de_ix hh.blk.K (dv_of (de_var 5)) de_int) (da_cons (de_ix hh.blk.K (dv_of (de_var 5)) de_int) da_nil))))))
    (dss_cons (ds_asg (de_call hh (c__law_fronts B) (da_cons (de_var 0) (da_cons (de_call hh (c__law_alive B) (da_cons (de_var 2) da_nil)) da_nil))) (dg_tup hh.K rfl (dgs_cons (dg_name sc__law_from_right.nd) (dgs_cons (dg_name sc__law_from_right.nd) dgs_nil))))
    (dss_cons (ds_for (passes_of rfl) rfl (di_range1 (da_cons de_int da_nil) (B.free (k3 B))) (dg_name sc__law_from_right.nd) (dss_cons (ds_set sc__law_from_right.nd (de_call hh (c_fronts B) (da_cons (de_var 1) (da_cons (de_var 4) da_nil))))
    (dss_cons (ds_if (PW.pt (dw_or (dt_cmp (op_gNe hh.K hh.u64) (de_var 9) (de_tup (da_cons (de_var 6) (da_cons (de_var 7) da_nil)))) (dw_or (dt_not (dt_val (de_b2 (cr_isi hh.K (isf B)) (B.free (k7 B)) (by decide +kernel) (de_var 9) (de_ty (B.free (k49 B)) (by decide +kernel))))) (dw_or1 (dt_val (de_b2 (cr_isi hh.K (isf B)) (B.free (k7 B)) (by decide +kernel) (de_ix hh.K (dv_of (de_var 9)) de_int) (de_ty (B.free (k8 B)) (by decide +kernel)))))))) (dss_one (ds_ret de_bl)) dss_nil)
    (dss_cons (ds_appC hh.K (pe_bm PySem.F.plainAttrs_list PySem.F.slot_list_append PySem.F.type_list_append mt_append (de_ix hh.K (dv_of (de_ix hh.K (dv_of (de_var 9)) de_int)) de_int) (pa_cons de_str pa_nil)))
    (dss_one (ds_appC hh.K (pe_bm PySem.F.plainAttrs_list PySem.F.slot_list_append PySem.F.type_list_append mt_append (de_ix hh.K (dv_of (de_var 9)) de_int) (pa_cons de_str pa_nil))))))))
    (dss_cons (ds_set sc__law_from_right.nd (de_var 4))
    (dss_cons (ds_for (passes_of rfl) rfl (di_seq hh.K (de_var 6)) (dg_name sc__law_from_right.nd) (dss_cons (ds_if (dt_cmp (op_gNe hh.K hh.u64) (de_lc (q := false) rfl sc__law_from_right.nd (diq (di_range1 (da_cons (de_b1 (cr_len hh.K) (B.free (k2 B)) (by decide +kernel) (dv_of (de_var 0))) da_nil) (B.free (k3 B)))) (blkOk_by (own := [("_law_at", 12)]) (by kernel_rfl)) (fun _ _ _ _ _ => (dg_name sc__law_from_right.nd)) (fun _ _ _ _ _ => (dts_one (dt_cmp (op_or (op_gNe hh.blk.K hh.blk.u64) (op_ownNe hh.blk (eqf0 B) (nef0 B) (c_Ratiod__eqd_ B))) (de_ix hh.blk.K (dv_of (de_var 10)) (de_var 12)) de_int))) (fun _ _ _ _ _ => (de_var 12))) (de_var 11)) (dss_one (ds_ret de_bl)) dss_nil)
    (dss_one (ds_set sc__law_from_right.nd (de_call hh (c_best_step B) (da_cons (de_var 1) (da_cons (de_var 10) da_nil)))))))
    (dss_cons (ds_set sc__law_from_right.nd (de_if (dt_cmpW (op_gInP hh.K (u65_of hh.u66)) (de_lst da_nil) (dv_of (de_var 6))) (de_idx hh.K (u65_of hh.u66) PySem.F.type_list_index (dv_of (de_var 6)) (de_lst da_nil)) de_non))
    (dss_cons (ds_if (PW.pt (dw_or (dt_cmp (op_gNe hh.K hh.u64) (de_call hh (c_death B) (da_cons (de_var 1) (da_cons (de_var 4) da_nil))) (de_var 13)) (dw_or1 (dt_cmp (op_gNe hh.K hh.u64) (de_call hh (c_death B) (da_cons (de_var 1) (da_cons (de_t1 (cr_tuple hh.K) (B.free (k49 B)) (by decide +kernel) (dv_of (de_var 4))) da_nil))) (de_var 13))))) (dss_one (ds_ret de_bl)) dss_nil)
    (dss_cons (ds_for (passes_of rfl) rfl (di_seq hh.K (de_lst (da_cons de_str (da_cons de_str da_nil)))) (dg_name sc__law_from_right.nd) (dss_cons (ds_lcs (q := false) rfl sc__law_from_right.nd (blkOk_by (own := [("_law_name", 16), ("_law_one", 17), ("_law_rows", 18)]) (by kernel_rfl)) (diq_seqT hh.K (dv_of (de_var 0))) (fun _ _ _ _ _ => (dg_tup hh.blk.K rfl (dgs_cons (dg_name sc__law_from_right.nd) (dgs_cons (dg_name sc__law_from_right.nd) (dgs_cons (dg_name sc__law_from_right.nd) dgs_nil))))) (fun _ _ _ _ _ => dts_nil) (fun _ _ _ _ _ => (de_lst (da_cons (de_var 16) (da_cons (de_var 14) (da_cons (de_var 18) da_nil))))))
    (dss_one (ds_if (dt_cmp (op_gNe hh.K hh.u64) (de_call hh (c_fronts B) (da_cons (de_meth hh (.cl _ (cl1 B)) (mtB_ok (k91 B)) (c_Table_owned B) (de_var 1) (da_cons (de_var 14) da_nil)) (da_cons (de_var 4) da_nil))) (de_call hh (c__law_fronts B) (da_cons (de_var 15) (da_cons (de_call hh (c__law_alive B) (da_cons (de_var 2) da_nil)) da_nil)))) (dss_one (ds_ret de_bl)) dss_nil))))
    (dss_one (ds_ret de_bl))))))))))
theorem c__law_from_right (B : BB K mg) : Cal (GG K) P w mg base 11 "_law_from_right" 4 D__law_from_right := cal_of (Γ := GG K) (k := 10) (d := d__law_from_right) (ξ := ⟨0, .none, none⟩) (body := b__law_from_right) B 1 sc__law_from_right (k111 B) (p__law_from_right B) (fun _ _ _ _ _ _ us hl => match us, hl with | [_, _, _, _], _ => rfl)
noncomputable def b__law_take : SF := (sSeq (sIf (eOp2 iGt (eOp2 gIx (eVar 0) (eC (.int 0))) (eC (.int 0))) (sSeq (sAsg (tgN 2) (eOp2 iMod (eOp2 gIx (eVar 0) (eC (.int 0))) (eVar 1)))
    (sSeq (sStore (eVar 0) (eC (.int 0)) (eOp2 iDiv (eOp2 gIx (eVar 0) (eC (.int 0))) (eVar 1)))
    (sRet (eVar 2)))) sNil)
    (sSeq (sStore (eVar 0) (eC (.int 2)) (eOp2 iAdd (eOp2 gIx (eVar 0) (eC (.int 2))) (eC (.int 1))))
    (sSeq (sAsg (tgN 3) (eOp2 iMod (eOp2 iPow (eOp2 iAdd (eOp2 iAdd (eOp2 gIx (eVar 0) (eC (.int 1))) (eOp2 iMul (eC (.int 15490523)) (eOp2 gIx (eVar 0) (eC (.int 2))))) (eC (.int 2305))) (eC (.int 5))) (eC (.int 2147483647))))
    (sSeq (sAsg (tgN 3) (eOp2 iMod (eOp2 iPow (eOp2 iAdd (eVar 3) (eOp2 iMul (eC (.int 104711)) (eOp2 gIx (eVar 0) (eC (.int 2))))) (eC (.int 3))) (eC (.int 2147483587))))
    (sRet (eOp2 iMod (eOp2 iDiv (eVar 3) (eC (.int 32))) (eVar 1)))))))
noncomputable def D__law_take : List D → Store → Res := fnD 4 b__law_take
theorem p__law_take (B : BB K mg) {ξ : Xx} (cdv : Value) (A : Around) (outer : List Env) (s : Shared) (H : Hp) (Ex : XK) (hr : Room 0 (A.deeper (envOfC d__law_take.qual d__law_take.scope s.heap.objs.size (d__law_take.at_ (GG K).K) cdv))) :
    PSs (cxOf (L2.CX P w) P w (GG K).K mg base ["_law_box_here", "_law_many", "_law_digit", "_law_mixed"] d__law_take.qual d__law_take.scope (d__law_take.at_ (GG K).K) cdv A outer s H Ex) d__law_take.body (dS (GG K) ξ b__law_take (fun c d' _ H => Ex c d' H)) := by
  have hh : Here (GG K) P w mg base 0 (cxOf (L2.CX P w) P w (GG K).K mg base ["_law_box_here", "_law_many", "_law_digit", "_law_mixed"] d__law_take.qual d__law_take.scope (d__law_take.at_ (GG K).K) cdv A outer s H Ex) (fun c d' _ H => Ex c d' H) := here_of hr
  exact (dss_cons (ds_if (dt_cmp op_iGt (de_ix hh.K (dv_of (de_var 0)) de_int) de_int) (dss_cons (ds_set sc__law_take.nd (de_op op_iMod (de_ix hh.K (dv_of (de_var 0)) de_int) (de_var 1)))
    (dss_cons (ds_store (de_var 0) de_int (de_op op_iDiv (de_ix hh.K (dv_of (de_var 0)) de_int) (de_var 1)))
    (dss_one (ds_ret (de_var 2))))) dss_nil)
    (dss_cons (ds_store (de_var 0) de_int (de_op op_iAdd (de_ix hh.K (dv_of (de_var 0)) de_int) de_int))
    (dss_cons (ds_set sc__law_take.nd (de_op op_iMod (de_op op_iPow (de_op op_iAdd (de_op op_iAdd (de_ix hh.K (dv_of (de_var 0)) de_int) (de_op op_iMul de_int (de_ix hh.K (dv_of (de_var 0)) de_int))) de_int) de_int) de_int))
    (dss_cons (ds_set sc__law_take.nd (de_op op_iMod (de_op op_iPow (de_op op_iAdd (de_var 3) (de_op op_iMul de_int (de_ix hh.K (dv_of (de_var 0)) de_int))) de_int) de_int))
    (dss_one (ds_ret (de_op op_iMod (de_op op_iDiv (de_var 3) de_int) (de_var 1))))))))
theorem c__law_take (B : BB K mg) : Cal (GG K) P w mg base 1 "_law_take" 2 D__law_take := cal_of (Γ := GG K) (k := 0) (d := d__law_take) (ξ := ⟨0, .none, none⟩) (body := b__law_take) B 58 sc__law_take (k112 B) (p__law_take B) (fun _ _ _ _ _ _ us hl => match us, hl with | [_, _], _ => rfl)
noncomputable def b__law_number : SF := (sSeq (sAsg (tgN 1) (eLst (aCons (eTup (aCons (eC (.int 0)) (aCons (eC (.int 1)) aNil))) (aCons (eTup (aCons (eC (.int 0)) (aCons (eC (.int 1)) aNil))) (aCons (eTup (aCons (eC (.int 1)) (aCons (eC (.int 1)) aNil))) (aCons (eTup (aCons (eC (.int 1)) (aCons (eC (.int 1)) aNil))) (aCons (eTup (aCons (eC (.int 2)) (aCons (eC (.int 1)) aNil))) (aCons (eTup (aCons (eC (.int 3)) (aCons (eC (.int 1)) aNil))) (aCons (eTup (aCons (eC (.int 1)) (aCons (eC (.int 2)) aNil))) (aCons (eTup (aCons (eC (.int 2)) (aCons (eC (.int 3)) aNil))) (aCons (eTup (aCons (eC (.int 5)) (aCons (eC (.int 4)) aNil))) (aCons (eTup (aCons (eC (.int 0)) (aCons (eC (.int 1)) aNil))) (aCons (eTup (aCons (eC (.int 1)) (aCons (eC (.int 1)) aNil))) (aCons (eTup (aCons (eOp2 iPow (eC (.int 10)) (eC (.int 12))) (aCons (eC (.int 7)) aNil))) aNil))))))))))))))
    (sRet (eOp2 gIx (eVar 1) (eCall 2 D__law_take (aCons (eVar 0) (aCons (eC (.int 12)) aNil))))))
noncomputable def D__law_number : List D → Store → Res := fnD 2 b__law_number
theorem p__law_number (B : BB K mg) {ξ : Xx} (cdv : Value) (A : Around) (outer : List Env) (s : Shared) (H : Hp) (Ex : XK) (hr : Room 1 (A.deeper (envOfC d__law_number.qual d__law_number.scope s.heap.objs.size (d__law_number.at_ (GG K).K) cdv))) :
    PSs (cxOf (L2.CX P w) P w (GG K).K mg base ["_law_box_here", "_law_menu"] d__law_number.qual d__law_number.scope (d__law_number.at_ (GG K).K) cdv A outer s H Ex) d__law_number.body (dS (GG K) ξ b__law_number (fun c d' _ H => Ex c d' H)) := by
  have hh : Here (GG K) P w mg base 1 (cxOf (L2.CX P w) P w (GG K).K mg base ["_law_box_here", "_law_menu"] d__law_number.qual d__law_number.scope (d__law_number.at_ (GG K).K) cdv A outer s H Ex) (fun c d' _ H => Ex c d' H) := here_of hr
  exact (dss_cons (ds_set sc__law_number.nd (de_lst (da_cons (de_tup (da_cons de_int (da_cons de_int da_nil))) (da_cons (de_tup (da_cons de_int (da_cons de_int da_nil))) (da_cons (de_tup (da_cons de_int (da_cons de_int da_nil))) (da_cons (de_tup (da_cons de_int (da_cons de_int da_nil))) (da_cons (de_tup (da_cons de_int (da_cons de_int da_nil))) (da_cons (de_tup (da_cons de_int (da_cons de_int da_nil))) (da_cons (de_tup (da_cons de_int (da_cons de_int da_nil))) (da_cons (de_tup (da_cons de_int (da_cons de_int da_nil))) (da_cons (de_tup (da_cons de_int (da_cons de_int da_nil))) (da_cons (de_tup (da_cons de_int (da_cons de_int da_nil))) (da_cons (de_tup (da_cons de_int (da_cons de_int da_nil))) (da_cons (de_tup (da_cons (de_op op_iPow de_int de_int) (da_cons de_int da_nil))) da_nil))))))))))))))
    (dss_one (ds_ret (de_ix hh.K (dv_of (de_var 1)) (de_call hh (c__law_take B) (da_cons (de_var 0) (da_cons de_int da_nil)))))))
theorem c__law_number (B : BB K mg) : Cal (GG K) P w mg base 2 "_law_number" 1 D__law_number := cal_of (Γ := GG K) (k := 1) (d := d__law_number) (ξ := ⟨0, .none, none⟩) (body := b__law_number) B 59 sc__law_number (k113 B) (p__law_number B) (fun _ _ _ _ _ _ us hl => match us, hl with | [_], _ => rfl)
noncomputable def b__law_few : SF := (sRet (eLc false [2] (itRange1 (aCons (eVar 1) aNil)) (tgN 2) eYes (eIf (eOp2 gEq (eCall 2 D__law_take (aCons (eVar 0) (aCons (eC (.int 2)) aNil))) (eC (.int 0))) (eCall 1 D__law_number (aCons (eVar 0) aNil)) (eTup (aCons (eC (.int 0)) (aCons (eC (.int 1)) aNil))))))
noncomputable def D__law_few : List D → Store → Res := fnD 3 b__law_few
theorem p__law_few (B : BB K mg) {ξ : Xx} (cdv : Value) (A : Around) (outer : List Env) (s : Shared) (H : Hp) (Ex : XK) (hr : Room 2 (A.deeper (envOfC d__law_few.qual d__law_few.scope s.heap.objs.size (d__law_few.at_ (GG K).K) cdv))) :
    PSs (cxOf (L2.CX P w) P w (GG K).K mg base ["_law_box_here", "_law_many", "_law_k"] d__law_few.qual d__law_few.scope (d__law_few.at_ (GG K).K) cdv A outer s H Ex) d__law_few.body (dS (GG K) ξ b__law_few (fun c d' _ H => Ex c d' H)) := by
  have hh : Here (GG K) P w mg base 2 (cxOf (L2.CX P w) P w (GG K).K mg base ["_law_box_here", "_law_many", "_law_k"] d__law_few.qual d__law_few.scope (d__law_few.at_ (GG K).K) cdv A outer s H Ex) (fun c d' _ H => Ex c d' H) := here_of hr
  exact (dss_one (ds_ret (de_lc (q := false) rfl sc__law_few.nd (diq (di_range1 (da_cons (de_var 1) da_nil) (B.free (k3 B)))) (blkOk_by (own := [("_law_k", 2)]) (by kernel_rfl)) (fun _ _ _ _ _ => (dg_name sc__law_few.nd)) (fun _ _ _ _ _ => dts_nil) (fun _ _ _ _ _ => (de_if (dt_cmp (op_gEq hh.blk.K hh.blk.u64) (de_call hh.blk (c__law_take B) (da_cons (de_var 0) (da_cons de_int da_nil))) de_int) (de_call hh.blk (c__law_number B) (da_cons (de_var 0) da_nil)) (de_tup (da_cons de_int (da_cons de_int da_nil))))))))
theorem c__law_few (B : BB K mg) : Cal (GG K) P w mg base 3 "_law_few" 2 D__law_few := cal_of (Γ := GG K) (k := 2) (d := d__law_few) (ξ := ⟨0, .none, none⟩) (body := b__law_few) B 57 sc__law_few (k114 B) (p__law_few B) (fun _ _ _ _ _ _ us hl => match us, hl with | [_, _], _ => rfl)
noncomputable def b__law_handed : SF := (sSeq (sAcc 1 aNil)
    (sSeq (sFor (itSeq (eVar 0)) (tgT 3 (tsCons (tgN 2) (tsCons (tgN 3) (tsCons (tgN 4) tsNil)))) (sApp 1 (eTup (aCons (eVar 2) (aCons (eVar 3) (aCons (eLc false [6] (itSeq (eVar 4)) (tgN 6) eYes (eLc false [5] (itSeq (eVar 6)) (tgN 5) eYes (eCall 1 D__law_given (aCons (eVar 5) aNil)))) aNil))))))
    (sRet (eVar 1))))
noncomputable def D__law_handed : List D → Store → Res := fnD 7 b__law_handed
theorem p__law_handed (B : BB K mg) {ξ : Xx} (cdv : Value) (A : Around) (outer : List Env) (s : Shared) (H : Hp) (Ex : XK) (hr : Room 5 (A.deeper (envOfC d__law_handed.qual d__law_handed.scope s.heap.objs.size (d__law_handed.at_ (GG K).K) cdv))) :
    PSs (cxOf (L2.CX P w) P w (GG K).K mg base ["_law_spec_here", "_law_found", "_law_name", "_law_owner", "_law_rows", "_law_pair", "_law_row"] d__law_handed.qual d__law_handed.scope (d__law_handed.at_ (GG K).K) cdv A outer s H Ex) d__law_handed.body (dS (GG K) ξ b__law_handed (fun c d' _ H => Ex c d' H)) := by
  have hh : Here (GG K) P w mg base 5 (cxOf (L2.CX P w) P w (GG K).K mg base ["_law_spec_here", "_law_found", "_law_name", "_law_owner", "_law_rows", "_law_pair", "_law_row"] d__law_handed.qual d__law_handed.scope (d__law_handed.at_ (GG K).K) cdv A outer s H Ex) (fun c d' _ H => Ex c d' H) := here_of hr
  exact (dss_cons (ds_acc sc__law_handed.nd da_nil)
    (dss_cons (ds_for (passes_of rfl) rfl (di_seq hh.K (de_var 0)) (dg_tup hh.K rfl (dgs_cons (dg_name sc__law_handed.nd) (dgs_cons (dg_name sc__law_handed.nd) (dgs_cons (dg_name sc__law_handed.nd) dgs_nil)))) (dss_one (ds_app (i := 1) hh.K (pe_bm PySem.F.plainAttrs_list PySem.F.slot_list_append PySem.F.type_list_append mt_append (pv 1) (pa_cons (de_tup (da_cons (de_var 2) (da_cons (de_var 3) (da_cons (de_lc (q := false) rfl sc__law_handed.nd (diq_seqT hh.K (dv_of (de_var 4))) (blkOk_by (own := [("_law_row", 6)]) (by kernel_rfl)) (fun _ _ _ _ _ => (dg_name sc__law_handed.nd)) (fun _ _ _ _ _ => dts_nil) (fun _ _ _ _ _ => (de_lc (q := false) rfl sc__law_handed.nd (diq_seqT hh.blk.K (dv_of (de_var 6))) (blkOk_by (own := [("_law_pair", 5)]) (by kernel_rfl)) (fun _ _ _ _ _ => (dg_name sc__law_handed.nd)) (fun _ _ _ _ _ => dts_nil) (fun _ _ _ _ _ => (de_call hh.blk.blk (c__law_given B) (da_cons (de_var 5) da_nil)))))) da_nil)))) pa_nil)))))
    (dss_one (ds_ret (de_var 1)))))
theorem c__law_handed (B : BB K mg) : Cal (GG K) P w mg base 6 "_law_handed" 1 D__law_handed := cal_of (Γ := GG K) (k := 5) (d := d__law_handed) (ξ := ⟨0, .none, none⟩) (body := b__law_handed) B 61 sc__law_handed (k115 B) (p__law_handed B) (fun _ _ _ _ _ _ us hl => match us, hl with | [_], _ => rfl)
noncomputable def b__law_table : SF := (sRet (eNewC 1 1 1 [] I_Tabled__initd_ (aCons (eCall 1 D__law_handed (aCons (eVar 0) aNil)) aNil)))
noncomputable def D__law_table : List D → Store → Res := fnD 1 b__law_table
theorem p__law_table (B : BB K mg) {ξ : Xx} (cdv : Value) (A : Around) (outer : List Env) (s : Shared) (H : Hp) (Ex : XK) (hr : Room 9 (A.deeper (envOfC d__law_table.qual d__law_table.scope s.heap.objs.size (d__law_table.at_ (GG K).K) cdv))) :
    PSs (cxOf (L2.CX P w) P w (GG K).K mg base ["_law_spec_here"] d__law_table.qual d__law_table.scope (d__law_table.at_ (GG K).K) cdv A outer s H Ex) d__law_table.body (dS (GG K) ξ b__law_table (fun c d' _ H => Ex c d' H)) := by
  have hh : Here (GG K) P w mg base 9 (cxOf (L2.CX P w) P w (GG K).K mg base ["_law_spec_here"] d__law_table.qual d__law_table.scope (d__law_table.at_ (GG K).K) cdv A outer s H Ex) (fun c d' _ H => Ex c d' H) := here_of hr
  exact (dss_one (ds_ret (de_newC hh (mk_Tabled__initd__1 B) (da_cons (de_call hh (c__law_handed B) (da_cons (de_var 0) da_nil)) da_nil))))
theorem c__law_table (B : BB K mg) : Cal (GG K) P w mg base 10 "_law_table" 1 D__law_table := cal_of (Γ := GG K) (k := 9) (d := d__law_table) (ξ := ⟨0, .none, none⟩) (body := b__law_table) B 60 sc__law_table (k116 B) (p__law_table B) (fun _ _ _ _ _ _ us hl => match us, hl with | [_], _ => rfl)
noncomputable def b__law_thin : SF := (sSeq (sAsg (tgN 2) (eOp2 iAdd (eC (.int 2)) (eCall 2 D__law_take (aCons (eVar 0) (aCons (eC (.int 3)) aNil)))))
    (sSeq (sAcc 3 aNil)
    (sSeq (sFor (itSeq (eVar 1)) (tgT 3 (tsCons (tgN 4) (tsCons (tgN 5) (tsCons (tgN 6) tsNil)))) (sSeq (sAsg (tgN 7) (eLc false [9] (itSeq (eVar 6)) (tgN 9) eYes (eLc false [8] (itSeq (eVar 9)) (tgN 8) eYes (eIf (eOp2 gEq (eCall 2 D__law_take (aCons (eVar 0) (aCons (eVar 2) aNil))) (eC (.int 0))) (eVar 8) (eTup (aCons (eC (.int 0)) (aCons (eC (.int 1)) aNil)))))))
    (sApp 3 (eLst (aCons (eVar 4) (aCons (eVar 5) (aCons (eVar 7) aNil)))))))
    (sRet (eVar 3)))))
noncomputable def D__law_thin : List D → Store → Res := fnD 10 b__law_thin
theorem p__law_thin (B : BB K mg) {ξ : Xx} (cdv : Value) (A : Around) (outer : List Env) (s : Shared) (H : Hp) (Ex : XK) (hr : Room 1 (A.deeper (envOfC d__law_thin.qual d__law_thin.scope s.heap.objs.size (d__law_thin.at_ (GG K).K) cdv))) :
    PSs (cxOf (L2.CX P w) P w (GG K).K mg base ["_law_box_here", "_law_spec_here", "_law_keep", "_law_found", "_law_name", "_law_owner", "_law_rows", "_law_told", "_law_pair", "_law_row"] d__law_thin.qual d__law_thin.scope (d__law_thin.at_ (GG K).K) cdv A outer s H Ex) d__law_thin.body (dS (GG K) ξ b__law_thin (fun c d' _ H => Ex c d' H)) := by
  have hh : Here (GG K) P w mg base 1 (cxOf (L2.CX P w) P w (GG K).K mg base ["_law_box_here", "_law_spec_here", "_law_keep", "_law_found", "_law_name", "_law_owner", "_law_rows", "_law_told", "_law_pair", "_law_row"] d__law_thin.qual d__law_thin.scope (d__law_thin.at_ (GG K).K) cdv A outer s H Ex) (fun c d' _ H => Ex c d' H) := here_of hr
  exact (dss_cons (ds_set sc__law_thin.nd (de_op op_iAdd de_int (de_call hh (c__law_take B) (da_cons (de_var 0) (da_cons de_int da_nil)))))
    (dss_cons (ds_acc sc__law_thin.nd da_nil)
    (dss_cons (ds_for (passes_of rfl) rfl (di_seq hh.K (de_var 1)) (dg_tup hh.K rfl (dgs_cons (dg_name sc__law_thin.nd) (dgs_cons (dg_name sc__law_thin.nd) (dgs_cons (dg_name sc__law_thin.nd) dgs_nil)))) (dss_cons (ds_lcs (q := false) rfl sc__law_thin.nd (blkOk_by (own := [("_law_row", 9)]) (by kernel_rfl)) (diq_seqT hh.K (dv_of (de_var 6))) (fun _ _ _ _ _ => (dg_name sc__law_thin.nd)) (fun _ _ _ _ _ => dts_nil) (fun _ _ _ _ _ => (de_lc (q := false) rfl sc__law_thin.nd (diq_seqT hh.blk.K (dv_of (de_var 9))) (blkOk_by (own := [("_law_pair", 8)]) (by kernel_rfl)) (fun _ _ _ _ _ => (dg_name sc__law_thin.nd)) (fun _ _ _ _ _ => dts_nil) (fun _ _ _ _ _ => (de_if (dt_cmp (op_gEq hh.blk.blk.K hh.blk.blk.u64) (de_call hh.blk.blk (c__law_take B) (da_cons (de_var 0) (da_cons (de_var 2) da_nil))) de_int) (de_var 8) (de_tup (da_cons de_int (da_cons de_int da_nil))))))))
    (dss_one (ds_app (i := 3) hh.K (pe_bm PySem.F.plainAttrs_list PySem.F.slot_list_append PySem.F.type_list_append mt_append (pv 3) (pa_cons (de_lst (da_cons (de_var 4) (da_cons (de_var 5) (da_cons (de_var 7) da_nil)))) pa_nil))))))
    (dss_one (ds_ret (de_var 3))))))
theorem c__law_thin (B : BB K mg) : Cal (GG K) P w mg base 2 "_law_thin" 2 D__law_thin := cal_of (Γ := GG K) (k := 1) (d := d__law_thin) (ξ := ⟨0, .none, none⟩) (body := b__law_thin) B 62 sc__law_thin (k117 B) (p__law_thin B) (fun _ _ _ _ _ _ us hl => match us, hl with | [_, _], _ => rfl)
noncomputable def b__law_spec : SF := (sSeq (sAcc 2 aNil)
    (sSeq (sAsg (tgN 3) (eOp2 iAdd (eC (.int 1)) (eCall 2 D__law_take (aCons (eVar 0) (aCons (eVar 1) aNil)))))
    (sSeq (sAsg (tgN 4) (eOp2 gIx (eLst (aCons (eLst (aCons (eC (.str "a")) (aCons (eC (.str "b")) (aCons (eC (.str "c")) (aCons (eC (.str "d")) (aCons (eC (.str "e")) aNil)))))) (aCons (eLst (aCons (eC (.str "pit")) (aCons (eC (.str "foe")) (aCons (eC (.str "ab")) (aCons (eC (.str "steerer")) (aCons (eC (.str "up")) aNil)))))) aNil))) (eCall 2 D__law_take (aCons (eVar 0) (aCons (eC (.int 2)) aNil)))))
    (sSeq (sFor (itRange1 (aCons (eVar 3) aNil)) (tgN 5) (sSeq (sAsg (tgN 6) (eOp2 iAdd (eC (.int 1)) (eCall 2 D__law_take (aCons (eVar 0) (aCons (eOp2 gIx (eLst (aCons (eC (.int 4)) (aCons (eC (.int 4)) (aCons (eC (.int 4)) (aCons (eC (.int 3)) (aCons (eC (.int 2)) aNil)))))) (eOp2 iSub (eVar 3) (eC (.int 1)))) aNil)))))
    (sSeq (sAsg (tgN 7) (eLc false [9] (itRange1 (aCons (eVar 6) aNil)) (tgN 9) eYes (eLc false [8] (itRange1 (aCons (eVar 3) aNil)) (tgN 8) eYes (eCall 1 D__law_number (aCons (eVar 0) aNil)))))
    (sApp 2 (eLst (aCons (eOp2 gIx (eVar 4) (eVar 5)) (aCons (eOp2 gIx (eLst (aCons (eC (.str "steerer")) (aCons (eC (.str "foe")) aNil))) (eCall 2 D__law_take (aCons (eVar 0) (aCons (eC (.int 2)) aNil)))) (aCons (eVar 7) aNil))))))))
    (sRet (eVar 2))))))
noncomputable def D__law_spec : List D → Store → Res := fnD 10 b__law_spec
theorem p__law_spec (B : BB K mg) {ξ : Xx} (cdv : Value) (A : Around) (outer : List Env) (s : Shared) (H : Hp) (Ex : XK) (hr : Room 2 (A.deeper (envOfC d__law_spec.qual d__law_spec.scope s.heap.objs.size (d__law_spec.at_ (GG K).K) cdv))) :
    PSs (cxOf (L2.CX P w) P w (GG K).K mg base ["_law_box_here", "_law_most", "_law_found", "_law_many", "_law_names", "_law_at", "_law_count", "_law_rows", "_law_j", "_law_k"] d__law_spec.qual d__law_spec.scope (d__law_spec.at_ (GG K).K) cdv A outer s H Ex) d__law_spec.body (dS (GG K) ξ b__law_spec (fun c d' _ H => Ex c d' H)) := by
  have hh : Here (GG K) P w mg base 2 (cxOf (L2.CX P w) P w (GG K).K mg base ["_law_box_here", "_law_most", "_law_found", "_law_many", "_law_names", "_law_at", "_law_count", "_law_rows", "_law_j", "_law_k"] d__law_spec.qual d__law_spec.scope (d__law_spec.at_ (GG K).K) cdv A outer s H Ex) (fun c d' _ H => Ex c d' H) := here_of hr
  exact (dss_cons (ds_acc sc__law_spec.nd da_nil)
    (dss_cons (ds_set sc__law_spec.nd (de_op op_iAdd de_int (de_call hh (c__law_take B) (da_cons (de_var 0) (da_cons (de_var 1) da_nil)))))
    (dss_cons (ds_set sc__law_spec.nd (de_ix hh.K (dv_of (de_lst (da_cons (de_lst (da_cons de_str (da_cons de_str (da_cons de_str (da_cons de_str (da_cons de_str da_nil)))))) (da_cons (de_lst (da_cons de_str (da_cons de_str (da_cons de_str (da_cons de_str (da_cons de_str da_nil)))))) da_nil)))) (de_call hh (c__law_take B) (da_cons (de_var 0) (da_cons de_int da_nil)))))
    (dss_cons (ds_for (passes_of rfl) rfl (di_range1 (da_cons (de_var 3) da_nil) (B.free (k3 B))) (dg_name sc__law_spec.nd) (dss_cons (ds_set sc__law_spec.nd (de_op op_iAdd de_int (de_call hh (c__law_take B) (da_cons (de_var 0) (da_cons (de_ix hh.K (dv_of (de_lst (da_cons de_int (da_cons de_int (da_cons de_int (da_cons de_int (da_cons de_int da_nil))))))) (de_op op_iSub (de_var 3) de_int)) da_nil)))))
    (dss_cons (ds_lcs (q := false) rfl sc__law_spec.nd (blkOk_by (own := [("_law_k", 9)]) (by kernel_rfl)) (diq (di_range1 (da_cons (de_var 6) da_nil) (B.free (k3 B)))) (fun _ _ _ _ _ => (dg_name sc__law_spec.nd)) (fun _ _ _ _ _ => dts_nil) (fun _ _ _ _ _ => (de_lc (q := false) rfl sc__law_spec.nd (diq (di_range1 (da_cons (de_var 3) da_nil) (B.free (k3 B)))) (blkOk_by (own := [("_law_j", 8)]) (by kernel_rfl)) (fun _ _ _ _ _ => (dg_name sc__law_spec.nd)) (fun _ _ _ _ _ => dts_nil) (fun _ _ _ _ _ => (de_call hh.blk.blk (c__law_number B) (da_cons (de_var 0) da_nil))))))
    (dss_one (ds_app (i := 2) hh.K (pe_bm PySem.F.plainAttrs_list PySem.F.slot_list_append PySem.F.type_list_append mt_append (pv 2) (pa_cons (de_lst (da_cons (de_ix hh.K (dv_of (de_var 4)) (de_var 5)) (da_cons (de_ix hh.K (dv_of (de_lst (da_cons de_str (da_cons de_str da_nil)))) (de_call hh (c__law_take B) (da_cons (de_var 0) (da_cons de_int da_nil)))) (da_cons (de_var 7) da_nil)))) pa_nil)))))))
    (dss_one (ds_ret (de_var 2)))))))
theorem c__law_spec (B : BB K mg) : Cal (GG K) P w mg base 3 "_law_spec" 2 D__law_spec := cal_of (Γ := GG K) (k := 2) (d := d__law_spec) (ξ := ⟨0, .none, none⟩) (body := b__law_spec) B 63 sc__law_spec (k118 B) (p__law_spec B) (fun _ _ _ _ _ _ us hl => match us, hl with | [_, _], _ => rfl)
noncomputable def b__law_box : SF := (sRet (eCell (aCons (eOp2 gMax (eC (.int 0)) (eOp2 iSub (eVar 0) (eOp2 iPow (eC (.int 10)) (eC (.int 18))))) (aCons (eOp2 iMod (eVar 0) (eC (.int 2147483629))) (aCons (eC (.int 0)) aNil)))))
noncomputable def D__law_box : List D → Store → Res := fnD 1 b__law_box
theorem p__law_box (B : BB K mg) {ξ : Xx} (cdv : Value) (A : Around) (outer : List Env) (s : Shared) (H : Hp) (Ex : XK) (hr : Room 0 (A.deeper (envOfC d__law_box.qual d__law_box.scope s.heap.objs.size (d__law_box.at_ (GG K).K) cdv))) :
    PSs (cxOf (L2.CX P w) P w (GG K).K mg base ["_law_cell_here"] d__law_box.qual d__law_box.scope (d__law_box.at_ (GG K).K) cdv A outer s H Ex) d__law_box.body (dS (GG K) ξ b__law_box (fun c d' _ H => Ex c d' H)) := by
  have hh : Here (GG K) P w mg base 0 (cxOf (L2.CX P w) P w (GG K).K mg base ["_law_cell_here"] d__law_box.qual d__law_box.scope (d__law_box.at_ (GG K).K) cdv A outer s H Ex) (fun c d' _ H => Ex c d' H) := here_of hr
  exact (dss_one (ds_ret (de_cell (da_cons (de_b2 (cr_max rfl) (B.free (k0 B)) (by decide +kernel) de_int (de_op op_iSub (de_var 0) (de_op op_iPow de_int de_int))) (da_cons (de_op op_iMod (de_var 0) de_int) (da_cons de_int da_nil))))))
theorem c__law_box (B : BB K mg) : Cal (GG K) P w mg base 1 "_law_box" 1 D__law_box := cal_of (Γ := GG K) (k := 0) (d := d__law_box) (ξ := ⟨0, .none, none⟩) (body := b__law_box) B 64 sc__law_box (k119 B) (p__law_box B) (fun _ _ _ _ _ _ us hl => match us, hl with | [_], _ => rfl)
noncomputable def b__law_cell : SF := (sSeq (sIf (eOp2 iLt (eVar 1) (eOp1 gLen (eVar 0))) (sRet (eOp2 gIx (eVar 0) (eVar 1))) sNil)
    (sRet (eOp2 iAdd (eOp2 iMul (eC (.int 15490523)) (eVar 1)) (eC (.int 2305)))))
noncomputable def D__law_cell : List D → Store → Res := fnD 2 b__law_cell
theorem p__law_cell (B : BB K mg) {ξ : Xx} (cdv : Value) (A : Around) (outer : List Env) (s : Shared) (H : Hp) (Ex : XK) (hr : Room 0 (A.deeper (envOfC d__law_cell.qual d__law_cell.scope s.heap.objs.size (d__law_cell.at_ (GG K).K) cdv))) :
    PSs (cxOf (L2.CX P w) P w (GG K).K mg base ["_law_script", "_law_k"] d__law_cell.qual d__law_cell.scope (d__law_cell.at_ (GG K).K) cdv A outer s H Ex) d__law_cell.body (dS (GG K) ξ b__law_cell (fun c d' _ H => Ex c d' H)) := by
  have hh : Here (GG K) P w mg base 0 (cxOf (L2.CX P w) P w (GG K).K mg base ["_law_script", "_law_k"] d__law_cell.qual d__law_cell.scope (d__law_cell.at_ (GG K).K) cdv A outer s H Ex) (fun c d' _ H => Ex c d' H) := here_of hr
  exact (dss_cons (ds_if (dt_cmp op_iLt (de_var 1) (de_b1 (cr_len hh.K) (B.free (k2 B)) (by decide +kernel) (dv_of (de_var 0)))) (dss_one (ds_ret (de_ix hh.K (dv_of (de_var 0)) (de_var 1)))) dss_nil)
    (dss_one (ds_ret (de_op op_iAdd (de_op op_iMul de_int (de_var 1)) de_int))))
theorem c__law_cell (B : BB K mg) : Cal (GG K) P w mg base 1 "_law_cell" 2 D__law_cell := cal_of (Γ := GG K) (k := 0) (d := d__law_cell) (ξ := ⟨0, .none, none⟩) (body := b__law_cell) B 65 sc__law_cell (k120 B) (p__law_cell B) (fun _ _ _ _ _ _ us hl => match us, hl with | [_, _], _ => rfl)
noncomputable def b_law : SF := (sSeq (sFor (itRange1 (aCons (eOp2 gMax (eC (.int 2)) (eOp2 gMin (eC (.int 6)) (eOp1 gLen (eVar 0)))) aNil)) (tgN 1) (sSeq (sAsg (tgN 2) (eCall 1 D__law_box (aCons (eCall 2 D__law_cell (aCons (eVar 0) (aCons (eVar 1) aNil))) aNil)))
    (sSeq (sAsg (tgN 3) (eCall 2 D__law_thin (aCons (eVar 2) (aCons (eCall 2 D__law_spec (aCons (eVar 2) (aCons (eC (.int 5)) aNil))) aNil))))
    (sSeq (sPar3 4 5 6 (aCons (eCall 1 D__law_table (aCons (eVar 3) aNil)) (aCons (eCall 2 D__law_few (aCons (eVar 2) (aCons (eOp1 gLen (eVar 3)) aNil))) (aCons (eCall 2 D__law_few (aCons (eVar 2) (aCons (eOp1 gLen (eVar 3)) aNil))) aNil))))
    (sFor (itSeq (eLst (aCons (eTup (aCons (eVar 5) (aCons (eC (.bl true)) aNil))) (aCons (eTup (aCons (eVar 6) (aCons (eC (.bl false)) aNil))) (aCons (eTup (aCons (eVar 5) (aCons (eC (.bl false)) aNil))) (aCons (eTup (aCons (eVar 6) (aCons (eC (.bl true)) aNil))) aNil)))))) (tgT 2 (tsCons (tgN 7) (tsCons (tgN 8) tsNil))) (sIf (eNot (eCall 4 D__law_from_right (aCons (eVar 3) (aCons (eVar 4) (aCons (eVar 7) (aCons (eVar 8) aNil)))))) (sRet (eC (.bl false))) sNil))))))
    (sRet (eC (.bl true))))
noncomputable def D_law : List D → Store → Res := fnD 9 b_law
theorem p_law (B : BB K mg) {ξ : Xx} (cdv : Value) (A : Around) (outer : List Env) (s : Shared) (H : Hp) (Ex : XK) (hr : Room 11 (A.deeper (envOfC d_law.qual d_law.scope s.heap.objs.size (d_law.at_ (GG K).K) cdv))) :
    PSs (cxOf (L2.CX P w) P w (GG K).K mg base ["_law_script", "_law_k", "_law_box_here", "_law_spec_here", "_law_table_here", "_law_first", "_law_second", "_law_held", "_law_whole"] d_law.qual d_law.scope (d_law.at_ (GG K).K) cdv A outer s H Ex) d_law.body (dS (GG K) ξ b_law (fun c d' _ H => Ex c d' H)) := by
  have hh : Here (GG K) P w mg base 11 (cxOf (L2.CX P w) P w (GG K).K mg base ["_law_script", "_law_k", "_law_box_here", "_law_spec_here", "_law_table_here", "_law_first", "_law_second", "_law_held", "_law_whole"] d_law.qual d_law.scope (d_law.at_ (GG K).K) cdv A outer s H Ex) (fun c d' _ H => Ex c d' H) := here_of hr
  exact (dss_cons (ds_for (passes_of rfl) rfl (di_range1 (da_cons (de_b2 (cr_max rfl) (B.free (k0 B)) (by decide +kernel) de_int (de_b2 (cr_min rfl) (B.free (k1 B)) (by decide +kernel) de_int (de_b1 (cr_len hh.K) (B.free (k2 B)) (by decide +kernel) (dv_of (de_var 0))))) da_nil) (B.free (k3 B))) (dg_name sc_law.nd) (dss_cons (ds_set sc_law.nd (de_call hh (c__law_box B) (da_cons (de_call hh (c__law_cell B) (da_cons (de_var 0) (da_cons (de_var 1) da_nil))) da_nil)))
    (dss_cons (ds_set sc_law.nd (de_call hh (c__law_thin B) (da_cons (de_var 2) (da_cons (de_call hh (c__law_spec B) (da_cons (de_var 2) (da_cons de_int da_nil))) da_nil))))
    (dss_cons (ds_par3 rfl sc_law.nd (da_cons (de_call hh (c__law_table B) (da_cons (de_var 3) da_nil)) (da_cons (de_call hh (c__law_few B) (da_cons (de_var 2) (da_cons (de_b1 (cr_len hh.K) (B.free (k2 B)) (by decide +kernel) (dv_of (de_var 3))) da_nil))) (da_cons (de_call hh (c__law_few B) (da_cons (de_var 2) (da_cons (de_b1 (cr_len hh.K) (B.free (k2 B)) (by decide +kernel) (dv_of (de_var 3))) da_nil))) da_nil))))
    (dss_one (ds_for (passes_of rfl) rfl (di_seq hh.K (de_lst (da_cons (de_tup (da_cons (de_var 5) (da_cons de_bl da_nil))) (da_cons (de_tup (da_cons (de_var 6) (da_cons de_bl da_nil))) (da_cons (de_tup (da_cons (de_var 5) (da_cons de_bl da_nil))) (da_cons (de_tup (da_cons (de_var 6) (da_cons de_bl da_nil))) da_nil)))))) (dg_tup hh.K rfl (dgs_cons (dg_name sc_law.nd) (dgs_cons (dg_name sc_law.nd) dgs_nil))) (dss_one (ds_if (dt_not (dt_val (de_call hh (c__law_from_right B) (da_cons (de_var 3) (da_cons (de_var 4) (da_cons (de_var 7) (da_cons (de_var 8) da_nil))))))) (dss_one (ds_ret de_bl)) dss_nil))))))))
    (dss_one (ds_ret de_bl)))
theorem c_law (B : BB K mg) : Cal (GG K) P w mg base 12 "law" 1 D_law := cal_of (Γ := GG K) (k := 11) (d := d_law) (ξ := ⟨0, .none, none⟩) (body := b_law) B 0 sc_law (k121 B) (p_law B) (fun _ _ _ _ _ _ us hl => match us, hl with | [_], _ => rfl)
end
end K40
set_option Elab.async false
set_option linter.all false
set_option maxRecDepth 100000
set_option maxHeartbeats 2000000
set_option autoImplicit false
/-! Plain laws, 1: evaluation of the further words; loops. -/
namespace DL
open PySem L2
section
variable {es : List SD} {S S' : Store} {d x y : D} {ds : List D} {k : Nat} {fs : List (Str × D)}
@[simp] theorem eChain_eq {g g' : D → D → Store → Res} {a b c : EF} : eChain g g' a b c es S = (a es S).bind fun x S1 => (b es S1).bind fun y S2 => (g x y S2).nox.bind fun r S3 => match r with
  | .bl true => (c es S3).bind fun z S4 => (g' y z S4).nox
  | .bl false => .ok (.bl false) S3
  | _ => .bad := rfl
@[simp] theorem eIsiT_eq {cs : List Nat} {f : EF} {g : AF} : eIsiT cs f g es S = (f es S).bind fun x S1 => (g es S1).bind fun ds S2 => if ds.length ≤ 1000 then match isiT cs x ds with
  | some b => .ok (.bl b) S2
  | none => .bad
  else .bad := rfl
@[simp] theorem sAcc_eq {i : Nat} {a : AF} : sAcc i a es S = match a es S with
  | .ok ds S1 => if ds.length ≤ 1000000 then .next (es.set i (.acc ds)) S1 else .bad
  | .exc k fs S1 => .exc k fs es S1
  | .bad => .bad := rfl
@[simp] theorem sApp_eq {i : Nat} {f : EF} : sApp i f es S = match es[i]? with
  | some (.acc ds) => (f es S).toS es fun d S1 => if ds.length < 1000000 then .next (es.set i (.acc (ds ++ [d]))) S1 else .bad
  | _ => .bad := rfl
@[simp] theorem sAppC_eq {fo fe : EF} : sAppC fo fe es S = (fo es S).toS es fun o S1 => match o with
  | .cell c => (fe es S1).toS es fun d S2 => match S2[c]? with
    | some ds => if ds.length < 1000000 then .next es (S2.set c (ds ++ [d])) else .bad
    | none => .bad
  | _ => .bad := rfl
@[simp] theorem eNewC_eq {c n l : Nat} {dfl : List D} {F : List D → Store → ResA} {a : AF} : eNewC c n l dfl F a es S = (a es S).bind fun ds S1 => newC c n l F (ds ++ dfl) S1 := rfl
@[simp] theorem gLenO_eq {j : Nat} {den : List D → Store → Res} : gLenO j den (.obj j ds) S = match den [.obj j ds] S with
  | .ok (.int n) S' => if 0 ≤ n ∧ n < 2 ^ 63 then .ok (.int n) S' else .bad
  | _ => .bad := by
  unfold gLenO
  simp only [isObj_eq, if_true, chk_eq, List.length_cons, List.length_nil]
  all_goals
    cases den [.obj j ds] S with
    | ok d S' => cases d <;> rfl
    | exc k fs S' => rfl
    | bad => rfl
@[simp] theorem sRaise_eq {n : Nat} {f : Str} {a : EF} : sRaise n f a es S = (a es S).toS es fun d S1 => .exc n [(f, d)] es S1 := rfl
@[simp] theorem isi_str_str {cs : List Nat} {z : Str} : gIsi cs (.str z) (.ty "str") S = .ok (.bl true) S := by
  have e : tyIs "str" "str" = some true := by decide +kernel
  show (match tyIs "str" "str" with | some b => Res.ok (.bl b) S | none => .bad) = _
  rw [e]
@[simp] theorem isi_tup_tup {cs : List Nat} : gIsi cs (.tup ds) (.ty "tuple") S = .ok (.bl true) S := by
  have e : tyIs "tuple" "tuple" = some true := by decide +kernel
  show (match tyIs "tuple" "tuple" with | some b => Res.ok (.bl b) S | none => .bad) = _
  rw [e]
@[simp] theorem isi_lst_list {cs : List Nat} : gIsi cs (.lst ds) (.ty "list") S = .ok (.bl true) S := by
  have e : tyIs "list" "list" = some true := by decide +kernel
  show (match tyIs "list" "list" with | some b => Res.ok (.bl b) S | none => .bad) = _
  rw [e]
theorem isi_non_bool {cs : List Nat} : gIsi cs .non (.ty "bool") S = .ok (.bl false) S := by
  have e : tyIs "NoneType" "bool" = some false := by decide +kernel
  show (match tyIs "NoneType" "bool" with | some b => Res.ok (.bl b) S | none => .bad) = _
  rw [e]

/-! ### things that are walked -/
/-- d is a list, a tuple, a cell with the items ds -/
structure Sq (S : Store) (d : D) (ds : List D) : Prop where
  ex : ∃ t g, seqV S d = some (t, ds, g) ∧ g.ok S
theorem Sq.lst : Sq S (.lst ds) ds := ⟨false, [], rfl, Gd.ok_nil S⟩
theorem Sq.tup : Sq S (.tup ds) ds := ⟨true, [], rfl, Gd.ok_nil S⟩
theorem Sq.cell {c : Nat} (h : S[c]? = some ds) : Sq S (.cell c) ds := ⟨false, [(c, ds)], by simp only [seqV, h], gd_one h⟩
theorem Sq.cases {d : D} {ds : List D} (h : Sq S d ds) : d = .lst ds ∨ d = .tup ds ∨ ∃ c, d = .cell c ∧ S[c]? = some ds := by
  obtain ⟨t, g, e, _⟩ := h.ex
  cases d with
  | lst fs => cases e; exact .inl rfl
  | tup fs => cases e; exact .inr (.inl rfl)
  | cell c =>
    cases hc : S[c]? with
    | none => simp only [seqV, hc] at e; cases e
    | some fs =>
      simp only [seqV, hc] at e
      cases e
      exact .inr (.inr ⟨c, rfl, hc⟩)
  | _ => cases e
theorem Sq.len (h : Sq S d ds) : gLen d S = .ok (.int ds.length) S := by
  rcases h.cases with rfl | rfl | ⟨c, rfl, hc⟩
  · rfl
  · rfl
  · unfold gLen deref
    simp only [hc]
theorem Sq.ix (h : Sq S d ds) {i : Nat} (hi : ds[i]? = some x) : gIx d (.int i) S = .ok x S := by
  rcases h.cases with rfl | rfl | ⟨c, rfl, hc⟩
  · exact gIx_lst hi
  · show (match L2.atI ds (i : Int) with | some d => Res.ok d S | none => .bad) = _
    rw [atI_nat hi]
  · exact gIx_cell hc hi
theorem Sq.it (h : Sq S d ds) {f : EF} {S0 : Store} (e : f es S0 = .ok d S) : ∃ g, itSeq f es S0 = .ok ds g S ∧ g.ok S := by
  rcases h.cases with rfl | rfl | ⟨c, rfl, hc⟩
  · exact ⟨[], by simp [itSeq_eq, e], Gd.ok_nil S⟩
  · exact ⟨[], by simp [itSeq_eq, e], Gd.ok_nil S⟩
  · exact ⟨[(c, ds)], by simp [itSeq_eq, e, hc], gd_one hc⟩
theorem Sq.zip {d2 : D} {es2 : List D} (h : Sq S d ds) (h2 : Sq S d2 es2) {a : AF} {S0 : Store} (e : a es S0 = .ok [d, d2] S) : ∃ g, itZip a es S0 = .ok ((ds.zip es2).map fun p => .tup [p.1, p.2]) g S ∧ g.ok S := by
  obtain ⟨t, g, e1, k1⟩ := h.ex
  obtain ⟨t2, g2, e2, k2⟩ := h2.ex
  refine ⟨g ++ g2, by simp [itZip_eq, e, e1, e2], fun p hp => ?_⟩
  rcases List.mem_append.mp hp with q | q
  · exact k1 p q
  · exact k2 p q
theorem Sq.isl {cs : List Nat} (h : Sq S d ds) : isiT cs d [.ty "list", .ty "tuple"] = some true := by
  have e1 : tyIs "list" "list" = some true := by decide +kernel
  have e2 : tyIs "list" "tuple" = some false := by decide +kernel
  have e3 : tyIs "tuple" "list" = some false := by decide +kernel
  have e4 : tyIs "tuple" "tuple" = some true := by decide +kernel
  rcases h.cases with rfl | rfl | ⟨c, rfl, hc⟩
  · show (match tyIs "list" "list", isiT cs (.lst ds) [.ty "tuple"] with | some a, some b => some (a || b) | _, _ => none) = _
    rw [e1]
    show (match some true, (match tyIs "list" "tuple", some false with | some a, some b => some (a || b) | _, _ => none) with | some a, some b => some (a || b) | _, _ => none) = _
    rw [e2]
    rfl
  · show (match tyIs "tuple" "list", isiT cs (.tup ds) [.ty "tuple"] with | some a, some b => some (a || b) | _, _ => none) = _
    rw [e3]
    show (match some false, (match tyIs "tuple" "tuple", some false with | some a, some b => some (a || b) | _, _ => none) with | some a, some b => some (a || b) | _, _ => none) = _
    rw [e4]
    rfl
  · show (match tyIs "list" "list", isiT cs (.cell c) [.ty "tuple"] with | some a, some b => some (a || b) | _, _ => none) = _
    rw [e1]
    show (match some true, (match tyIs "list" "tuple", some false with | some a, some b => some (a || b) | _, _ => none) with | some a, some b => some (a || b) | _, _ => none) = _
    rw [e2]
    rfl
theorem Sq.app {J : Store} (h : Sq S d ds) : Sq (S ++ J) d ds := by
  rcases h.cases with rfl | rfl | ⟨c, rfl, hc⟩
  · exact .lst
  · exact .tup
  · exact .cell (by rw [List.getElem?_append_left (List.getElem?_eq_some_iff.mp hc).1]; exact hc)

/-! ### loops -/
theorem lcL_nilG {q : Bool} {g : Gd} {t : TF} {c e : EF} {acc : List D} (hg : g.ok S) : lcL q g t c e es [] S acc = if q = true then .ok (.cell S.length) (S ++ [acc]) else .ok (.lst acc) S := by
  rw [lcL, if_pos hg]
theorem lcL_consG {q : Bool} {g : Gd} {t : TF} {c e : EF} {acc : List D} {es1 : List SD} {S2 : Store} (hg : g.ok S) (ht : t d es S = some es1) (hc : c es1 S = .ok (.bl true) S) (he : e es1 S = .ok y S2) : lcL q g t c e es (d :: ds) S acc = lcL q g t c e es ds S2 (acc ++ [y]) := by
  rw [lcL, if_pos hg, ht]
  simp [hc, he]
/-- a comprehension that changes nothing -/
theorem lcL_map {α : Type} {q : Bool} {g : Gd} {t : TF} {c e : EF} (enc f : α → D) (hg : g.ok S) : ∀ (xs : List α) (acc : List D), (∀ x ∈ xs, ∃ es1, t (enc x) es S = some es1 ∧ c es1 S = .ok (.bl true) S ∧ e es1 S = .ok (f x) S) →
    lcL q g t c e es (xs.map enc) S acc = if q = true then .ok (.cell S.length) (S ++ [acc ++ xs.map f]) else .ok (.lst (acc ++ xs.map f)) S
  | [], acc, _ => by rw [List.map_nil, List.map_nil, List.append_nil, lcL_nilG hg]
  | x :: xs, acc, h => by
    obtain ⟨es1, h1, h2, h3⟩ := h x List.mem_cons_self
    rw [List.map_cons, lcL_consG hg h1 h2 h3, lcL_map enc f hg xs _ fun x hx => h x (List.mem_cons_of_mem _ hx), List.map_cons, List.append_assoc]
    rfl
/-- one that draws: P counts -/
theorem lcL_draw {α β : Type} {t : TF} {c e : EF} (enc : α → D) (f : β → D) (R : β → Prop) (P : Nat → Store → Prop) : ∀ (xs : List α) (i : Nat) (S : Store) (acc : List D), P (i + xs.length) S → (∀ x ∈ xs, ∀ j S, P (j + 1) S → ∃ es1 y S', t (enc x) es S = some es1 ∧ c es1 S = .ok (.bl true) S ∧ e es1 S = .ok (f y) S' ∧ R y ∧ P j S') →
    ∃ (ys : List β) (S' : Store), lcL false [] t c e es (xs.map enc) S acc = .ok (.lst (acc ++ ys.map f)) S' ∧ ys.length = xs.length ∧ (∀ y ∈ ys, R y) ∧ P i S'
  | [], i, S, acc, hP, _ => ⟨[], S, by simp, rfl, fun y hy => absurd hy (by simp), hP⟩
  | x :: xs, i, S, acc, hP, h => by
    obtain ⟨es1, y, S1, h1, h2, h3, h4, h5⟩ := h x List.mem_cons_self (i + xs.length) S (by simpa [Nat.add_assoc] using hP)
    obtain ⟨ys, S2, k1, k2, k3, k4⟩ := lcL_draw enc f R P xs i S1 (acc ++ [f y]) h5 fun x hx => h x (List.mem_cons_of_mem _ hx)
    refine ⟨y :: ys, S2, ?_, by simp [k2], fun z hz => ?_, k4⟩
    · rw [List.map_cons, lcL_consG (Gd.ok_nil S) h1 h2 h3, k1, List.map_cons, List.append_assoc]
      rfl
    · rcases List.mem_cons.mp hz with rfl | hz
      · exact h4
      · exact k3 z hz
/-- a for that runs through -/
theorem forL_run {α : Type} {g : Gd} {t : TF} {b : SF} (enc : α → D) (I : Nat → List SD → Store → Prop) (hg : ∀ i es S, I i es S → g.ok S) : ∀ (xs : List α) (i : Nat) (es : List SD) (S : Store), I i es S → (∀ j x es S, xs[j]? = some x → I (i + j) es S → ∃ es1 es2 S2, t (enc x) es S = some es1 ∧ b es1 S = .next es2 S2 ∧ I (i + j + 1) es2 S2) →
    ∃ es' S', forL g t b (xs.map enc) es S = .next es' S' ∧ I (i + xs.length) es' S'
  | [], i, es, S, h, _ => ⟨es, S, by rw [List.map_nil, forL, if_pos (hg _ _ _ h)], h⟩
  | x :: xs, i, es, S, h, st => by
    obtain ⟨es1, es2, S2, h1, h2, h3⟩ := st 0 x es S rfl h
    obtain ⟨es', S', k1, k2⟩ := forL_run enc I hg xs (i + 1) es2 S2 h3 fun j y es S hj hI => by
      have := st (j + 1) y es S hj (by rw [Nat.add_assoc, Nat.add_comm 1 j] at hI; exact hI)
      rw [show i + 1 + j + 1 = i + (j + 1) + 1 by omega]
      exact this
    refine ⟨es', S', ?_, by rw [List.length_cons, show i + (xs.length + 1) = i + 1 + xs.length by omega]; exact k2⟩
    rw [List.map_cons, forL, if_pos (hg _ _ _ h), h1]
    simp only [h2]
    exact k1
/-- a for that may answer: A says when, with what -/
theorem forL_ans {α : Type} {g : Gd} {t : TF} {b : SF} (enc : α → D) (I : Nat → List SD → Store → Prop) (A : Nat → Option D) (hg : ∀ i es S, I i es S → g.ok S) : ∀ (xs : List α) (i : Nat) (es : List SD) (S : Store), I i es S → (∀ j x es S, xs[j]? = some x → I (i + j) es S → ∃ es1, t (enc x) es S = some es1 ∧ match A (i + j) with
      | some d => b es1 S = .ret d S
      | none => ∃ es2 S2, b es1 S = .next es2 S2 ∧ I (i + j + 1) es2 S2) →
    (∃ j d es' S', j < xs.length ∧ A (i + j) = some d ∧ (∀ l, l < j → A (i + l) = none) ∧ I (i + j) es' S' ∧ forL g t b (xs.map enc) es S = .ret d S') ∨ ((∀ l, l < xs.length → A (i + l) = none) ∧ ∃ es' S', forL g t b (xs.map enc) es S = .next es' S' ∧ I (i + xs.length) es' S')
  | [], i, es, S, h, _ => .inr ⟨fun l hl => absurd hl (Nat.not_lt_zero _), es, S, by rw [List.map_nil, forL, if_pos (hg _ _ _ h)], h⟩
  | x :: xs, i, es, S, h, st => by
    obtain ⟨es1, h1, h2⟩ := st 0 x es S rfl h
    cases hA : A i with
    | some d =>
      rw [Nat.add_zero, hA] at h2
      refine .inl ⟨0, d, es, S, Nat.succ_pos _, hA, fun l hl => absurd hl (Nat.not_lt_zero _), h, ?_⟩
      rw [List.map_cons, forL, if_pos (hg _ _ _ h), h1]
      simp only [h2]
    | none =>
      rw [Nat.add_zero, hA] at h2
      obtain ⟨es2, S2, h2, h3⟩ := h2
      have e0 : forL g t b ((x :: xs).map enc) es S = forL g t b (xs.map enc) es2 S2 := by
        rw [List.map_cons, forL, if_pos (hg _ _ _ h), h1]
        simp only [h2]
      have none' : ∀ l, (∀ m, m < l → A (i + 1 + m) = none) → ∀ m, m < l + 1 → A (i + m) = none := fun l q m hm => by
        cases m with
        | zero => exact hA
        | succ m =>
          rw [show i + (m + 1) = i + 1 + m by omega]
          exact q m (by omega)
      rcases forL_ans enc I A hg xs (i + 1) es2 S2 h3 fun j y es S hj hI => by
        have := st (j + 1) y es S hj (by rw [Nat.add_assoc, Nat.add_comm 1 j] at hI; exact hI)
        rw [show i + 1 + j = i + (j + 1) by omega]
        exact this with ⟨j, d, es', S', k1, k2, k3, k4, k5⟩ | ⟨k1, es', S', k2, k3⟩
      · refine .inl ⟨j + 1, d, es', S', by simpa using k1, by rw [show i + (j + 1) = i + 1 + j by omega]; exact k2, none' j k3, by rw [show i + (j + 1) = i + 1 + j by omega]; exact k4, by rw [e0]; exact k5⟩
      · refine .inr ⟨by rw [List.length_cons]; exact none' _ k1, es', S', by rw [e0]; exact k2, by rw [List.length_cons, show i + (xs.length + 1) = i + 1 + xs.length by omega]; exact k3⟩
theorem range1_eval {n : Nat} {a : AF} {S1 : Store} (h : n < 4611686018427387904) (e : a es S = .ok [.int n] S1) : itRange1 a es S = .ok ((List.range n).map fun (i : Nat) => D.int i) [] S1 := by
  have p : (2 : Int) ^ 62 = 4611686018427387904 := by decide
  rw [itRange1_eq, e, ResA.bindI_ok, p]
  simp only
  rw [if_pos (by omega), Int.toNat_natCast]
theorem range_map {n : Nat} (f : Nat → D) : (List.range n).map f = (List.range n).map f := rfl
end
end DL
set_option Elab.async false
set_option linter.all false
set_option maxRecDepth 100000
set_option maxHeartbeats 2000000
set_option autoImplicit false
/-! Plain laws, 2: == of plain data, also through cells. -/
namespace DL
open PySem L2
/-- plain data of depth at most n -/
def pn : Nat → D → Bool
  | 0, _ => false
  | n + 1, d => match d with
    | .non => true
    | .int _ => true
    | .str z => PyData.canLay0 (.str z)
    | .lst ds => ds.all (pn n)
    | .tup ds => ds.all (pn n)
    | _ => false
theorem toPs_ok {n : Nat} (ih : ∀ d, pn n d = true → ∃ p, toP d = some p ∧ p.canLay0 = true ∧ p.depth ≤ n ∧ PyData.eqv p p = true) : ∀ ds : List D, ds.all (pn n) = true → ∃ ps, toPs ds = some ps ∧ PyData.canLayAll0 ps = true ∧ PyData.depthAll ps ≤ n ∧ PyData.eqvAll ps ps = true
  | [], _ => ⟨[], rfl, rfl, Nat.zero_le _, rfl⟩
  | d :: ds, h => by
    rw [List.all_cons, Bool.and_eq_true] at h
    obtain ⟨p, h1, h2, h3, h4⟩ := ih d h.1
    obtain ⟨ps, k1, k2, k3, k4⟩ := toPs_ok ih ds h.2
    refine ⟨p :: ps, by simp [toPs, h1, k1], by simp [PyData.canLayAll0, h2, k2], ?_, by simp [PyData.eqvAll, h4, k4]⟩
    simp only [PyData.depthAll]
    omega
theorem toP_ok : ∀ (n : Nat) (d : D), pn n d = true → ∃ p, toP d = some p ∧ p.canLay0 = true ∧ p.depth ≤ n ∧ PyData.eqv p p = true
  | 0, d, h => by cases h
  | n + 1, d, h => by
    cases d with
    | non => exact ⟨.none, rfl, rfl, by simp [PyData.depth], rfl⟩
    | int i => exact ⟨.int i, rfl, rfl, by simp [PyData.depth], by simp [PyData.eqv]⟩
    | str z => exact ⟨.str z, rfl, h, by simp [PyData.depth], by simp [PyData.eqv]⟩
    | lst ds =>
      obtain ⟨ps, k1, k2, k3, k4⟩ := toPs_ok (toP_ok n) ds h
      exact ⟨.list ps, by simp [toP, k1], by simpa [PyData.canLay0] using k2, by simp only [PyData.depth]; omega, by simpa [PyData.eqv] using k4⟩
    | tup ds =>
      obtain ⟨ps, k1, k2, k3, k4⟩ := toPs_ok (toP_ok n) ds h
      exact ⟨.tuple ps, by simp [toP, k1], by simpa [PyData.canLay0] using k2, by simp only [PyData.depth]; omega, by simpa [PyData.eqv] using k4⟩
    | _ => cases h
theorem thcs_id {c : Nat → D} {n : Nat} (ih : ∀ d, pn n d = true → thc c d = d) : ∀ ds : List D, ds.all (pn n) = true → thcs c ds = ds
  | [], _ => rfl
  | d :: ds, h => by
    rw [List.all_cons, Bool.and_eq_true] at h
    rw [thcs, ih d h.1, thcs_id ih ds h.2]
theorem thc_id {c : Nat → D} : ∀ (n : Nat) (d : D), pn n d = true → thc c d = d
  | 0, d, h => by cases h
  | n + 1, d, h => by
    cases d with
    | non => rfl
    | int i => rfl
    | str z => rfl
    | lst ds => rw [thc, thcs_id (thc_id n) ds h]
    | tup ds => rw [thc, thcs_id (thc_id n) ds h]
    | _ => cases h
/-- d stands for the plain data e -/
structure Pv (S : Store) (d e : D) : Prop where
  ex : thw S d = e ∧ ∃ n, n ≤ 60 ∧ pn n e = true
theorem Pv.self {S : Store} {d : D} {n : Nat} (hn : n ≤ 60) (h : pn n d = true) : Pv S d d := ⟨thc_id n d h, n, hn, h⟩
theorem Pv.cell {S : Store} {c n : Nat} {ds : List D} (hn : n ≤ 59) (hc : S[c]? = some ds) (h : ds.all (pn n) = true) : Pv S (.cell c) (.lst ds) := ⟨by
  show cellD S 6 c = _
  rw [cellD, hc]
  simp only
  rw [thcs_id (thc_id n) ds h], n + 1, by omega, h⟩
theorem eqB_same {S : Store} {x y e : D} (h : Pv S x e) (h' : Pv S y e) : eqB S x y = some true := by
  obtain ⟨h1, n, hn, hp⟩ := h.ex
  obtain ⟨h2, _⟩ := h'.ex
  obtain ⟨p, k1, k2, k3, k4⟩ := toP_ok n e hp
  have k5 : SeqAt.shaped p = true := by
    unfold SeqAt.shaped
    rw [k2, decide_eq_true (show p.depth ≤ 64 by omega)]
    rfl
  unfold eqB
  rw [h1, h2, k1]
  simp only
  rw [k5, k4]
  rfl
theorem gNe_same {S : Store} {x y e : D} (h : Pv S x e) (h' : Pv S y e) : gNe x y S = .ok (.bl false) S := by
  unfold gNe
  rw [eqB_same h h']
  rfl
theorem gEq_same {S : Store} {x y e : D} (h : Pv S x e) (h' : Pv S y e) : gEq x y S = .ok (.bl true) S := by
  unfold gEq
  rw [eqB_same h h']
theorem all_map {α : Type} {f : α → D} {n : Nat} (xs : List α) (h : ∀ x ∈ xs, pn n (f x) = true) : (xs.map f).all (pn n) = true := by
  rw [List.all_map, List.all_eq_true]
  exact h
end DL
set_option Elab.async false
set_option linter.all false
set_option maxRecDepth 100000
set_option maxHeartbeats 2000000
set_option autoImplicit false
/-! Plain laws, 3: data that encode things: ==, in, index tell what the things tell; comprehensions with a test. -/
namespace DL
open PySem L2
structure Pe {α : Type} [DecidableEq α] (R : α → Prop) (n : Nat) (f : α → D) : Prop where
  ex : ∀ x, R x → ∃ p, toP (f x) = some p ∧ p.canLay0 = true ∧ p.depth ≤ n
  th : ∀ c x, R x → thc c (f x) = f x
  eq : ∀ x y p q, R x → R y → toP (f x) = some p → toP (f y) = some q → PyData.eqv p q = decide (x = y)
section
variable {α β : Type} [DecidableEq α] [DecidableEq β] {R : α → Prop} {R2 : β → Prop} {n m : Nat} {f : α → D} {g : β → D}
theorem Pe.mono (P : Pe R n f) (h : n ≤ m) : Pe R m f := ⟨fun x hx => by
  obtain ⟨p, h1, h2, h3⟩ := P.ex x hx
  exact ⟨p, h1, h2, Nat.le_trans h3 h⟩, P.th, P.eq⟩
theorem pe_int : Pe (fun _ : Int => True) 1 D.int := ⟨fun x _ => ⟨.int x, rfl, rfl, by simp [PyData.depth]⟩, fun _ _ _ => rfl, fun x y p q _ _ h1 h2 => by
  cases h1
  cases h2
  show (x == y) = _
  rfl⟩
theorem pe_nat : Pe (fun _ : Nat => True) 1 (fun k : Nat => D.int k) := ⟨fun x _ => ⟨.int x, rfl, rfl, by simp [PyData.depth]⟩, fun _ _ _ => rfl, fun x y p q _ _ h1 h2 => by
  cases h1
  cases h2
  show ((x : Int) == (y : Int)) = _
  rw [Bool.eq_iff_iff, beq_iff_eq, decide_eq_true_iff]
  omega⟩
theorem pe_bl : Pe (fun _ : Bool => True) 1 D.bl := ⟨fun x _ => ⟨.bool x, rfl, rfl, by simp [PyData.depth]⟩, fun _ _ _ => rfl, fun x y p q _ _ h1 h2 => by
  cases h1
  cases h2
  show (x == y) = _
  rfl⟩
theorem pe_str : Pe (fun z : Str => (PyData.str z).canLay0 = true) 1 D.str := ⟨fun x h => ⟨.str x, rfl, h, by simp [PyData.depth]⟩, fun _ _ _ => rfl, fun x y p q _ _ h1 h2 => by
  cases h1
  cases h2
  show (x == y) = _
  rw [Bool.eq_iff_iff, beq_iff_eq, decide_eq_true_iff]⟩
theorem Pe.toPs (P : Pe R n f) : ∀ xs : List α, (∀ x ∈ xs, R x) → ∃ ps, DL.toPs (xs.map f) = some ps ∧ PyData.canLayAll0 ps = true ∧ PyData.depthAll ps ≤ n
  | [], _ => ⟨[], rfl, rfl, Nat.zero_le _⟩
  | x :: xs, h => by
    obtain ⟨p, h1, h2, h3⟩ := P.ex x (h x List.mem_cons_self)
    obtain ⟨ps, k1, k2, k3⟩ := P.toPs xs fun y hy => h y (List.mem_cons_of_mem _ hy)
    refine ⟨p :: ps, by simp [DL.toPs, h1, k1], by simp [PyData.canLayAll0, h2, k2], ?_⟩
    simp only [PyData.depthAll]
    omega
theorem Pe.thcs (P : Pe R n f) (c : Nat → D) : ∀ xs : List α, (∀ x ∈ xs, R x) → DL.thcs c (xs.map f) = xs.map f
  | [], _ => rfl
  | x :: xs, h => by rw [List.map_cons, DL.thcs, P.th c x (h x List.mem_cons_self), P.thcs c xs fun y hy => h y (List.mem_cons_of_mem _ hy)]
theorem Pe.eqAll (P : Pe R n f) : ∀ (xs ys : List α) ps qs, (∀ x ∈ xs, R x) → (∀ x ∈ ys, R x) → DL.toPs (xs.map f) = some ps → DL.toPs (ys.map f) = some qs → PyData.eqvAll ps qs = decide (xs = ys)
  | [], [], ps, qs, _, _, h1, h2 => by
    cases h1
    cases h2
    rfl
  | [], y :: ys, ps, qs, _, hy, h1, h2 => by
    cases h1
    obtain ⟨q, k1, _⟩ := P.ex y (hy y List.mem_cons_self)
    obtain ⟨qs', k2, _⟩ := P.toPs ys fun z hz => hy z (List.mem_cons_of_mem _ hz)
    simp [DL.toPs, k1, k2] at h2
    subst h2
    simp [PyData.eqvAll]
  | x :: xs, [], ps, qs, hx, _, h1, h2 => by
    cases h2
    obtain ⟨q, k1, _⟩ := P.ex x (hx x List.mem_cons_self)
    obtain ⟨qs', k2, _⟩ := P.toPs xs fun z hz => hx z (List.mem_cons_of_mem _ hz)
    simp [DL.toPs, k1, k2] at h1
    subst h1
    simp [PyData.eqvAll]
  | x :: xs, y :: ys, ps, qs, hx, hy, h1, h2 => by
    obtain ⟨p, k1, _⟩ := P.ex x (hx x List.mem_cons_self)
    obtain ⟨ps', k2, _⟩ := P.toPs xs fun z hz => hx z (List.mem_cons_of_mem _ hz)
    obtain ⟨q, l1, _⟩ := P.ex y (hy y List.mem_cons_self)
    obtain ⟨qs', l2, _⟩ := P.toPs ys fun z hz => hy z (List.mem_cons_of_mem _ hz)
    simp [DL.toPs, k1, k2] at h1
    simp [DL.toPs, l1, l2] at h2
    subst h1 h2
    rw [PyData.eqvAll, P.eq x y p q (hx x List.mem_cons_self) (hy y List.mem_cons_self) k1 l1, P.eqAll xs ys ps' qs' (fun z hz => hx z (List.mem_cons_of_mem _ hz)) (fun z hz => hy z (List.mem_cons_of_mem _ hz)) k2 l2]
    rw [Bool.eq_iff_iff, Bool.and_eq_true, decide_eq_true_iff, decide_eq_true_iff, decide_eq_true_iff, List.cons.injEq]
theorem Pe.lst (P : Pe R n f) : Pe (fun xs : List α => ∀ x ∈ xs, R x) (n + 1) (fun xs => .lst (xs.map f)) := ⟨fun xs h => by
  obtain ⟨ps, k1, k2, k3⟩ := P.toPs xs h
  exact ⟨.list ps, by simp [toP, k1], by simpa [PyData.canLay0] using k2, by simp only [PyData.depth]; omega⟩, fun c xs h => by rw [thc, P.thcs c xs h], fun xs ys p q hx hy h1 h2 => by
  obtain ⟨ps, k1, _⟩ := P.toPs xs hx
  obtain ⟨qs, l1, _⟩ := P.toPs ys hy
  simp [toP, k1] at h1
  simp [toP, l1] at h2
  subst h1 h2
  rw [PyData.eqv]
  exact P.eqAll xs ys ps qs hx hy k1 l1⟩
theorem Pe.tup (P : Pe R n f) : Pe (fun xs : List α => ∀ x ∈ xs, R x) (n + 1) (fun xs => .tup (xs.map f)) := ⟨fun xs h => by
  obtain ⟨ps, k1, k2, k3⟩ := P.toPs xs h
  exact ⟨.tuple ps, by simp [toP, k1], by simpa [PyData.canLay0] using k2, by simp only [PyData.depth]; omega⟩, fun c xs h => by rw [thc, P.thcs c xs h], fun xs ys p q hx hy h1 h2 => by
  obtain ⟨ps, k1, _⟩ := P.toPs xs hx
  obtain ⟨qs, l1, _⟩ := P.toPs ys hy
  simp [toP, k1] at h1
  simp [toP, l1] at h2
  subst h1 h2
  rw [PyData.eqv]
  exact P.eqAll xs ys ps qs hx hy k1 l1⟩
theorem Pe.pair (P : Pe R n f) (Q : Pe R2 n g) : Pe (fun p : α × β => R p.1 ∧ R2 p.2) (n + 1) (fun p => .tup [f p.1, g p.2]) := ⟨fun x h => by
  obtain ⟨p, h1, h2, h3⟩ := P.ex x.1 h.1
  obtain ⟨q, k1, k2, k3⟩ := Q.ex x.2 h.2
  exact ⟨.tuple [p, q], by simp [toP, DL.toPs, h1, k1], by simp [PyData.canLay0, PyData.canLayAll0, h2, k2], by simp only [PyData.depth, PyData.depthAll]; omega⟩, fun c x h => by
  rw [thc, DL.thcs, DL.thcs, DL.thcs, P.th c _ h.1, Q.th c _ h.2], fun x y p q hx hy h1 h2 => by
  obtain ⟨p1, a1, _⟩ := P.ex x.1 hx.1
  obtain ⟨p2, a2, _⟩ := Q.ex x.2 hx.2
  obtain ⟨q1, b1, _⟩ := P.ex y.1 hy.1
  obtain ⟨q2, b2, _⟩ := Q.ex y.2 hy.2
  simp [toP, DL.toPs, a1, a2] at h1
  simp [toP, DL.toPs, b1, b2] at h2
  subst h1 h2
  rw [PyData.eqv, PyData.eqvAll, PyData.eqvAll, PyData.eqvAll, P.eq _ _ _ _ hx.1 hy.1 a1 b1, Q.eq _ _ _ _ hx.2 hy.2 a2 b2, Bool.and_true]
  rw [Bool.eq_iff_iff, Bool.and_eq_true, decide_eq_true_iff, decide_eq_true_iff, decide_eq_true_iff, Prod.ext_iff]⟩
def optN : Option Nat → D
  | none => .non
  | some k => .int k
theorem pe_optN : Pe (fun _ : Option Nat => True) 1 optN := ⟨fun x _ => by
  cases x with
  | none => exact ⟨.none, rfl, rfl, by simp [PyData.depth]⟩
  | some k => exact ⟨.int k, rfl, rfl, by simp [PyData.depth]⟩, fun _ x _ => by cases x <;> rfl, fun x y p q _ _ h1 h2 => by
  cases x with
  | none =>
    cases y with
    | none => cases h1; cases h2; rfl
    | some j => cases h1; cases h2; simp [PyData.eqv]
  | some k =>
    cases y with
    | none => cases h1; cases h2; simp [PyData.eqv]
    | some j =>
      cases h1
      cases h2
      show ((k : Int) == (j : Int)) = _
      rw [Bool.eq_iff_iff, beq_iff_eq, decide_eq_true_iff, Option.some.injEq]
      omega⟩
/-! what the operations tell -/
variable {S : Store} {d e : D}
theorem shaped_of {p : PyData} (h : p.canLay0 = true) (hd : p.depth ≤ n) (hn : n ≤ 64) : SeqAt.shaped p = true := by
  unfold SeqAt.shaped
  rw [h, decide_eq_true (show p.depth ≤ 64 by omega)]
  rfl
theorem Pe.thw (P : Pe R n f) {x : α} (h : R x) : DL.thw S (f x) = f x := P.th _ x h
theorem Pe.eqB (P : Pe R n f) (hn : n ≤ 64) {x y : α} (hx : R x) (hy : R y) (h1 : DL.thw S d = f x) (h2 : DL.thw S e = f y) : DL.eqB S d e = some (decide (x = y)) := by
  obtain ⟨p, a1, a2, a3⟩ := P.ex x hx
  obtain ⟨q, b1, b2, b3⟩ := P.ex y hy
  unfold DL.eqB
  rw [h1, h2, a1, b1]
  simp only
  rw [shaped_of a2 a3 hn, shaped_of b2 b3 hn, P.eq x y p q hx hy a1 b1]
  rfl
theorem Pe.gEq (P : Pe R n f) (hn : n ≤ 64) {x y : α} (hx : R x) (hy : R y) (h1 : DL.thw S d = f x) (h2 : DL.thw S e = f y) : DL.gEq d e S = .ok (.bl (decide (x = y))) S := by
  unfold DL.gEq
  rw [P.eqB hn hx hy h1 h2]
theorem Pe.gNe (P : Pe R n f) (hn : n ≤ 64) {x y : α} (hx : R x) (hy : R y) (h1 : DL.thw S d = f x) (h2 : DL.thw S e = f y) : DL.gNe d e S = .ok (.bl (!decide (x = y))) S := by
  unfold DL.gNe
  rw [P.eqB hn hx hy h1 h2]
theorem Pe.any (P : Pe R n f) {x : α} (hx : R x) {p : PyData} (hp : toP (f x) = some p) : ∀ (ys : List α) qs, (∀ y ∈ ys, R y) → DL.toPs (ys.map f) = some qs → (qs.any fun z => PyData.eqv z p) = decide (x ∈ ys)
  | [], qs, _, h => by
    cases h
    rfl
  | y :: ys, qs, hy, h => by
    obtain ⟨q, l1, _⟩ := P.ex y (hy y List.mem_cons_self)
    obtain ⟨qs', l2, _⟩ := P.toPs ys fun z hz => hy z (List.mem_cons_of_mem _ hz)
    simp [DL.toPs, l1, l2] at h
    subst h
    rw [List.any_cons, P.eq y x q p (hy y List.mem_cons_self) hx l1 hp, P.any hx hp ys qs' (fun z hz => hy z (List.mem_cons_of_mem _ hz)) l2]
    rw [Bool.eq_iff_iff, Bool.or_eq_true, decide_eq_true_iff, decide_eq_true_iff, decide_eq_true_iff, List.mem_cons, eq_comm]
theorem Pe.find (P : Pe R n f) {x : α} (hx : R x) {p : PyData} (hp : toP (f x) = some p) : ∀ (ys : List α) qs, (∀ y ∈ ys, R y) → DL.toPs (ys.map f) = some qs → qs.findIdx? (fun z => PyData.eqv z p) = ys.findIdx? (fun y => decide (y = x))
  | [], qs, _, h => by
    cases h
    rfl
  | y :: ys, qs, hy, h => by
    obtain ⟨q, l1, _⟩ := P.ex y (hy y List.mem_cons_self)
    obtain ⟨qs', l2, _⟩ := P.toPs ys fun z hz => hy z (List.mem_cons_of_mem _ hz)
    simp [DL.toPs, l1, l2] at h
    subst h
    rw [List.findIdx?_cons, List.findIdx?_cons, P.eq y x q p (hy y List.mem_cons_self) hx l1 hp, P.find hx hp ys qs' (fun z hz => hy z (List.mem_cons_of_mem _ hz)) l2]
theorem Pe.gInP (P : Pe R n f) (hn : n ≤ 63) {neg : Bool} {x : α} {ys : List α} (hx : R x) (hy : ∀ y ∈ ys, R y) (h1 : DL.thw S d = f x) (h2 : DL.thw S e = .lst (ys.map f)) : DL.gInP neg d e S = .ok (.bl (xor neg (decide (x ∈ ys)))) S := by
  obtain ⟨p, a1, a2, a3⟩ := P.ex x hx
  obtain ⟨qs, b1, b2, b3⟩ := P.toPs ys hy
  have e1 : toP (.lst (ys.map f)) = some (.list qs) := by simp [toP, b1]
  have s2 : SeqAt.shaped (.list qs) = true := shaped_of (n := n + 1) (by simpa [PyData.canLay0] using b2) (by simp only [PyData.depth]; omega) (by omega)
  unfold DL.gInP
  rw [h1, h2, a1, e1]
  simp only
  rw [shaped_of a2 a3 (by omega), s2, P.any hx a1 ys qs hy b1]
  rfl
theorem Pe.gInP_mem (P : Pe R n f) (hn : n ≤ 63) {neg : Bool} {x : α} {ys : List α} (hx : R x) (hy : ∀ y ∈ ys, R y) (h1 : DL.thw S d = f x) (h2 : DL.thw S e = .lst (ys.map f)) (h : x ∈ ys) : DL.gInP neg d e S = .ok (.bl (!neg)) S := by
  rw [P.gInP hn hx hy h1 h2, decide_eq_true h, Bool.xor_true]
theorem Pe.gInP_not (P : Pe R n f) (hn : n ≤ 63) {neg : Bool} {x : α} {ys : List α} (hx : R x) (hy : ∀ y ∈ ys, R y) (h1 : DL.thw S d = f x) (h2 : DL.thw S e = .lst (ys.map f)) (h : x ∉ ys) : DL.gInP neg d e S = .ok (.bl neg) S := by
  rw [P.gInP hn hx hy h1 h2, decide_eq_false h, Bool.xor_false]
theorem Pe.gNe_same (P : Pe R n f) (hn : n ≤ 64) {x : α} (hx : R x) (h1 : DL.thw S d = f x) (h2 : DL.thw S e = f x) : DL.gNe d e S = .ok (.bl false) S := by
  rw [P.gNe hn hx hx h1 h2, decide_eq_true rfl]
  rfl
theorem Pe.gEq_same (P : Pe R n f) (hn : n ≤ 64) {x : α} (hx : R x) (h1 : DL.thw S d = f x) (h2 : DL.thw S e = f x) : DL.gEq d e S = .ok (.bl true) S := by
  rw [P.gEq hn hx hx h1 h2, decide_eq_true rfl]
theorem Pe.gIdx (P : Pe R n f) (hn : n ≤ 63) {x : α} {ys : List α} {j : Nat} (hx : R x) (hy : ∀ y ∈ ys, R y) (h1 : DL.thw S d = f x) (h2 : DL.thw S e = .lst (ys.map f)) (hj : ys.findIdx? (fun y => decide (y = x)) = some j) : DL.gIdx e d S = .ok (.int j) S := by
  obtain ⟨p, a1, a2, a3⟩ := P.ex x hx
  obtain ⟨qs, b1, b2, b3⟩ := P.toPs ys hy
  have e1 : toP (.lst (ys.map f)) = some (.list qs) := by simp [toP, b1]
  have s2 : SeqAt.shaped (.list qs) = true := shaped_of (n := n + 1) (by simpa [PyData.canLay0] using b2) (by simp only [PyData.depth]; omega) (by omega)
  unfold DL.gIdx
  rw [h1, h2, a1, e1]
  simp only
  rw [shaped_of a2 a3 (by omega), s2, P.find hx a1 ys qs hy b1, hj]
  rfl
/-! ### any, all -/
theorem asB_map {γ : Type} (P : γ → Bool) : ∀ (xs : List γ), asB (xs.map fun x => D.bl (P x)) = some (xs.map P)
  | [] => rfl
  | x :: xs => by
    rw [List.map_cons, asB, asB_map P xs]
    rfl
theorem gAny_map {γ : Type} {P : γ → Bool} {xs : List γ} : gAny (.lst (xs.map fun x => D.bl (P x))) S = .ok (.bl (xs.any P)) S := by
  unfold gAny deref
  simp only [asB_map]
  rw [List.any_map]
  rfl
theorem gAll_map {γ : Type} {P : γ → Bool} {xs : List γ} : gAll (.lst (xs.map fun x => D.bl (P x))) S = .ok (.bl (xs.all P)) S := by
  unfold gAll deref
  simp only [asB_map]
  rw [List.all_map]
  rfl
/-! ### comprehensions with a test -/
theorem lcL_skipG {q : Bool} {g : Gd} {t : TF} {c e : EF} {es es1 : List SD} {ds acc : List D} (hg : g.ok S) (ht : t d es S = some es1) (hc : c es1 S = .ok (.bl false) S) : lcL q g t c e es (d :: ds) S acc = lcL q g t c e es ds S acc := by
  rw [lcL, if_pos hg, ht]
  simp [hc]
theorem lcL_filt {γ : Type} {q : Bool} {g : Gd} {t : TF} {c e : EF} {es : List SD} (enc k : γ → D) (P : γ → Bool) (hg : g.ok S) : ∀ (xs : List γ) (acc : List D), (∀ x ∈ xs, ∃ es1, t (enc x) es S = some es1 ∧ c es1 S = .ok (.bl (P x)) S ∧ (P x = true → e es1 S = .ok (k x) S)) →
    lcL q g t c e es (xs.map enc) S acc = if q = true then .ok (.cell S.length) (S ++ [acc ++ (xs.filter P).map k]) else .ok (.lst (acc ++ (xs.filter P).map k)) S
  | [], acc, _ => by rw [List.map_nil, List.filter_nil, List.map_nil, List.append_nil, lcL_nilG hg]
  | x :: xs, acc, h => by
    obtain ⟨es1, h1, h2, h3⟩ := h x List.mem_cons_self
    have ih := fun acc => lcL_filt (q := q) enc k P hg xs acc fun x hx => h x (List.mem_cons_of_mem _ hx)
    cases hp : P x with
    | true =>
      rw [hp] at h2
      rw [List.map_cons, lcL_consG hg h1 h2 (h3 hp), ih, List.filter_cons_of_pos hp, List.map_cons, List.append_assoc]
      rfl
    | false =>
      rw [hp] at h2
      rw [List.map_cons, lcL_skipG hg h1 h2, ih, List.filter_cons_of_neg (by rw [hp]; exact Bool.false_ne_true)]
end
/-! ### while -/
theorem sWhile_run {c : EF} {b : SF} (I : Nat → List SD → Store → Prop) (J : List SD → Store → Prop) (k : Nat) (st : ∀ j es S, j < k → I j es S → ∃ S1 es2 S2, c es S = .ok (.bl true) S1 ∧ b es S1 = .next es2 S2 ∧ I (j + 1) es2 S2) (en : ∀ es S, I k es S → ∃ S1, c es S = .ok (.bl false) S1 ∧ J es S1) :
    ∀ {i : Nat} {es : List SD} {S : Store}, i ≤ k → I i es S → ∃ es' S', sWhile c b es S = .next es' S' ∧ J es' S' := by
  have main : ∀ (n i : Nat) (es : List SD) (S : Store), i + n = k → I i es S → ∃ m es' S', whileN c b m es S = some (.next es' S') ∧ J es' S' := by
    intro n
    induction n with
    | zero =>
      intro i es S hi h
      have hi : i = k := hi
      subst hi
      obtain ⟨S1, h1, h2⟩ := en es S h
      exact ⟨1, es, S1, by rw [whileN, h1], h2⟩
    | succ n ih =>
      intro i es S hi h
      obtain ⟨S1, es2, S2, h1, h2, h3⟩ := st i es S (by omega) h
      obtain ⟨m, es', S', k1, k2⟩ := ih (i + 1) es2 S2 (by omega) h3
      refine ⟨m + 1, es', S', ?_, k2⟩
      rw [whileN, h1]
      simp only [h2]
      exact k1
  intro i es S hi h
  obtain ⟨m, es', S', k1, k2⟩ := main (k - i) i es S (by omega) h
  exact ⟨es', S', sWhile_eq k1, k2⟩
theorem gIx_lastL {S : Store} {ds : List D} {x : D} : gIx (.lst (ds ++ [x])) (.int (-1)) S = .ok x S := by
  have e : L2.atI (ds ++ [x]) (-1) = some x := by
    unfold L2.atI ixN
    have e : (ds ++ [x]).length = ds.length + 1 := by simp
    rw [e, if_neg (by omega), if_pos (by omega)]
    have e2 : ((-1 : Int) + ((ds.length + 1 : Nat) : Int)).toNat = ds.length := by omega
    show (ds ++ [x])[((-1 : Int) + ((ds.length + 1 : Nat) : Int)).toNat]? = some x
    rw [e2, List.getElem?_append_right (Nat.le_refl _), Nat.sub_self]
    rfl
  show (match L2.atI (ds ++ [x]) (-1) with | some d => Res.ok d S | none => .bad) = _
  rw [e]
theorem eMt_ok {g : D → D → Store → Res} {fo fe : EF} {es : List SD} {S S1 S2 : Store} {d e : D} (h1 : fo es S = .ok d S1) (hl : isLs S1 d = true) (h2 : fe es S1 = .ok e S2) : eMt g fo fe es S = (g d e S2).nox := by
  unfold eMt
  rw [h1, Res.bind_ok, if_pos hl, h2, Res.bind_ok]
@[simp] theorem isLs_lst {S : Store} {ds : List D} : isLs S (.lst ds) = true := rfl
theorem isLs_cell {S : Store} {c : Nat} {ds : List D} (h : S[c]? = some ds) : isLs S (.cell c) = true := by
  unfold isLs deref
  simp only [h]
end DL
set_option Elab.async false
set_option linter.all false
set_option maxRecDepth 100000
set_option maxHeartbeats 2000000
set_option autoImplicit false
namespace K40
open PySem L2 DL
/-! ### Euclid -/
theorem natAbs_fmod_lt (a : Int) {b : Int} (h : b ≠ 0) : (a.fmod b).natAbs < b.natAbs := by
  rw [Int.fmod_eq_emod]
  have h1 := Int.emod_nonneg a h
  have h2 := Int.emod_lt a h
  by_cases hc : 0 ≤ b ∨ b ∣ a
  · rw [if_pos hc]
    omega
  · rw [if_neg hc]
    have h3 : a % b ≠ 0 := fun z => hc (.inr (Int.dvd_of_emod_eq_zero z))
    have h4 : b < 0 := by
      rcases Int.lt_or_le b 0 with q | q
      · exact q
      · exact absurd (.inl q) hc
    omega
theorem gcd_fmod (a b : Int) : Int.gcd b (a.fmod b) = Int.gcd a b := by
  rw [Int.fmod_def, Int.gcd_sub_mul_left_right, Int.gcd_comm]
theorem gcd_w2 {S : Store} : ∀ (m : Nat) (a b : Int), b.natAbs ≤ m → ∃ (n : Nat) (g : Int), g.natAbs = Int.gcd a b ∧
    whileN (eOp2 gNe (eVar 1) (eC (.int 0))) (sPar 0 1 (aCons (eVar 1) (aCons (eOp2 iModN (eVar 0) (eVar 1)) aNil))) n [.val (.int a), .val (.int b)] S = some (.next [.val (.int g), .val (.int 0)] S) := by
  intro m
  induction m with
  | zero =>
    intro a b h
    have hb : b = 0 := by omega
    subst hb
    exact ⟨1, a, by simp, by simp [whileN]⟩
  | succ m ih =>
    intro a b h
    by_cases hb : b = 0
    · subst hb
      exact ⟨1, a, by simp, by simp [whileN]⟩
    · have h1 := natAbs_fmod_lt a hb
      obtain ⟨n, g, e1, e2⟩ := ih b (a.fmod b) (by omega)
      refine ⟨n + 1, g, by rw [e1, gcd_fmod], ?_⟩
      rw [← e2]
      simp [whileN, hb, iModN_ok hb]
theorem gcd_w4 {S : Store} {u v : SD} : ∀ (m : Nat) (a b : Int), 0 ≤ a → 0 ≤ b → b.natAbs ≤ m → ∃ (n : Nat) (g : Int), (g.natAbs = Int.gcd a b ∧ 0 ≤ g) ∧
    whileN (eOp2 gNe (eVar 3) (eC (.int 0))) (sPar 2 3 (aCons (eVar 3) (aCons (eOp2 iMod (eVar 2) (eVar 3)) aNil))) n [u, v, .val (.int a), .val (.int b)] S = some (.next [u, v, .val (.int g), .val (.int 0)] S) := by
  intro m
  induction m with
  | zero =>
    intro a b ha hb0 h
    have hb : b = 0 := by omega
    subst hb
    exact ⟨1, a, ⟨by simp, ha⟩, by simp [whileN]⟩
  | succ m ih =>
    intro a b ha hb0 h
    by_cases hb : b = 0
    · subst hb
      exact ⟨1, a, ⟨by simp, ha⟩, by simp [whileN]⟩
    · have hb1 : 0 < b := by omega
      have h1 := Int.emod_lt_of_pos a hb1
      have h2 := Int.emod_nonneg a hb
      obtain ⟨n, g, ⟨e1, e3⟩, e2⟩ := ih b (a % b) hb0 h2 (by omega)
      refine ⟨n + 1, g, ⟨by rw [e1, ← Int.fmod_eq_emod_of_nonneg a hb0, gcd_fmod], e3⟩, ?_⟩
      rw [← e2]
      simp [whileN, hb, iMod_ok hb1]
theorem abs_eq (g : Int) : (if g < 0 then -g else g) = (g.natAbs : Int) := by omega
theorem cd_eval {S : Store} (a b : Int) : D_common_divisor [.int a, .int b] S = .ok (.int (Int.gcd a b)) S := by
  obtain ⟨n, g, e1, e2⟩ := gcd_w2 (S := S) b.natAbs a b (Nat.le_refl _)
  unfold D_common_divisor b_common_divisor
  simp [fnD_eq, startD, sWhile_eq e2, abs_eq, e1]
/-! ### fractions -/
abbrev Q2 := Int × Int
def pc (a b : Int) : Int := if 0 < b then (Int.gcd a b : Int) else -(Int.gcd a b : Int)
def nf (a b : Int) : Q2 := (a.fdiv (pc a b), b.fdiv (pc a b))
def fr (x : Q2) : D := .tup [.int x.1, .int x.2]
def rt (x : Q2) : D := .obj 0 [.int x.2, .int x.1]
/-- in lowest terms, not too great -/
structure Qk (x : Q2) : Prop where
  pos : 0 < x.2
  cop : Int.gcd x.1 x.2 = 1
  s1 : x.1.natAbs < 2 ^ 2000
  s2 : x.2.natAbs < 2 ^ 2000
theorem pc_abs (a b : Int) : (pc a b).natAbs = Int.gcd a b := by
  unfold pc
  split <;> omega
theorem pc_ne {a b : Int} (h : b ≠ 0) : pc a b ≠ 0 := by
  have := Int.gcd_pos_of_ne_zero_right a h
  have := pc_abs a b
  omega
theorem pc_small {a b : Int} (h : b ≠ 0) (hs : b.natAbs < 2 ^ 8000) : bits (pc a b) < 9000 := by
  refine bits_small ?_
  rw [pc_abs]
  exact Nat.lt_of_le_of_lt (Int.gcd_le_natAbs_right a h) hs
theorem dvd_a (a b : Int) : (Int.gcd a b : Int) ∣ a := Int.gcd_dvd_left a b
theorem dvd_b (a b : Int) : (Int.gcd a b : Int) ∣ b := Int.gcd_dvd_right a b
theorem nf_pos {a b : Int} (h : 0 < b) : nf a b = (a / (Int.gcd a b : Int), b / (Int.gcd a b : Int)) := by
  unfold nf pc
  rw [if_pos h, Int.fdiv_eq_ediv_of_dvd (dvd_a a b), Int.fdiv_eq_ediv_of_dvd (dvd_b a b)]
theorem isint_int {S : Store} (a : Int) : D_is_integer [.int a] S = .ok (.bl true) S := by
  unfold D_is_integer b_is_integer
  simp [fnD_eq, startD]
theorem init_eval {S : Store} {a b : Int} (h : 0 < b) (hs : b.natAbs < 2 ^ 8000) : I_Ratiod__initd_ [.int a, .int b] S = .ok [.int (nf a b).2, .int (nf a b).1] S := by
  have n0 := pc_ne (a := a) (Int.ne_of_gt h)
  have n1 := pc_small (a := a) (Int.ne_of_gt h) hs
  have h' : b ≠ 0 := Int.ne_of_gt h
  unfold I_Ratiod__initd_ b_Ratiod__initd_
  have ep : pc a b = (Int.gcd a b : Int) := if_pos h
  rw [ep] at n0 n1
  simp [initD_eq, startI, isint_int, cd_eval, h', h, iDivN_ok n0 n1, nf, ep, isSlf, ord, sNil]
theorem new_eval {S : Store} {a b : Int} (h : 0 < b) (hs : b.natAbs < 2 ^ 8000) : newD 0 2 I_Ratiod__initd_ [.int a, .int b] S = .ok (rt (nf a b)) S := by
  simp [newD, init_eval h hs, rt]
theorem nf_id {x : Q2} (h : 0 < x.2) (hc : Int.gcd x.1 x.2 = 1) : nf x.1 x.2 = x := by
  rw [nf_pos h, hc]
  simp
/-! ### sizes: the bottom divides L, the size is at most B -/
structure Sz (L B : Nat) (x : Q2) : Prop where
  pos : 0 < x.2
  cop : Int.gcd x.1 x.2 = 1
  dv : x.2 ∣ (L : Int)
  bd : x.1.natAbs ≤ B * x.2.natAbs
theorem Sz.qk {L B : Nat} {x : Q2} (h : Sz L B x) (hL : 0 < L) (hL2 : L < 2 ^ 2000) (hB : B * L < 2 ^ 2000) : Qk x := by
  have h1 : x.2.natAbs ≤ L := Nat.le_of_dvd hL (Int.natAbs_dvd_natAbs.mpr h.dv)
  refine ⟨h.pos, h.cop, Nat.lt_of_le_of_lt (Nat.le_trans h.bd (Nat.mul_le_mul_left B h1)) hB, Nat.lt_of_le_of_lt h1 hL2⟩
theorem Sz.mono {L B L' B' : Nat} {x : Q2} (h : Sz L B x) (hL : L ∣ L') (hB : B ≤ B') : Sz L' B' x := ⟨h.pos, h.cop, Int.dvd_trans h.dv (Int.natCast_dvd_natCast.mpr hL), Nat.le_trans h.bd (Nat.mul_le_mul_right _ hB)⟩
theorem nf_ok {a b : Int} (h : 0 < b) : 0 < (nf a b).2 ∧ Int.gcd (nf a b).1 (nf a b).2 = 1 := by
  rw [nf_pos h]
  have g0 : 0 < Int.gcd a b := Int.gcd_pos_of_ne_zero_right a (by omega)
  exact ⟨Int.ediv_pos_of_pos_of_dvd h (by omega) (dvd_b a b), Int.gcd_ediv_gcd_ediv_gcd g0⟩
theorem nf_parts {a b : Int} (h : 0 < b) : a = (Int.gcd a b : Int) * (nf a b).1 ∧ b = (Int.gcd a b : Int) * (nf a b).2 ∧ 0 < (Int.gcd a b : Int) := by
  rw [nf_pos h]
  have g0 : 0 < Int.gcd a b := Int.gcd_pos_of_ne_zero_right a (by omega)
  exact ⟨(Int.mul_ediv_cancel' (dvd_a a b)).symm, (Int.mul_ediv_cancel' (dvd_b a b)).symm, by omega⟩
theorem nf_dv {a b c L : Int} (h : 0 < b) (e : a * L = c * b) : (nf a b).2 ∣ L := by
  obtain ⟨e1, e2, g0⟩ := nf_parts (a := a) h
  obtain ⟨p, q⟩ := nf_ok (a := a) h
  have e3 : (nf a b).1 * L = c * (nf a b).2 := by
    have : (Int.gcd a b : Int) * ((nf a b).1 * L) = (Int.gcd a b : Int) * (c * (nf a b).2) := by
      rw [← Int.mul_assoc, ← e1, e, Int.mul_left_comm, ← e2]
    exact Int.eq_of_mul_eq_mul_left (Int.ne_of_gt g0) this
  have : (nf a b).2 ∣ (nf a b).1 * L := ⟨c, by rw [e3, Int.mul_comm]⟩
  have t := Int.natAbs_dvd_natAbs.mpr this
  rw [Int.natAbs_mul] at t
  exact Int.natAbs_dvd_natAbs.mp (Nat.Coprime.dvd_of_dvd_mul_left (by rw [Nat.coprime_comm]; exact q) t)
theorem nf_bd {a b : Int} {B : Nat} (h : 0 < b) (hB : a.natAbs ≤ B * b.natAbs) : (nf a b).1.natAbs ≤ B * (nf a b).2.natAbs := by
  obtain ⟨e1, e2, g0⟩ := nf_parts (a := a) h
  have h1 : a.natAbs = Int.gcd a b * (nf a b).1.natAbs := by
    have := congrArg Int.natAbs e1
    rwa [Int.natAbs_mul, Int.natAbs_natCast] at this
  have h2 : b.natAbs = Int.gcd a b * (nf a b).2.natAbs := by
    have := congrArg Int.natAbs e2
    rwa [Int.natAbs_mul, Int.natAbs_natCast] at this
  have g1 : 0 < Int.gcd a b := by omega
  rw [h1, h2, Nat.mul_left_comm] at hB
  exact Nat.le_of_mul_le_mul_left hB g1
def pl (x z : Q2) : Q2 := nf (x.1 * z.2 + z.1 * x.2) (x.2 * z.2)
def ti (x z : Q2) : Q2 := nf (x.1 * z.1) (x.2 * z.2)
theorem Sz.pl {L B B' : Nat} {x z : Q2} (hx : Sz L B x) (hz : Sz L B' z) : Sz L (B + B') (pl x z) := by
  have hb := Int.mul_pos hx.pos hz.pos
  obtain ⟨p, q⟩ := nf_ok (a := x.1 * z.2 + z.1 * x.2) hb
  obtain ⟨u, hu⟩ := hx.dv
  obtain ⟨v, hv⟩ := hz.dv
  refine ⟨p, q, nf_dv (c := x.1 * u + z.1 * v) hb ?_, nf_bd hb ?_⟩
  · rw [Int.add_mul, Int.add_mul]
    congr 1
    · rw [hu]
      simp only [Int.mul_assoc, Int.mul_comm, Int.mul_left_comm]
    · rw [hv]
      simp only [Int.mul_assoc, Int.mul_comm, Int.mul_left_comm]
  · refine Nat.le_trans (Int.natAbs_add_le _ _) ?_
    rw [Int.natAbs_mul, Int.natAbs_mul, Int.natAbs_mul, Nat.add_mul]
    refine Nat.add_le_add ?_ ?_
    · rw [← Nat.mul_assoc]
      exact Nat.mul_le_mul_right _ hx.bd
    · rw [Nat.mul_left_comm, Nat.mul_comm x.2.natAbs]
      exact Nat.mul_le_mul_right _ hz.bd
theorem Sz.ti {L M B B' : Nat} {x z : Q2} (hx : Sz L B x) (hz : Sz M B' z) : Sz (L * M) (B * B') (ti x z) := by
  have hb := Int.mul_pos hx.pos hz.pos
  obtain ⟨p, q⟩ := nf_ok (a := x.1 * z.1) hb
  obtain ⟨e1, e2, g0⟩ := nf_parts (a := x.1 * z.1) hb
  refine ⟨p, q, ?_, nf_bd hb ?_⟩
  · have h1 : (nf (x.1 * z.1) (x.2 * z.2)).2 ∣ x.2 * z.2 := ⟨(Int.gcd (x.1 * z.1) (x.2 * z.2) : Int), e2.trans (Int.mul_comm _ _)⟩
    have h2 : x.2 * z.2 ∣ ((L * M : Nat) : Int) := by
      rw [Int.natCast_mul]
      exact Int.mul_dvd_mul hx.dv hz.dv
    exact Int.dvd_trans h1 h2
  · rw [Int.natAbs_mul, Int.natAbs_mul]
    refine Nat.le_trans (Nat.mul_le_mul hx.bd hz.bd) ?_
    rw [Nat.mul_assoc, Nat.mul_left_comm x.2.natAbs, ← Nat.mul_assoc]
    exact Nat.le_refl _
end K40
set_option Elab.async false
set_option linter.all false
set_option maxRecDepth 100000
set_option maxHeartbeats 2000000
set_option autoImplicit false
namespace K40
open PySem L2 DL
/-! ### operations -/
def Num (y : D) (x : Q2) : Prop := y = rt x ∨ (y = .int x.1 ∧ x.2 = 1)
/-- as the law hands it in -/
def gv (x : Q2) : D := if x.2 = 1 then .int x.1 else rt x
theorem num_rt (x : Q2) : Num (rt x) x := .inl rfl
theorem num_gv (x : Q2) : Num (gv x) x := by
  unfold gv
  split
  · rename_i h; exact .inr ⟨rfl, h⟩
  · exact .inl rfl
def lt (x z : Q2) : Bool := decide (x.1 * z.2 < z.1 * x.2)
theorem pow4 : (2 : Nat) ^ 2000 * 2 ^ 2000 = 2 ^ 4000 := by rw [← Nat.pow_add]
theorem mul_s {i j : Int} (h1 : i.natAbs < 2 ^ 2000) (h2 : j.natAbs < 2 ^ 2000) : (i * j).natAbs < 2 ^ 4000 := by
  rw [Int.natAbs_mul, ← pow4]
  exact Nat.mul_lt_mul'' h1 h2
theorem up48 {i : Int} (h : i.natAbs < 2 ^ 4000) : i.natAbs < 2 ^ 8000 := Nat.lt_of_lt_of_le h (Nat.pow_le_pow_right (by decide) (by decide))
theorem mM {S : Store} {i j : Int} (h1 : i.natAbs < 2 ^ 2000) (h2 : j.natAbs < 2 ^ 2000) : iMul (.int i) (.int j) S = .ok (.int (i * j)) S := by
  refine iMul_ok ?_
  have := bits_lt h1 (by decide)
  have := bits_lt h2 (by decide)
  omega
section
variable {S : Store} {x z : Q2} {y : D}
theorem den_p (hx : Qk x) (hz : Qk z) : 0 < x.2 * z.2 := Int.mul_pos hx.pos hz.pos
theorem den_s (hx : Qk x) (hz : Qk z) : (x.2 * z.2).natAbs < 2 ^ 8000 := up48 (mul_s hx.s2 hz.s2)
theorem gProp_top : gProp 0 D_Ratio_top (rt x) S = .ok (.int x.1) S := by
  unfold D_Ratio_top b_Ratio_top rt
  simp [fnD_eq, startD]
theorem gProp_bot : gProp 0 D_Ratio_bottom (rt x) S = .ok (.int x.2) S := by
  unfold D_Ratio_bottom b_Ratio_bottom rt
  simp [fnD_eq, startD]
theorem slot_up : gSlot 0 1 (rt x) S = .ok (.int x.1) S := by simp [rt]
theorem slot_dn : gSlot 0 0 (rt x) S = .ok (.int x.2) S := by simp [rt]
theorem isi_rt : gIsi [0, 1] (rt x) (.cls 0) S = .ok (.bl true) S := by simp [rt]
theorem isObj_rt : isObj 0 (rt x) = true := rfl
theorem parts_rt : D_parts [rt x] S = .ok (fr x) S := by
  unfold D_parts b_parts
  simp [fnD_eq, startD, isi_rt, gProp_top, gProp_bot, fr]
theorem parts_int {i : Int} : D_parts [.int i] S = .ok (fr (i, 1)) S := by
  unfold D_parts b_parts
  simp [fnD_eq, startD, fr, sNil]
theorem parts_num (h : Num y x) : D_parts [y] S = .ok (fr x) S := by
  rcases h with rfl | ⟨rfl, e⟩
  · exact parts_rt
  · obtain ⟨a, b⟩ := x
    subst e
    exact parts_int
theorem ix0 : gIx (fr x) (.int 0) S = .ok (.int x.1) S := by simp [fr]
theorem ix1 : gIx (fr x) (.int 1) S = .ok (.int x.2) S := by simp [fr]
theorem tg2 {es : List SD} {i j : Nat} : tgT 2 (tsCons (tgN i) (tsCons (tgN j) tsNil)) (fr x) es S = some ((es.set i (.val (.int x.1))).set j (.val (.int x.2))) := by simp [fr]
theorem new_id (hx : Qk x) : newD 0 2 I_Ratiod__initd_ [.int x.1, .int x.2] S = .ok (rt x) S := by
  rw [new_eval hx.pos (up48 (Nat.lt_trans hx.s2 (Nat.pow_lt_pow_right (by decide) (by decide)))), nf_id hx.pos hx.cop]
theorem given_eval (hx : Qk x) : D__law_given [fr x] S = .ok (gv x) S := by
  unfold D__law_given b__law_given gv
  by_cases h1 : x.2 = 1
  · simp [fnD_eq, startD, ix0, ix1, h1]
  · simp [fnD_eq, startD, ix0, ix1, h1, new_id hx, sNil]
theorem add_eval (hx : Qk x) (hz : Qk z) (hy : Num y z) : D_Ratiod__addd_ [rt x, y] S = .ok (rt (pl x z)) S := by
  unfold D_Ratiod__addd_ b_Ratiod__addd_
  simp [fnD_eq, startD, parts_num hy, tg2, slot_up, slot_dn, mM hx.s1 hz.s2, mM hz.s1 hx.s2, mM hx.s2 hz.s2, new_eval (den_p hx hz) (den_s hx hz), pl]
theorem own_num {den : List D → Store → Res} {d : D} {S' : Store} (hy : Num y z) (e : den [rt x, y] S = .ok d S') : gOwn 0 den (rt x) y S = .ok d S' := by
  rcases hy with rfl | ⟨rfl, _⟩
  · unfold rt at e ⊢
    simp [e]
  · unfold rt at e ⊢
    simp [e]
theorem below_eval (hx : Qk x) (hz : Qk z) (hy : Num y z) : D_Ratio_below [rt x, y] S = .ok (.bl (lt x z)) S := by
  unfold D_Ratio_below b_Ratio_below
  simp [fnD_eq, startD, parts_num hy, tg2, slot_up, slot_dn, mM hx.s1 hz.s2, mM hz.s1 hx.s2, lt]
theorem isnum_num (h : Num y x) : D_is_number [y] S = .ok (.bl true) S := by
  unfold D_is_number b_is_number
  rcases h with rfl | ⟨rfl, _⟩
  · simp [fnD_eq, startD, isi_rt]
  · simp [fnD_eq, startD, isint_int]
theorem isamt_num (h : Num y x) : D_is_amount [y] S = .ok (.bl (decide (0 ≤ x.1))) S := by
  unfold D_is_amount b_is_amount
  simp [fnD_eq, startD, isnum_num h, parts_num h, ix0]
theorem asr_eval (hx : Qk x) (h : Num y x) : D_as_ratio [y] S = .ok (rt x) S := by
  unfold D_as_ratio b_as_ratio
  simp [fnD_eq, startD, isnum_num h, parts_num h, ix0, ix1, new_id hx, sNil]
theorem islist_sq {d : D} {ds : List D} (h : Sq S d ds) : D_is_list [d] S = .ok (.bl true) S := by
  unfold D_is_list b_is_list
  simp [fnD_eq, startD, h.isl]
/-! ### sums of products -/
def dotQ (r h : List Q2) : Q2 := (r.zip h).foldl (fun a p => pl a (ti p.1 p.2)) (0, 1)
def dotN (ps : List (Q2 × Q2)) (a : Q2) : Q2 := ps.foldl (fun a p => pl a (ti p.1 p.2)) a
theorem zero_sz {L : Nat} : Sz L 0 (0, 1) := ⟨by decide, by decide, Int.one_dvd _, by simp⟩
theorem dotN_sz {L M B B' : Nat} : ∀ (ps : List (Q2 × Q2)) (n : Nat) (a : Q2), (∀ p ∈ ps, Sz L B p.1 ∧ Sz M B' p.2) → Sz (L * M) (n * (B * B')) a → Sz (L * M) ((n + ps.length) * (B * B')) (dotN ps a)
  | [], n, a, _, h => h
  | p :: ps, n, a, hp, h => by
    obtain ⟨h1, h2⟩ := hp p List.mem_cons_self
    have := dotN_sz ps (n + 1) (pl a (ti p.1 p.2)) (fun q hq => hp q (List.mem_cons_of_mem _ hq)) (by
      rw [Nat.add_mul, Nat.one_mul]
      exact h.pl (h1.ti h2))
    rw [List.length_cons, show n + (ps.length + 1) = n + 1 + ps.length by omega]
    exact this
theorem dotQ_sz {L M B B' n : Nat} {r h : List Q2} (hr : ∀ x ∈ r, Sz L B x) (hh : ∀ x ∈ h, Sz M B' x) (hn : r.length ≤ n) : Sz (L * M) (n * (B * B')) (dotQ r h) := by
  have := dotN_sz (L := L) (M := M) (B := B) (B' := B') (r.zip h) 0 (0, 1) (fun p hp => ⟨hr _ (List.of_mem_zip hp).1, hh _ (List.of_mem_zip hp).2⟩) (by rw [Nat.zero_mul]; exact zero_sz)
  refine this.mono (Nat.dvd_refl _) (Nat.mul_le_mul_right _ ?_)
  rw [List.length_zip]
  omega
theorem zero_new : newD 0 2 I_Ratiod__initd_ [.int 0, .int 1] S = .ok (rt (0, 1)) S := new_id (x := (0, 1)) ⟨by decide, by decide, Nat.pow_pos (by decide), Nat.one_lt_pow (by decide) (by decide)⟩
/-- what is asked of the sizes in a sum of products -/
structure Fit (L M B B' n : Nat) : Prop where
  fl : 0 < L
  fm : 0 < M
  fb : 1 ≤ B
  fb' : 1 ≤ B'
  fn : 1 ≤ n
  fs : n * (B * B') * (L * M) < 2 ^ 2000
theorem Fit.one {L M B B' n : Nat} (f : Fit L M B B' n) : L < 2 ^ 2000 ∧ M < 2 ^ 2000 ∧ B * L < 2 ^ 2000 ∧ B' * M < 2 ^ 2000 ∧ L * M < 2 ^ 2000 ∧ 0 < L * M := by
  obtain ⟨hl, hm, hb, hb', hn, hs⟩ := f
  have p : ∀ a, a ≤ n * (B * B') * (L * M) → a < 2 ^ 2000 := fun a ha => Nat.lt_of_le_of_lt ha hs
  have k1 : L * M ≤ n * (B * B') * (L * M) := Nat.le_mul_of_pos_left _ (Nat.mul_pos hn (Nat.mul_pos hb hb'))
  have kL : L ≤ L * M := Nat.le_mul_of_pos_right _ hm
  have kM : M ≤ L * M := Nat.le_mul_of_pos_left _ hl
  have kB : B ≤ n * (B * B') := Nat.le_trans (Nat.le_mul_of_pos_right _ hb') (Nat.le_mul_of_pos_left _ hn)
  have kB' : B' ≤ n * (B * B') := Nat.le_trans (Nat.le_mul_of_pos_left _ hb) (Nat.le_mul_of_pos_left _ hn)
  exact ⟨p _ (Nat.le_trans kL k1), p _ (Nat.le_trans kM k1), p _ (Nat.mul_le_mul kB kL), p _ (Nat.mul_le_mul kB' kM), p _ k1, Nat.mul_pos hl hm⟩
theorem Sz.fit1 {L M B B' n : Nat} (f : Fit L M B B' n) (h : Sz L B x) : Qk x := h.qk f.fl f.one.1 f.one.2.2.1
theorem Sz.fit2 {L M B B' n : Nat} (f : Fit L M B B' n) (h : Sz M B' x) : Qk x := h.qk f.fm f.one.2.1 f.one.2.2.2.1
theorem Sz.fit3 {L M B B' n k : Nat} (f : Fit L M B B' n) (hk : k ≤ n) (h : Sz (L * M) (k * (B * B')) x) : Qk x := h.qk f.one.2.2.2.2.2 f.one.2.2.2.2.1 (Nat.lt_of_le_of_lt (Nat.mul_le_mul_right _ (Nat.mul_le_mul_right _ hk)) f.fs)
theorem one_dvd' {L : Nat} : 1 ∣ L := ⟨L, by simp⟩
theorem ti_sz {L M B B' : Nat} {u v : Q2} (h1 : Sz L B u) (h2 : Sz M B' v) : Sz (L * M) (1 * (B * B')) (ti u v) := by
  rw [Nat.one_mul]
  exact h1.ti h2
theorem dot_eval {L M B B' n : Nat} {d1 d2 : D} {r h : List Q2} {e1 e2 : Q2 → D} (f : Fit L M B B' n) (h1 : Sq S d1 (r.map e1)) (h2 : Sq S d2 (h.map e2)) (n1 : ∀ x, Num (e1 x) x) (n2 : ∀ x, Num (e2 x) x) (hr : ∀ x ∈ r, Sz L B x) (hh : ∀ x ∈ h, Sz M B' x) (hn : r.length ≤ n) :
    D_dot [d1, d2] S = .ok (rt (dotQ r h)) S := by
  obtain ⟨g, k1, k2⟩ := h1.zip h2 (es := [.val d1, .val d2, .val (rt (0, 1)), .no, .no]) (S0 := S) (a := aCons (eVar 0) (aCons (eVar 1) aNil)) (by simp)
  have em : ((r.map e1).zip (h.map e2)).map (fun p => D.tup [p.1, p.2]) = (r.zip h).map (fun p => D.tup [e1 p.1, e2 p.2]) := by
    rw [List.zip_map, List.map_map]
    rfl
  rw [em] at k1
  have hz : ∀ p ∈ r.zip h, Sz L B p.1 ∧ Sz M B' p.2 := fun p hp => ⟨hr _ (List.of_mem_zip hp).1, hh _ (List.of_mem_zip hp).2⟩
  have hlen : (r.zip h).length ≤ n := by rw [List.length_zip]; omega
  let b0 : SF := sAsg (tgN 2) (eOp2 (gOwn 0 D_Ratiod__addd_) (eVar 2) (eNew 0 2 [] I_Ratiod__initd_ (aCons (eOp2 iMul (eOp2 gIx (eCall 1 D_parts (aCons (eVar 3) aNil)) (eC (.int 0))) (eOp2 gIx (eCall 1 D_parts (aCons (eVar 4) aNil)) (eC (.int 0)))) (aCons (eOp2 iMul (eOp2 gIx (eCall 1 D_parts (aCons (eVar 3) aNil)) (eC (.int 1))) (eOp2 gIx (eCall 1 D_parts (aCons (eVar 4) aNil)) (eC (.int 1)))) aNil))))
  obtain ⟨es', S', q1, q2⟩ := forL_run (g := g) (t := tgT 2 (tsCons (tgN 3) (tsCons (tgN 4) tsNil))) (b := b0) (fun p : Q2 × Q2 => D.tup [e1 p.1, e2 p.2])
    (fun i es S' => S' = S ∧ ∃ u v, es = [.val d1, .val d2, .val (rt (dotN ((r.zip h).take i) (0, 1))), u, v]) (fun i es S' q => by rw [q.1]; exact k2) (r.zip h) 0 [.val d1, .val d2, .val (rt (0, 1)), .no, .no] S ⟨rfl, .no, .no, rfl⟩ fun j p es S' hj q => by
      obtain ⟨rfl, u, v, rfl⟩ := q
      rw [Nat.zero_add]
      have hjl : j < (r.zip h).length := (List.getElem?_eq_some_iff.mp hj).1
      have hp : p ∈ r.zip h := List.mem_of_getElem? hj
      obtain ⟨z1, z2⟩ := hz p hp
      have zs := dotN_sz (L := L) (M := M) (B := B) (B' := B') ((r.zip h).take j) 0 (0, 1) (fun q hq => hz q (List.mem_of_mem_take hq)) (by rw [Nat.zero_mul]; exact zero_sz)
      rw [List.length_take, Nat.zero_add, Nat.min_eq_left (by omega)] at zs
      have a1 := zs.fit3 f (by omega)
      have a2 := (ti_sz z1 z2).fit3 f f.fn
      have y1 := z1.fit1 f
      have y2 := z2.fit2 f
      have et : (r.zip h).take (j + 1) = (r.zip h).take j ++ [p] := by
        rw [List.take_add_one, hj]
        rfl
      have en : newD 0 2 I_Ratiod__initd_ [.int (p.1.1 * p.2.1), .int (p.1.2 * p.2.2)] S' = .ok (rt (ti p.1 p.2)) S' := new_eval (den_p y1 y2) (den_s y1 y2)
      refine ⟨[.val d1, .val d2, .val (rt (dotN ((r.zip h).take j) (0, 1))), .val (e1 p.1), .val (e2 p.2)], [.val d1, .val d2, .val (rt (pl (dotN ((r.zip h).take j) (0, 1)) (ti p.1 p.2))), .val (e1 p.1), .val (e2 p.2)], S', by simp, by simp [b0, parts_num (n1 p.1), parts_num (n2 p.2), ix0, ix1, mM y1.s1 y2.s1, mM y1.s2 y2.s2, en, own_num (num_rt _) (add_eval a1 a2 (num_rt _))], rfl, .val (e1 p.1), .val (e2 p.2), ?_⟩
      rw [et]
      simp [dotN]
  obtain ⟨rfl, u, v, rfl⟩ := q2
  unfold D_dot b_dot
  have e9 : dotN ((r.zip h).take (0 + (r.zip h).length)) (0, 1) = dotQ r h := by
    rw [Nat.zero_add, List.take_length]
    rfl
  rw [e9] at q1
  simp only [b0] at q1
  simp only [fnD_eq, startD, sSeq_eq, sAsg_eq, aCons_eq, eC_eq, Res.bindA_ok, ResA.bindL_ok, aNil_eq, ResA.bind_ok, List.length_cons, List.length_nil, List.map_cons, List.map_nil, List.cons_append, List.nil_append, List.replicate, eNew_eq, zero_new]
  simp [-itZip_eq, -aCons_eq, -sAsg_eq, k1, q1]
end
end K40
set_option Elab.async false
set_option linter.all false
set_option maxRecDepth 100000
set_option maxHeartbeats 2000000
set_option autoImplicit false
namespace K40
open PySem L2 DL
/-! ### tables -/
abbrev Plc := Str × Str × List (List Q2)
def rT (r : List Q2) : D := .tup (r.map rt)
def plT (p : Plc) : D := .tup [.str p.1, .str p.2.1, .tup (p.2.2.map rT)]
def tb (ps : List Plc) : D := .obj 1 [.tup (ps.map plT)]
def pkD (pk : List Nat) : D := .tup (pk.map fun (k : Nat) => D.int k)
structure Pick (ps : List Plc) (pk : List Nat) : Prop where
  len : pk.length = ps.length
  lt : ∀ q ∈ pk.zip ps, q.1 < q.2.2.2.length
def rowsOf (ps : List Plc) (pk : List Nat) : List (List Q2) := (pk.zip ps).map fun q => q.2.2.2.getD q.1 []
section
variable {S : Store} {ps : List Plc}
@[simp] theorem gListOf_tup {ds : List D} : gListOf (.tup ds) S = .ok (.lst ds) S := rfl
@[simp] theorem gTupOf_tup {ds : List D} : gTupOf (.tup ds) S = .ok (.tup ds) S := rfl
def Own (z : Str) : Prop := z = "steerer" ∨ z = "foe"
theorem gEq_own {z : Str} (h : Own z) : gEq (.str z) (.str "steerer") S = .ok (.bl (z == "steerer")) S := by
  have e : eqB S (.str z) (.str "steerer") = some (z == "steerer") := by
    rcases h with rfl | rfl
    · kernel_rfl
    · kernel_rfl
  unfold gEq
  rw [e]
theorem own0 {d : D} : gSlot 1 0 (.obj 1 [d]) S = .ok d S := gSlot_0
theorem tb_own : gSlot 1 0 (tb ps) S = .ok (.tup (ps.map plT)) S := own0
theorem isObj_tb : isObj 1 (tb ps) = true := rfl
theorem len_eval : D_Tabled__lend_ [tb ps] S = .ok (.int ps.length) S := by
  unfold D_Tabled__lend_ b_Tabled__lend_
  simp [fnD_eq, startD, tb_own]
theorem lenO_eval (h : ps.length ≤ 5) : gLenO 1 D_Tabled__lend_ (tb ps) S = .ok (.int ps.length) S := by
  have := len_eval (ps := ps) (S := S)
  unfold tb at this ⊢
  rw [gLenO_eq, this]
  simp only
  rw [if_pos (by omega)]
theorem need_place_eval {i : Nat} (h : i < ps.length) : D_Table_need_place [tb ps, .int i] S = .ok .non S := by
  unfold D_Table_need_place b_Table_need_place
  simp [fnD_eq, startD, isint_int, tb_own, h, sNil]
theorem ixT {α : Type} {f : α → D} {xs : List α} {i : Nat} {x : α} (h : xs[i]? = some x) : gIx (.tup (xs.map f)) (.int i) S = .ok (f x) S := Sq.ix (S := S) .tup (by rw [List.getElem?_map, h]; rfl)
theorem ixL {α : Type} {f : α → D} {xs : List α} {i : Nat} {x : α} (h : xs[i]? = some x) : gIx (.lst (xs.map f)) (.int i) S = .ok (f x) S := Sq.ix (S := S) .lst (by rw [List.getElem?_map, h]; rfl)
theorem ix3_2 {a b c : D} : gIx (.tup [a, b, c]) (.int 2) S = .ok c S := Sq.ix (S := S) (i := 2) .tup rfl
theorem ix3_1 {a b c : D} : gIx (.tup [a, b, c]) (.int 1) S = .ok b S := Sq.ix (S := S) (i := 1) .tup rfl
theorem rows_eval {i : Nat} {p : Plc} (h : ps[i]? = some p) : D_Table_rows [tb ps, .int i] S = .ok (.lst (p.2.2.map rT)) S := by
  have hl := (List.getElem?_eq_some_iff.mp h).1
  unfold D_Table_rows b_Table_rows
  simp [fnD_eq, startD, isObj_tb, need_place_eval hl, tb_own, ixT h, plT, ix3_2]
theorem owner_eval {i : Nat} {p : Plc} (h : ps[i]? = some p) : D_Table_owner [tb ps, .int i] S = .ok (.str p.2.1) S := by
  have hl := (List.getElem?_eq_some_iff.mp h).1
  unfold D_Table_owner b_Table_owner
  simp [fnD_eq, startD, isObj_tb, need_place_eval hl, tb_own, ixT h, plT, ix3_1]
theorem eLc_run {q : Bool} {vs : List Nat} {it : IF} {t : TF} {c e : EF} {es : List SD} {S S1 : Store} {ds : List D} {g : Gd} {r : Res} (h1 : it es S = .ok ds g S1) (h2 : ds.length < 1000000) (h3 : noAcc es vs = true) (h4 : lcL q g t c e (wipeD es vs) ds S1 [] = r) : eLc q vs it t c e es S = r := by
  rw [eLc_eq, h1]
  simp only
  rw [if_pos ⟨h2, h3⟩, h4]
theorem asB_true {α : Type} : ∀ (xs : List α), asB (xs.map fun _ => D.bl true) = some (xs.map fun _ => true)
  | [] => rfl
  | x :: xs => by
    rw [List.map_cons, asB, asB_true xs]
    rfl
theorem gAll_true {α : Type} {xs : List α} : gAll (.lst (xs.map fun _ => D.bl true)) S = .ok (.bl true) S := by
  unfold gAll deref
  simp only [asB_true]
  rw [List.all_map]
  simp
theorem zipM {α β : Type} (f : α → D) (g : β → D) (xs : List α) (ys : List β) : ((xs.map f).zip (ys.map g)).map (fun p => D.tup [p.1, p.2]) = (xs.zip ys).map fun p => D.tup [f p.1, g p.2] := by
  rw [List.zip_map, List.map_map]
  rfl
theorem pick_eval {pk : List Nat} (h : Pick ps pk) (hl : ps.length ≤ 5) : D_Table_is_pick [tb ps, pkD pk] S = .ok (.bl true) S := by
  have h1 : Sq S (pkD pk) (pk.map fun (k : Nat) => D.int k) := .tup
  have h2 : Sq S (.tup (ps.map plT)) (ps.map plT) := .tup
  obtain ⟨g, k1, k2⟩ := h1.zip h2 (es := [.val (tb ps), .val (pkD pk), .no, .no]) (S0 := S) (a := aCons (eVar 1) (aCons (eOp1 (gSlot 1 0) (eVar 0)) aNil)) (by simp [tb_own])
  rw [zipM] at k1
  have z := h.lt
  have zl : (pk.zip ps).length ≤ 5 := by rw [List.length_zip]; omega
  have k3 := lcL_map (q := false) (g := g) (es := [.val (tb ps), .val (pkD pk), .no, .no]) (S := S) (t := tgT 2 (tsCons (tgN 2) (tsCons (tgN 3) tsNil))) (c := eYes) (e := eAnd (eCall 1 D_is_integer (aCons (eVar 2) aNil)) (eChain iLe iLt (eC (.int 0)) (eVar 2) (eOp1 gLen (eOp2 gIx (eVar 3) (eC (.int 2))))))
    (fun p : Nat × Plc => D.tup [D.int p.1, plT p.2]) (fun _ => D.bl true) k2 (pk.zip ps) [] fun p hp => by
      have := z p hp
      exact ⟨[.val (tb ps), .val (pkD pk), .val (.int p.1), .val (plT p.2)], by simp, by simp, by simp [isint_int, plT, ix3_2, this]⟩
  rw [if_neg Bool.false_ne_true, List.nil_append] at k3
  have k4 := eLc_run (vs := [2, 3]) k1 (by rw [List.length_map]; omega) (by rfl) (by simpa [wipeD] using k3)
  unfold D_Table_is_pick b_Table_is_pick
  have e0 : gLen (pkD pk) S = .ok (.int pk.length) S := by rw [h1.len, List.length_map]
  simp [-eLc_eq, fnD_eq, startD, islist_sq h1, e0, tb_own, h.len, sNil, k4, gAll_true]
theorem getD_some {α : Type} {xs : List α} {i : Nat} {d : α} (h : i < xs.length) : xs[i]? = some (xs.getD i d) := by
  rw [List.getD_eq_getElem?_getD, List.getElem?_eq_getElem h]
  rfl
theorem matrix_eval {pk : List Nat} (h : Pick ps pk) (hl : ps.length ≤ 5) : D_Table_matrix [tb ps, pkD pk] S = .ok (.lst ((rowsOf ps pk).map fun r => .lst (r.map rt))) S := by
  have h1 : Sq S (pkD pk) (pk.map fun (k : Nat) => D.int k) := .tup
  have h2 : Sq S (.tup (ps.map plT)) (ps.map plT) := .tup
  obtain ⟨g, k1, k2⟩ := h1.zip h2 (es := [.val (tb ps), .val (pkD pk), .no, .no]) (S0 := S) (a := aCons (eVar 1) (aCons (eOp1 (gSlot 1 0) (eVar 0)) aNil)) (by simp [tb_own])
  rw [zipM] at k1
  have z := h.lt
  have zl : (pk.zip ps).length ≤ 5 := by rw [List.length_zip]; omega
  have k3 := lcL_map (q := false) (g := g) (es := [.val (tb ps), .val (pkD pk), .no, .no]) (S := S) (t := tgT 2 (tsCons (tgN 2) (tsCons (tgN 3) tsNil))) (c := eYes) (e := eOp1 gListOf (eOp2 gIx (eOp2 gIx (eVar 3) (eC (.int 2))) (eVar 2)))
    (fun p : Nat × Plc => D.tup [D.int p.1, plT p.2]) (fun p => D.lst ((p.2.2.2.getD p.1 []).map rt)) k2 (pk.zip ps) [] fun p hp => by
      have := ixT (f := rT) (S := S) (getD_some (d := []) (z p hp))
      exact ⟨[.val (tb ps), .val (pkD pk), .val (.int p.1), .val (plT p.2)], by simp, by simp, by simp [plT, ix3_2, this]; rfl⟩
  rw [if_neg Bool.false_ne_true, List.nil_append] at k3
  have k4 := eLc_run (vs := [2, 3]) k1 (by rw [List.length_map]; omega) (by rfl) (by simpa [wipeD] using k3)
  unfold D_Table_matrix b_Table_matrix
  simp [-eLc_eq, fnD_eq, startD, isObj_tb, pick_eval h hl, sNil, k4]
  simp [rowsOf]
/-! ### steps -/
structure Wz (L B : Nat) (ps : List Plc) : Prop where
  n : 1 ≤ ps.length ∧ ps.length ≤ 5
  own : ∀ p ∈ ps, Own p.2.1
  rows : ∀ p ∈ ps, 1 ≤ p.2.2.length ∧ p.2.2.length ≤ 4 ∧ ∀ r ∈ p.2.2, r.length = ps.length ∧ ∀ x ∈ r, Sz L B x
def behQ (ps : List Plc) (pk : List Nat) (h : List Q2) : List Q2 := (rowsOf ps pk).map fun r => dotQ r h
theorem rowsOf_mem {L B : Nat} {pk : List Nat} (w : Wz L B ps) (h : Pick ps pk) : ∀ r ∈ rowsOf ps pk, r.length = ps.length ∧ ∀ x ∈ r, Sz L B x := fun r hr => by
  unfold rowsOf at hr
  obtain ⟨q, hq, rfl⟩ := List.mem_map.mp hr
  have h1 := h.lt q hq
  have h2 := getD_some (d := ([] : List Q2)) h1
  exact (w.rows q.2 (List.of_mem_zip hq).2).2.2 _ (List.mem_of_getElem? h2)
theorem rowsOf_len {pk : List Nat} (h : Pick ps pk) : (rowsOf ps pk).length = ps.length := by
  unfold rowsOf
  rw [List.length_map, List.length_zip, h.len, Nat.min_self]
theorem behQ_len {pk : List Nat} {h : List Q2} (hp : Pick ps pk) : (behQ ps pk h).length = ps.length := by
  unfold behQ
  rw [List.length_map, rowsOf_len hp]
theorem behQ_sz {L M B B' : Nat} {pk : List Nat} {h : List Q2} (w : Wz L B ps) (hp : Pick ps pk) (hh : ∀ x ∈ h, Sz M B' x) : ∀ x ∈ behQ ps pk h, Sz (L * M) (5 * (B * B')) x := fun x hx => by
  unfold behQ at hx
  obtain ⟨r, hr, rfl⟩ := List.mem_map.mp hx
  obtain ⟨e1, e2⟩ := rowsOf_mem w hp r hr
  exact dotQ_sz e2 hh (by rw [e1]; exact w.n.2)
theorem made_eval {L M B B' : Nat} {pk : List Nat} {d : D} {h : List Q2} {e2 : Q2 → D} (f : Fit L M B B' 5) (w : Wz L B ps) (hp : Pick ps pk) (n2 : ∀ x, Num (e2 x) x) (hd : Sq S d (h.map e2)) (hh : ∀ x ∈ h, Sz M B' x) :
    D_made [tb ps, pkD pk, d] S = .ok (.lst ((behQ ps pk h).map rt)) S := by
  have hm := matrix_eval (S := S) hp w.n.2
  have k1 : itSeq (eMeth 1 2 D_Table_matrix (eVar 0) (aCons (eVar 1) aNil)) [.val (tb ps), .val (pkD pk), .val d, .no] S = .ok ((rowsOf ps pk).map fun r => .lst (r.map rt)) [] S := by
    simp [isObj_tb, hm]
  have k3 := lcL_map (q := false) (g := []) (es := [.val (tb ps), .val (pkD pk), .val d, .no]) (S := S) (t := tgN 3) (c := eYes) (e := eCall 2 D_dot (aCons (eVar 3) (aCons (eVar 2) aNil)))
    (fun r : List Q2 => D.lst (r.map rt)) (fun r => rt (dotQ r h)) (Gd.ok_nil S) (rowsOf ps pk) [] fun r hr => by
      obtain ⟨e1, e3⟩ := rowsOf_mem w hp r hr
      have := dot_eval (S := S) (d1 := .lst (r.map rt)) f .lst hd num_rt n2 e3 hh (by rw [e1]; exact w.n.2)
      exact ⟨[.val (tb ps), .val (pkD pk), .val d, .val (.lst (r.map rt))], by simp, by simp, by simp [this]⟩
  rw [if_neg Bool.false_ne_true, List.nil_append] at k3
  have hl := rowsOf_len hp
  have := w.n.2
  have k4 := eLc_run (vs := [3]) k1 (by rw [List.length_map]; omega) (by rfl) (by simpa [wipeD] using k3)
  unfold D_made b_made
  simp [-eLc_eq, -itSeq_eq, fnD_eq, startD, k4, behQ]
/-! ### the best row -/
/-- the first best one of several: b: the greatest -/
def bestN (b : Bool) (ts : List Q2) : Nat → Nat
  | 0 => 0
  | n + 1 => let o := bestN b ts n; if (if b then lt (ts.getD o (0, 1)) (ts.getD n (0, 1)) else lt (ts.getD n (0, 1)) (ts.getD o (0, 1))) then n else o
def bestI (b : Bool) (ts : List Q2) : Nat := bestN b ts ts.length
theorem bestN_lt {b : Bool} {ts : List Q2} : ∀ n, 0 < n → bestN b ts n < n
  | 0, h => absurd h (Nat.lt_irrefl 0)
  | 1, _ => by
    have : bestN b ts 1 = 0 := by simp [bestN]
    rw [this]
    exact Nat.one_pos
  | n + 2, _ => by
    have := bestN_lt (b := b) (ts := ts) (n + 1) (Nat.succ_pos n)
    rw [bestN]
    repeat' split
    all_goals omega
theorem enumD_map {α : Type} (f : α → D) (xs : List α) : enumD (xs.map f) = ((List.range xs.length).zip xs).map fun p => .tup [.int (p.1 : Nat), f p.2] := by
  unfold enumD
  rw [List.length_map, List.zip_map_right, List.map_map]
  rfl
theorem zip_range_get {α : Type} {xs : List α} {j : Nat} {p : Nat × α} (h : ((List.range xs.length).zip xs)[j]? = some p) : p.1 = j ∧ xs[j]? = some p.2 ∧ j < xs.length := by
  rw [List.getElem?_zip_eq_some] at h
  obtain ⟨h1, h2⟩ := h
  have hj := (List.getElem?_eq_some_iff.mp h2).1
  rw [List.getElem?_range hj] at h1
  exact ⟨(Option.some.inj h1).symm, h2, hj⟩
theorem getD_of {α : Type} {xs : List α} {i : Nat} {d x : α} (h : xs[i]? = some x) : xs.getD i d = x := by
  rw [List.getD_eq_getElem?_getD, h]
  rfl
theorem best_row_eval {L M B B' : Nat} {i : Nat} {p : Plc} {d : D} {h : List Q2} {e2 : Q2 → D} (f : Fit L M B B' 5) (w : Wz L B ps) (hi : ps[i]? = some p) (n2 : ∀ x, Num (e2 x) x) (hd : Sq S d (h.map e2)) (hh : ∀ x ∈ h, Sz M B' x) :
    D_best_row [tb ps, .int i, d] S = .ok (.int (bestI (p.2.1 == "steerer") (p.2.2.map fun r => dotQ r h) : Nat)) S := by
  have hpm := List.mem_of_getElem? hi
  obtain ⟨w1, w2, w3⟩ := w.rows p hpm
  have ho := owner_eval (S := S) hi
  have hr := rows_eval (S := S) hi
  let b := (p.2.1 == "steerer" : Bool)
  let ts := p.2.2.map fun r => dotQ r h
  have tz : ∀ x ∈ ts, Qk x := fun x hx => by
    obtain ⟨r, hr, rfl⟩ := List.mem_map.mp hx
    obtain ⟨e1, e3⟩ := w3 r hr
    exact (dotQ_sz e3 hh (by rw [e1]; exact w.n.2)).fit3 f (Nat.le_refl 5)
  have e0 : gEq (.str p.2.1) (.str "steerer") S = .ok (.bl b) S := gEq_own (w.own p hpm)
  have k1 : itSeq (eMeth 1 2 D_Table_rows (eVar 0) (aCons (eVar 1) aNil)) [.val (tb ps), .val (.int i), .val d, .val (.bl b), .val (.int 0), .no, .no, .no, .no] S = .ok (p.2.2.map rT) [] S := by
    simp [isObj_tb, hr]
  have k3 := lcL_map (q := false) (g := []) (es := [.val (tb ps), .val (.int i), .val d, .val (.bl b), .val (.int 0), .no, .no, .no, .no]) (S := S) (t := tgN 6) (c := eYes) (e := eCall 2 D_dot (aCons (eVar 6) (aCons (eVar 2) aNil)))
    rT (fun r => rt (dotQ r h)) (Gd.ok_nil S) p.2.2 [] fun r hr => by
      obtain ⟨e1, e3⟩ := w3 r hr
      have := dot_eval (S := S) (d1 := rT r) f .tup hd num_rt n2 e3 hh (by rw [e1]; exact w.n.2)
      exact ⟨[.val (tb ps), .val (.int i), .val d, .val (.bl b), .val (.int 0), .no, .val (rT r), .no, .no], by simp, by simp, by simp [this]⟩
  rw [if_neg Bool.false_ne_true, List.nil_append] at k3
  have k4 := eLc_run (vs := [6]) k1 (by rw [List.length_map]; omega) (by rfl) (by simpa [wipeD] using k3)
  have em : (p.2.2.map fun r => rt (dotQ r h)) = ts.map rt := by
    show _ = (p.2.2.map fun r => dotQ r h).map rt
    rw [List.map_map]
    rfl
  rw [em] at k4
  have tl : ts.length = p.2.2.length := List.length_map ..
  obtain ⟨es', S', q1, q2⟩ := forL_run (g := []) (t := tgT 2 (tsCons (tgN 7) (tsCons (tgN 8) tsNil))) (b := sIf (eIf (eVar 3) (eMeth 0 2 D_Ratio_below (eOp2 gIx (eVar 5) (eVar 4)) (aCons (eVar 8) aNil)) (eMeth 0 2 D_Ratio_below (eVar 8) (aCons (eOp2 gIx (eVar 5) (eVar 4)) aNil))) (sAsg (tgN 4) (eVar 7)) sNil) (fun p : Nat × Q2 => D.tup [.int (p.1 : Nat), rt p.2])
    (fun n es S' => S' = S ∧ ∃ u v, es = [.val (tb ps), .val (.int i), .val d, .val (.bl b), .val (.int (bestN b ts n : Nat)), .val (.lst (ts.map rt)), .no, u, v]) (fun _ _ S' _ => Gd.ok_nil S') ((List.range ts.length).zip ts) 0 [.val (tb ps), .val (.int i), .val d, .val (.bl b), .val (.int 0), .val (.lst (ts.map rt)), .no, .no, .no] S ⟨rfl, .no, .no, rfl⟩ fun j q es S' hj hq => by
      obtain ⟨rfl, u, v, rfl⟩ := hq
      rw [Nat.zero_add]
      obtain ⟨ej, hx, hjl⟩ := zip_range_get hj
      obtain ⟨j', x⟩ := q
      simp only at ej hx
      subst ej
      have ol : bestN b ts j' < ts.length := by
        cases j' with
        | zero => exact hjl
        | succ j => exact Nat.lt_trans (bestN_lt _ (Nat.succ_pos j)) hjl
      have og := getD_some (d := ((0, 1) : Q2)) ol
      have ox := ixL (f := rt) (S := S') og
      have qo := tz _ (List.mem_of_getElem? og)
      have qx := tz _ (List.mem_of_getElem? hx)
      have gx := getD_of (d := ((0, 1) : Q2)) hx
      refine ⟨[.val (tb ps), .val (.int i), .val d, .val (.bl b), .val (.int (bestN b ts j' : Nat)), .val (.lst (ts.map rt)), .no, .val (.int (j' : Nat)), .val (rt x)], [.val (tb ps), .val (.int i), .val d, .val (.bl b), .val (.int (bestN b ts (j' + 1) : Nat)), .val (.lst (ts.map rt)), .no, .val (.int (j' : Nat)), .val (rt x)], S', by simp, ?_, rfl, .val (.int (j' : Nat)), .val (rt x), rfl⟩
      rw [bestN, gx]
      cases hb : b with
      | true =>
        rw [hb] at ox qo
        generalize ts.getD (bestN true ts j') (0, 1) = o at ox qo ⊢
        cases hc : lt o x <;> simp [ox, isObj_rt, below_eval qo qx (num_rt _), hc, sNil]
      | false =>
        rw [hb] at ox qo
        generalize ts.getD (bestN false ts j') (0, 1) = o at ox qo ⊢
        cases hc : lt x o <;> simp [ox, isObj_rt, below_eval qx qo (num_rt _), hc, sNil]
  obtain ⟨rfl, u, v, rfl⟩ := q2
  have ke : itEnum (aCons (eVar 5) aNil) [.val (tb ps), .val (.int i), .val d, .val (.bl b), .val (.int 0), .val (.lst (ts.map rt)), .no, .no, .no] S' = .ok (((List.range ts.length).zip ts).map fun p => .tup [.int (p.1 : Nat), rt p.2]) [] S' := by
    unfold itEnum
    simp [enumD_map]
  have hz : ((List.range ts.length).zip ts).length = ts.length := by simp
  rw [Nat.zero_add, hz] at q1
  unfold D_best_row b_best_row
  simp [-eLc_eq, -itSeq_eq, fnD_eq, startD, isObj_tb, ho, e0, k4, ke, q1]
  rfl
end
end K40
set_option Elab.async false
set_option linter.all false
set_option maxRecDepth 100000
set_option maxHeartbeats 2000000
set_option autoImplicit false
namespace K40
open PySem L2 DL
/-! ### best picks -/
def bestOf (p : Plc) (h : List Q2) : Nat := bestI (p.2.1 == "steerer") (p.2.2.map fun r => dotQ r h)
def bestP (ps : List Plc) (h : List Q2) : List Nat := ps.map fun p => bestOf p h
def fL (r : List Q2) : D := .lst (r.map fr)
def plL (p : Plc) : D := .lst [.str p.1, .str p.2.1, .lst (p.2.2.map fL)]
def spL (ps : List Plc) : D := .lst (ps.map plL)
section
variable {S : Store} {ps : List Plc}
theorem range_getD {α β : Type} (f : α → β) (d : α) (xs : List α) : (List.range xs.length).map (fun i => f (xs.getD i d)) = xs.map f := by
  apply List.ext_getElem?
  intro i
  rw [List.getElem?_map, List.getElem?_map]
  by_cases h : i < xs.length
  · rw [List.getElem?_range h, List.getElem?_eq_getElem h, Option.map_some, Option.map_some, getD_of (List.getElem?_eq_getElem h)]
  · rw [List.getElem?_eq_none (by simp; omega), List.getElem?_eq_none (by omega)]
    rfl
theorem best_pick {L B : Nat} {h : List Q2} (w : Wz L B ps) : Pick ps (bestP ps h) := by
  refine ⟨List.length_map .., fun q hq => ?_⟩
  obtain ⟨j, hj⟩ := List.getElem?_of_mem hq
  rw [List.getElem?_zip_eq_some] at hj
  obtain ⟨h1, h2⟩ := hj
  unfold bestP at h1
  rw [List.getElem?_map, h2] at h1
  have e : q.1 = bestOf q.2 h := (Option.some.inj h1).symm
  have hr := (w.rows q.2 (List.mem_of_getElem? h2)).1
  rw [e]
  unfold bestOf bestI
  have := bestN_lt (b := (q.2.2.1 == "steerer" : Bool)) (ts := q.2.2.2.map fun r => dotQ r h) (q.2.2.2.map fun r => dotQ r h).length (by rw [List.length_map]; omega)
  rwa [List.length_map] at this ⊢
theorem len_e {es : List SD} {i : Nat} (h : es[i]? = some (.val (tb ps))) (hl : ps.length ≤ 5) : eOp1 (gLenO 1 D_Tabled__lend_) (eVar i) es S = .ok (.int ps.length) S := by
  have e : eVar i es S = .ok (tb ps) S := by rw [eVar_eq, h]
  rw [eOp1_eq, e, Res.bind_ok, lenO_eval hl, Res.nox_ok]
theorem best_of_k1 {d : D} (hl : ps.length ≤ 5) : itRange1 (aCons (eOp1 (gLenO 1 D_Tabled__lend_) (eVar 0)) aNil) [.val (tb ps), .val d, .no] S = .ok ((List.range ps.length).map fun (i : Nat) => D.int i) [] S :=
  range1_eval (Nat.lt_of_le_of_lt hl (by decide)) (by rw [aCons_eq, len_e rfl hl, Res.bindA_ok, aNil_eq, ResA.bindL_ok])
theorem best_of_k2 {f : List Nat} {g : Nat → D} {n : Nat} (hb : f.length = n) : (List.range n).map (fun i => D.int (f.getD i 0 : Nat)) = f.map fun (k : Nat) => D.int k := by
  subst hb
  exact range_getD (fun k : Nat => D.int k) 0 f
theorem best_of_eval {L M B B' : Nat} {d : D} {h : List Q2} {e2 : Q2 → D} (f : Fit L M B B' 5) (w : Wz L B ps) (n2 : ∀ x, Num (e2 x) x) (hd : Sq S d (h.map e2)) (hh : ∀ x ∈ h, Sz M B' x) :
    D_best_of [tb ps, d] S = .ok (pkD (bestP ps h)) S := by
  have hl := w.n.2
  have k1 := best_of_k1 (S := S) (d := d) hl
  have hb : (bestP ps h).length = ps.length := List.length_map ..
  have k3 := lcL_map (q := false) (g := []) (es := [.val (tb ps), .val d, .no]) (S := S) (t := tgN 2) (c := eYes) (e := eCall 3 D_best_row (aCons (eVar 0) (aCons (eVar 2) (aCons (eVar 1) aNil))))
    (fun (i : Nat) => D.int i) (fun i => D.int ((bestP ps h).getD i 0 : Nat)) (Gd.ok_nil S) (List.range ps.length) [] fun i hi => by
      have hi := List.mem_range.mp hi
      have e1 := List.getElem?_eq_getElem hi
      have := best_row_eval (S := S) f w e1 n2 hd hh
      have e2 : (bestP ps h).getD i 0 = bestI (ps[i].2.1 == "steerer") (ps[i].2.2.map fun r => dotQ r h) := getD_of (by unfold bestP; rw [List.getElem?_map, e1]; rfl)
      rw [e2]
      exact ⟨[.val (tb ps), .val d, .val (.int i)], by simp, by simp, by simp [this]⟩
  rw [if_neg Bool.false_ne_true, List.nil_append, best_of_k2 (g := fun _ => .non) hb] at k3
  have k4 := eLc_run (vs := [2]) k1 (Nat.lt_of_le_of_lt (by rw [List.length_map, List.length_range]; exact hl) (by decide)) (by rfl) (by simpa [wipeD] using k3)
  have e5 : b_best_of (startD 3 [tb ps, d]) S = .ret (pkD (bestP ps h)) S := by
    have e6 : (startD 3 [tb ps, d]).map frz1 = [.val (tb ps), .val d, .no] := rfl
    unfold b_best_of
    rw [sRet_eq, e6, eOp1_eq, k4, Res.bind_ok, gTupOf_lst, Res.nox_ok]
    rfl
  unfold D_best_of
  rw [fnD_eq, e5]
/-! ### what is told is taken -/
theorem need_table_eval : D_need_table [tb ps] S = .ok .non S := by
  unfold D_need_table b_need_table tb
  simp [fnD_eq, startD, sNil]
theorem are_eval {d : D} {h : List Q2} {e2 : Q2 → D} {n : Nat} (n2 : ∀ x, Num (e2 x) x) (hd : Sq S d (h.map e2)) (hn : h.length = n) (hn5 : n < 1000000) (hp : ∀ x ∈ h, 0 ≤ x.1) : D_are_amounts [d, .int n] S = .ok (.bl true) S := by
  obtain ⟨g, k1, k2⟩ := hd.it (es := [.val d, .val (.int n), .no]) (f := eVar 0) (S0 := S) rfl
  have k3 := lcL_map (q := false) (g := g) (es := [.val d, .val (.int n), .no]) (S := S) (t := tgN 2) (c := eYes) (e := eCall 1 D_is_amount (aCons (eVar 2) aNil))
    e2 (fun _ => D.bl true) k2 h [] fun x hx => by
      exact ⟨[.val d, .val (.int n), .val (e2 x)], by simp, by simp, by simp [isamt_num (n2 x), hp x hx]⟩
  rw [if_neg Bool.false_ne_true, List.nil_append] at k3
  have k4 := eLc_run (vs := [2]) k1 (by rw [List.length_map, hn]; exact hn5) (by rfl) (by simpa [wipeD] using k3)
  have e0 : gLen d S = .ok (.int n) S := by rw [hd.len, List.length_map, hn]
  unfold D_are_amounts b_are_amounts
  simp [-eLc_eq, -itSeq_eq, fnD_eq, startD, islist_sq hd, e0, k4, gAll_true]
theorem told_eval {d : D} {h : List Q2} {e2 : Q2 → D} (n2 : ∀ x, Num (e2 x) x) (hd : Sq S d (h.map e2)) (hn : h.length = ps.length) (hl : ps.length ≤ 5) (hp : ∀ x ∈ h, 0 ≤ x.1) (hq : ∀ x ∈ h, Qk x) : D_told_amounts [tb ps, d] S = .ok (.lst (h.map rt)) S := by
  obtain ⟨g, k1, k2⟩ := hd.it (es := [.val (tb ps), .val d, .no]) (f := eVar 1) (S0 := S) rfl
  have k3 := lcL_map (q := false) (g := g) (es := [.val (tb ps), .val d, .no]) (S := S) (t := tgN 2) (c := eYes) (e := eCall 1 D_as_ratio (aCons (eVar 2) aNil))
    e2 rt k2 h [] fun x hx => by
      exact ⟨[.val (tb ps), .val d, .val (e2 x)], by simp, by simp, by simp [asr_eval (hq x hx) (n2 x)]⟩
  rw [if_neg Bool.false_ne_true, List.nil_append] at k3
  have k4 := eLc_run (vs := [2]) k1 (Nat.lt_of_le_of_lt (by rw [List.length_map, hn]; exact hl) (by decide)) (by rfl) (by simpa [wipeD] using k3)
  have e1 := len_e (S := S) (es := [.val (tb ps), .val d, .no]) (i := 0) rfl hl
  have e2' := are_eval (S := S) n2 hd hn (Nat.lt_of_le_of_lt hl (by decide)) hp
  have e6 : startD 3 [tb ps, d] = [.val (tb ps), .val d, .no] := rfl
  have e7 : [SD.val (tb ps), .val d, .no].map frz1 = [.val (tb ps), .val d, .no] := rfl
  have e8 : eVar 1 [SD.val (tb ps), .val d, .no] S = .ok d S := rfl
  have hT : eNot (eCall 2 D_are_amounts (aCons (eVar 1) (aCons (eOp1 (gLenO 1 D_Tabled__lend_) (eVar 0)) aNil))) [.val (tb ps), .val d, .no] S = .ok (.bl false) S := by
    rw [eNot_eq, eCall_eq, aCons_eq, e8, Res.bindA_ok, aCons_eq, e1, Res.bindA_ok, aNil_eq, ResA.bindL_ok, ResA.bindL_ok, ResA.bind_ok, chk_eq, if_pos (show [d, D.int (ps.length : Int)].length = 2 from rfl), e2', Res.bind_ok, nB_eq]
    rfl
  unfold D_told_amounts
  have e9 : b_told_amounts [.val (tb ps), .val d, .no] S = .ret (.lst (h.map rt)) S := by
    unfold b_told_amounts
    rw [sSeq_eq, sIf_eq, hT, Res.toS_ok]
    simp only [sNil, Fl.bind_next]
    rw [sRet_eq, e7, k4]
  rw [fnD_eq, e6, e9]
end
end K40
set_option Elab.async false
set_option linter.all false
set_option maxRecDepth 100000
set_option maxHeartbeats 2000000
set_option autoImplicit false
namespace K40
open PySem L2 DL
/-! ### courses -/
def stQ (ps : List Plc) (h : List Q2) : Nat → List Q2
  | 0 => h
  | n + 1 => behQ ps (bestP ps (stQ ps h n)) (stQ ps h n)
def pkS (ps : List Plc) (h : List Q2) (n : Nat) : List (List Nat) := (List.range n).map fun i => bestP ps (stQ ps h i)
def mI (L M0 : Nat) : Nat → Nat
  | 0 => M0
  | n + 1 => L * mI L M0 n
def bI (B B0 : Nat) : Nat → Nat
  | 0 => B0
  | n + 1 => 5 * (B * bI B B0 n)
/-- what is asked for N steps -/
structure Rn (L B M0 B0 N : Nat) (ps : List Plc) (h : List Q2) : Prop where
  w : Wz L B ps
  len : h.length = ps.length
  sz : ∀ x ∈ h, Sz M0 B0 x
  nn : ∀ x ∈ h, 0 ≤ x.1
  fit : ∀ n, n ≤ N → Fit L (mI L M0 n) B (bI B B0 n) 5
section
variable {S : Store} {ps : List Plc} {h : List Q2} {L B M0 B0 N : Nat}
theorem stQ_sz (r : Rn L B M0 B0 N ps h) : ∀ n, ∀ x ∈ stQ ps h n, Sz (mI L M0 n) (bI B B0 n) x
  | 0, x, hx => r.sz x hx
  | n + 1, x, hx => behQ_sz r.w (best_pick r.w) (stQ_sz r n) x hx
theorem stQ_len (r : Rn L B M0 B0 N ps h) : ∀ n, (stQ ps h n).length = ps.length
  | 0 => r.len
  | n + 1 => behQ_len (best_pick r.w)
theorem rn_q (r : Rn L B M0 B0 N ps h) : ∀ x ∈ h, Qk x := fun x hx => (r.sz x hx).fit2 (r.fit 0 (Nat.zero_le _))
theorem pkS_succ {n : Nat} : pkS ps h (n + 1) = pkS ps h n ++ [bestP ps (stQ ps h n)] := by
  unfold pkS
  rw [List.range_succ, List.map_append]
  rfl
theorem pkS_len {n : Nat} : (pkS ps h n).length = n := by simp -implicitDefEqProofs [pkS]
theorem toldR {d : D} {e : Q2 → D} (r : Rn L B M0 B0 N ps h) (n2 : ∀ x, Num (e x) x) (hd : Sq S d (h.map e)) : D_told_amounts [tb ps, d] S = .ok (.lst (h.map rt)) S := told_eval n2 hd r.len r.w.n.2 r.nn (rn_q r)
theorem set_app {J : Store} {ds x : List D} : (S ++ ds :: J).set S.length x = S ++ x :: J := by
  rw [List.set_append_right _ _ (Nat.le_refl _), Nat.sub_self]
  rfl
theorem get_app {J : Store} {ds : List D} : (S ++ ds :: J)[S.length]? = some ds := by
  rw [List.getElem?_append_right (Nat.le_refl _), Nat.sub_self]
  rfl
theorem get_app' {J : Store} {ds fs gs : List D} {c : Nat} (hc : S.length < c) (h : (S ++ ds :: J)[c]? = some fs) : (S ++ gs :: J)[c]? = some fs := by
  rw [List.getElem?_append_right (Nat.le_of_lt hc)] at h ⊢
  obtain ⟨k, hk⟩ : ∃ k, c - S.length = k + 1 := ⟨c - S.length - 1, by omega⟩
  rw [hk] at h ⊢
  exact h
/-- held: a list at first, a cell behind the first step -/
def Hd (S : Store) (J : Store) (hd : D) (ds : List D) : Prop := hd = .lst ds ∨ ∃ c, S.length < c ∧ hd = .cell c ∧ ∀ x, (S ++ x :: J)[c]? = some ds
end
end K40
set_option Elab.async false
set_option linter.all false
set_option maxRecDepth 100000
set_option maxHeartbeats 2000000
set_option autoImplicit false
namespace K40
open PySem L2 DL
/-! ### the told course -/
def stD (ps : List Plc) (h : List Q2) (i : Nat) : D := .lst ((stQ ps h i).map fr)
def stL (ps : List Plc) (h : List Q2) (n : Nat) : List D := (List.range (n + 1)).map (stD ps h)
section
variable {S : Store} {ps : List Plc} {h : List Q2} {L B M0 B0 N : Nat}
theorem atI_last {α : Type} {l : List α} {a : α} : L2.atI (l ++ [a]) (-1) = some a := by
  unfold L2.atI ixN
  have e : (l ++ [a]).length = l.length + 1 := by simp
  rw [e, if_neg (by omega), if_pos (by omega)]
  have e2 : ((-1 : Int) + ((l.length + 1 : Nat) : Int)).toNat = l.length := by omega
  show (l ++ [a])[((-1 : Int) + ((l.length + 1 : Nat) : Int)).toNat]? = some a
  rw [e2, List.getElem?_append_right (Nat.le_refl _), Nat.sub_self]
  rfl
theorem sPar_ok {es : List SD} {i j : Nat} {a : AF} {S S1 : Store} {d1 d2 : D} (h : a es S = .ok [d1, d2] S1) : sPar i j a es S = .next ((es.set i (.val d1)).set j (.val d2)) S1 := by rw [sPar_eq, h]
theorem gIx_last {c : Nat} {ds : List D} {x : D} (hc : S[c]? = some (ds ++ [x])) : gIx (.cell c) (.int (-1)) S = .ok x S := by
  have e : deref S (.cell c) = .lst (ds ++ [x]) := by
    unfold deref
    simp only [hc]
  unfold gIx
  rw [e]
  show (match L2.atI (ds ++ [x]) (-1) with | some d => Res.ok d S | none => .bad) = _
  rw [atI_last]
theorem get2a {a b : List D} : (S ++ [a, b])[S.length]? = some a := get_app
theorem get2b {a b : List D} : (S ++ [a, b])[S.length + 1]? = some b := by
  rw [List.getElem?_append_right (by omega), Nat.add_sub_cancel_left]
  rfl
theorem set2a {a b x : List D} : (S ++ [a, b]).set S.length x = S ++ [x, b] := set_app
theorem set2b {a b x : List D} : (S ++ [a, b]).set (S.length + 1) x = S ++ [a, x] := by
  rw [List.set_append_right _ _ (by omega), Nat.add_sub_cancel_left]
  rfl
theorem stL_succ {n : Nat} : stL ps h (n + 1) = stL ps h n ++ [stD ps h (n + 1)] := by
  unfold stL
  rw [List.range_succ, List.map_append]
  rfl
theorem stL_len {n : Nat} : (stL ps h n).length = n + 1 := by simp [stL]
theorem stL_end : ∀ n : Nat, ∃ l, stL ps h n = l ++ [stD ps h n]
  | 0 => ⟨[], rfl⟩
  | n + 1 => ⟨_, stL_succ⟩
/-! ### the first step that is not below -/
def fiD (A : Nat → Option D) : Nat → Nat → D
  | 0, _ => .non
  | k + 1, i => match A i with
    | some d => d
    | none => fiD A k (i + 1)
theorem fiD_some {A : Nat → Option D} {d : D} : ∀ (k i j : Nat), j < k → A (i + j) = some d → (∀ l, l < j → A (i + l) = none) → fiD A k i = d
  | 0, _, _, h, _, _ => absurd h (Nat.not_lt_zero _)
  | k + 1, i, 0, _, e, _ => by rw [fiD, show A i = some d from e]
  | k + 1, i, j + 1, h, e, q => by
    rw [fiD, show A i = none from q 0 (Nat.succ_pos _)]
    exact fiD_some k (i + 1) j (by omega) (by rw [show i + 1 + j = i + (j + 1) by omega]; exact e) fun l hl => by
      rw [show i + 1 + l = i + (l + 1) by omega]
      exact q (l + 1) (by omega)
theorem fiD_none {A : Nat → Option D} : ∀ (k i : Nat), (∀ l, l < k → A (i + l) = none) → fiD A k i = .non
  | 0, _, _ => rfl
  | k + 1, i, q => by
    rw [fiD, show A i = none from q 0 (Nat.succ_pos _)]
    exact fiD_none k (i + 1) fun l hl => by
      rw [show i + 1 + l = i + (l + 1) by omega]
      exact q (l + 1) (by omega)
def fiA (ps : List Plc) (h ws : List Q2) (x : Q2) (i : Nat) : Option D := if lt (dotQ (stQ ps h i) ws) x then none else some (.int i)
structure Wt (L B M0 B0 N M1 B1 : Nat) (ps : List Plc) (ws : List Q2) : Prop where
  len : ws.length = ps.length
  sz : ∀ x ∈ ws, Sz M1 B1 x
  nn : ∀ x ∈ ws, 0 ≤ x.1
  fit : ∀ n, n ≤ N → Fit (mI L M0 n) M1 (bI B B0 n) B1 6
theorem wt_q {M1 B1 : Nat} {ws : List Q2} (w : Wt L B M0 B0 N M1 B1 ps ws) : ∀ x ∈ ws, Qk x := fun x hx => (w.sz x hx).fit2 (w.fit 0 (Nat.zero_le _))
theorem dotst_q {M1 B1 : Nat} {ws : List Q2} (r : Rn L B M0 B0 N ps h) (w : Wt L B M0 B0 N M1 B1 ps ws) {n : Nat} (hn : n ≤ N) : Qk (dotQ (stQ ps h n) ws) :=
  (dotQ_sz (stQ_sz r n) w.sz (by rw [stQ_len r]; exact r.w.n.2)).fit3 (w.fit n hn) (show 5 ≤ 6 by decide)
theorem step_eval {d : D} {e : Q2 → D} (r : Rn L B M0 B0 N ps h) (n1 : ∀ x, Num (e x) x) (hd : Sq S d (h.map e)) : D_best_step [tb ps, d] S = .ok (.lst ((stQ ps h 1).map rt)) S := by
  have ht := toldR r n1 hd
  have f := r.fit 0 (Nat.zero_le _)
  have e1 := best_of_eval (S := S) (d := .lst (h.map rt)) f r.w num_rt .lst r.sz
  have e2 := made_eval (S := S) (d := .lst (h.map rt)) f r.w (best_pick (h := h) r.w) num_rt .lst r.sz
  unfold D_best_step b_best_step
  simp -implicitDefEqProofs [fnD_eq, startD, need_table_eval, ht, e1, e2, stQ]
end
end K40
set_option Elab.async false
set_option linter.all false
set_option maxRecDepth 100000
set_option maxHeartbeats 2000000
set_option autoImplicit false
namespace K40
open PySem L2 DL
/-! ### the bag: cell c of S0 alone changes -/
def Bx (S0 : Store) (c : Nat) (k : Int) (S : Store) : Prop := ∃ a b r : Int, S = S0.set c [.int a, .int b, .int r] ∧ c < S0.length ∧ 0 ≤ a ∧ 0 ≤ b ∧ b < 2147483648 ∧ 0 ≤ r ∧ r ≤ k
section
variable {S S0 : Store} {c : Nat} {k : Int}
theorem up8 {n : Nat} {i : Int} (h : i.natAbs < 2 ^ n) (l : n ≤ 8000) : i.natAbs < 2 ^ 8000 := Nat.lt_of_lt_of_le h (Nat.pow_le_pow_right (by decide) l)
theorem Bx.mono {l : Int} (h : Bx S0 c k S) (hl : k ≤ l) : Bx S0 c l S := by
  obtain ⟨a, b, r, h0, h1, h2, h3, h4, h5, h6⟩ := h
  exact ⟨a, b, r, h0, h1, h2, h3, h4, h5, by omega⟩
theorem Bx.len (h : Bx S0 c k S) : S.length = S0.length := by
  obtain ⟨a, b, r, rfl, _⟩ := h
  exact List.length_set
theorem Bx.get {j : Nat} (h : Bx S0 c k S) (hj : j ≠ c) : S[j]? = S0[j]? := by
  obtain ⟨a, b, r, rfl, _⟩ := h
  exact List.getElem?_set_ne (Ne.symm hj)
theorem Bx.app {J : Store} (h : Bx S0 c k S) : Bx (S0 ++ J) c k (S ++ J) := by
  obtain ⟨a, b, r, rfl, h1, h2⟩ := h
  exact ⟨a, b, r, by rw [List.set_append_left _ _ h1], by rw [List.length_append]; omega, h2⟩
theorem sStore_eq {fo fi fe : EF} {es : List SD} : sStore fo fi fe es S = (fe es S).toS es fun d S1 => (fo es S1).toS es fun o S2 => (fi es S2).toS es fun i S3 => match o, i with
  | .cell c, .int k => match S3[c]? with
    | some ds => match ixN ds.length k with
      | some j => .next es (S3.set c (ds.set j d))
      | none => .bad
    | none => .bad
  | _, _ => .bad := rfl
theorem ixN30 : ixN 3 0 = some 0 := by decide
theorem ixN32 : ixN 3 2 = some 2 := by decide
theorem c0 {a b r : D} (h : S[c]? = some [a, b, r]) : gIx (.cell c) (.int 0) S = .ok a S := gIx_cell (i := 0) h rfl
theorem c1 {a b r : D} (h : S[c]? = some [a, b, r]) : gIx (.cell c) (.int 1) S = .ok b S := gIx_cell (i := 1) h rfl
theorem c2 {a b r : D} (h : S[c]? = some [a, b, r]) : gIx (.cell c) (.int 2) S = .ok r S := gIx_cell (i := 2) h rfl
theorem take_eval {w : Int} (h : Bx S0 c k S) (hk : k ≤ 1000000000) (hw : 0 < w) (hw2 : w.natAbs < 2 ^ 8000) :
    ∃ v S', D__law_take [.cell c, .int w] S = .ok (.int v) S' ∧ 0 ≤ v ∧ v < w ∧ Bx S0 c (k + 1) S' := by
  obtain ⟨a, b, r, hS, hc0, ha, hb, hb2, hr, hr2⟩ := h
  have hc : S[c]? = some [.int a, .int b, .int r] := by
    rw [hS]
    exact List.getElem?_set_self hc0
  have ss : ∀ x, S.set c x = S0.set c x := fun x => by rw [hS, List.set_set]
  by_cases h0 : 0 < a
  · refine ⟨a % w, S.set c [.int (a / w), .int b, .int r], ?_, Int.emod_nonneg _ (by omega), Int.emod_lt_of_pos _ hw, ⟨a / w, b, r, ss _, hc0, Int.ediv_nonneg ha (by omega), hb, hb2, hr, by omega⟩⟩
    unfold D__law_take b__law_take
    simp -implicitDefEqProofs [fnD_eq, startD, sNil, c0 hc, h0, iMod_ok hw, iDiv_ok hw (bits_small hw2), sStore_eq, hc, ixN30]
  · let S2 : Store := S.set c [.int a, .int b, .int (r + 1)]
    have hc2 : S2[c]? = some [.int a, .int b, .int (r + 1)] := List.getElem?_set_self (List.getElem?_eq_some_iff.mp hc).1
    have hB : Bx S0 c (k + 1) S2 := ⟨a, b, r + 1, ss _, hc0, ha, hb, hb2, by omega, by omega⟩
    let u : Int := (b + 15490523 * (r + 1) + 2305) ^ 5 % 2147483647
    let v : Int := (u + 104711 * (r + 1)) ^ 3 % 2147483587
    have hu0 : 0 ≤ u := Int.emod_nonneg _ (by decide)
    have hu1 : u < 2147483647 := Int.emod_lt_of_pos _ (by decide)
    have hv0 : 0 ≤ v := Int.emod_nonneg _ (by decide)
    have m1 := iMul_ok (S := S2) (i := 15490523) (j := r + 1) (by
      have := bits_lt (i := r + 1) (n := 64) (by omega) (by decide)
      have := bits_lt (i := 15490523) (n := 64) (by decide) (by decide)
      omega)
    have m2 := iMul_ok (S := S2) (i := 104711) (j := r + 1) (by
      have := bits_lt (i := r + 1) (n := 64) (by omega) (by decide)
      have := bits_lt (i := 104711) (n := 64) (by decide) (by decide)
      omega)
    have q1 : iMod (.int ((b + 15490523 * (r + 1) + 2305) ^ 5)) (.int 2147483647) S2 = .ok (.int u) S2 := iMod_ok (by decide)
    have q2 : iMod (.int ((u + 104711 * (r + 1)) ^ 3)) (.int 2147483587) S2 = .ok (.int v) S2 := iMod_ok (by decide)
    have q3 := iDiv_ok (S := S2) (i := v) (j := 32) (by decide) (bits_small (up8 (n := 6) (by decide) (by decide)))
    have q4 := iMod_ok (S := S2) (i := v / 32) (j := w) hw
    have p1' : iPow (.int (b + 15490523 * (r + 1) + 2305)) (.int 5) S2 = .ok (.int ((b + 15490523 * (r + 1) + 2305) ^ 5)) S2 := iPow_ok (S := S2) (i := b + 15490523 * (r + 1) + 2305) (j := 5) (by decide) (by decide) (by omega)
    have p2' : iPow (.int (u + 104711 * (r + 1))) (.int 3) S2 = .ok (.int ((u + 104711 * (r + 1)) ^ 3)) S2 := iPow_ok (S := S2) (i := u + 104711 * (r + 1)) (j := 3) (by decide) (by decide) (by omega)
    refine ⟨v / 32 % w, S2, ?_, Int.emod_nonneg _ (by omega), Int.emod_lt_of_pos _ hw, hB⟩
    unfold D__law_take b__law_take
    have k1 := c1 hc2
    have k2 := c2 hc2
    have s2 : S.set c [.int a, .int b, .int (r + 1)] = S2 := rfl
    clear_value S2
    clear_value u
    clear_value v
    simp -implicitDefEqProofs [fnD_eq, startD, sNil, c0 hc, c2 hc, h0, sStore_eq, hc, ixN32, s2, k1, k2, m1, m2, p1', p2', q1, q2, q3, q4]
/-! ### numbers drawn -/
def mn : List Q2 := [(0, 1), (0, 1), (1, 1), (1, 1), (2, 1), (3, 1), (1, 2), (2, 3), (5, 4), (0, 1), (1, 1), (1000000000000, 7)]
structure Nu (x : Q2) : Prop where
  sz : Sz 84 1000000000000 x
  nn : 0 ≤ x.1
theorem mn_ok : ∀ x ∈ mn, Nu x := by
  have h : ∀ x ∈ mn, (0 < x.2 ∧ Int.gcd x.1 x.2 = 1 ∧ x.2 ∣ ((84 : Nat) : Int) ∧ x.1.natAbs ≤ 1000000000000 * x.2.natAbs) ∧ 0 ≤ x.1 := by decide +kernel
  exact fun x hx => ⟨⟨(h x hx).1.1, (h x hx).1.2.1, (h x hx).1.2.2.1, (h x hx).1.2.2.2⟩, (h x hx).2⟩
theorem pw12 {S : Store} : iPow (.int 10) (.int 12) S = .ok (.int 1000000000000) S := iPow_ok (i := 10) (j := 12) (by decide) (by decide) (by decide)
theorem number_eval (h : Bx S0 c k S) (hk : k ≤ 900000000) : ∃ x S', D__law_number [.cell c] S = .ok (fr x) S' ∧ Nu x ∧ Bx S0 c (k + 1) S' := by
  obtain ⟨w, S1, e1, w0, w1, B1⟩ := take_eval (w := 12) h (by omega) (by decide) (up8 (n := 5) (by decide) (by decide))
  obtain ⟨j, rfl⟩ := Int.eq_ofNat_of_zero_le w0
  have hj : j < mn.length := by
    show j < 12
    omega
  have hg := getD_some (d := ((0, 1) : Q2)) hj
  refine ⟨mn.getD j (0, 1), S1, ?_, mn_ok _ (List.mem_of_getElem? hg), B1⟩
  have hx := ixL (f := fr) (S := S1) hg
  have hm : D.lst (mn.map fr) = D.lst [.tup [.int 0, .int 1], .tup [.int 0, .int 1], .tup [.int 1, .int 1], .tup [.int 1, .int 1], .tup [.int 2, .int 1], .tup [.int 3, .int 1], .tup [.int 1, .int 2], .tup [.int 2, .int 3], .tup [.int 5, .int 4], .tup [.int 0, .int 1], .tup [.int 1, .int 1], .tup [.int 1000000000000, .int 7]] := rfl
  rw [hm] at hx
  generalize fr (mn.getD j (0, 1)) = y at hx ⊢
  have e1' : D__law_take [.cell c, .int 12] S = .ok (.int (j : Int)) S1 := e1
  have hx' : gIx (D.lst [.tup [.int 0, .int 1], .tup [.int 0, .int 1], .tup [.int 1, .int 1], .tup [.int 1, .int 1], .tup [.int 2, .int 1], .tup [.int 3, .int 1], .tup [.int 1, .int 2], .tup [.int 2, .int 3], .tup [.int 5, .int 4], .tup [.int 0, .int 1], .tup [.int 1, .int 1], .tup [.int 1000000000000, .int 7]]) (.int (j : Int)) S1 = .ok y S1 := hx
  unfold D__law_number b__law_number
  simp -implicitDefEqProofs [fnD_eq, startD, pw12, e1', hx']
theorem givens_eval {es : List SD} {i j : Nat} {xs : List Q2} (hi : es[i]? = some (.val (.lst (xs.map fr)))) (hij : i ≠ j) (hj : j < es.length) (hv : noAcc es [j] = true) (hl : xs.length < 1000000) (hq : ∀ x ∈ xs, Qk x) :
    eLc false [j] (itSeq (eVar i)) (tgN j) eYes (eCall 1 D__law_given (aCons (eVar j) aNil)) es S = .ok (.lst (xs.map gv)) S := by
  have k1 : itSeq (eVar i) es S = .ok (xs.map fr) [] S := by simp [hi]
  have k3 := lcL_map (q := false) (g := []) (es := wipeD es [j]) (S := S) (t := tgN j) (c := eYes) (e := eCall 1 D__law_given (aCons (eVar j) aNil))
    fr gv (Gd.ok_nil S) xs [] fun x hx => by
      have hw : j < (wipeD es [j]).length := by simpa [wipeD] using hj
      have ev : ((wipeD es [j]).set j (SD.val (fr x)))[j]? = some (.val (fr x)) := List.getElem?_set_self hw
      have eg := given_eval (S := S) (hq x hx)
      refine ⟨(wipeD es [j]).set j (.val (fr x)), by simp [tgN_eq], by simp, ?_⟩
      generalize (wipeD es [j]).set j (SD.val (fr x)) = es1 at ev ⊢
      generalize fr x = y at ev eg ⊢
      simp -implicitDefEqProofs [ev, eg]
  rw [if_neg Bool.false_ne_true, List.nil_append] at k3
  exact eLc_run k1 (by rw [List.length_map]; exact hl) hv k3
theorem Nu.q {x : Q2} (h : Nu x) : Qk x := h.sz.qk (by decide) (by decide +kernel) (by decide +kernel)
end
end K40
set_option Elab.async false
set_option linter.all false
set_option maxRecDepth 100000
set_option maxHeartbeats 2000000
set_option autoImplicit false
namespace K40
open PySem L2 DL
/-! ### tables made -/
def alS : Str := "abcdefghijklmnopqrstuvwxyz"
def dgS : Str := "0123456789"
def okN (z : Str) : Bool := match z.cps.toList with
  | [] => false
  | c :: cs => decide (cs.length < 8) && decide (c ∈ alS.cps.toList) && (c :: cs).all fun c => decide (c ∈ (alS ++ dgS).cps.toList)
section
variable {S : Store} {ps : List Plc}
theorem gIn_own {z : Str} (h : Own z) : gIn true (.str z) (.tup [.str "steerer", .str "foe"]) S = .ok (.bl false) S := by
  rcases h with rfl | rfl <;> kernel_rfl
theorem need_owner_eval {z : Str} (h : Own z) : D_need_owner [.str z] S = .ok .non S := by
  unfold D_need_owner b_need_owner
  simp -implicitDefEqProofs [fnD_eq, startD, gIn_own h, sNil]
theorem is_name_eval {z : Str} (h : okN z = true) : D_is_name [.str z] S = .ok (.bl true) S := by
  unfold okN at h
  split at h
  · cases h
  rename_i c cs hz
  rw [Bool.and_eq_true, Bool.and_eq_true, decide_eq_true_iff, decide_eq_true_iff, List.all_eq_true] at h
  obtain ⟨⟨h1, h2⟩, h3⟩ := h
  have hl : z.length = cs.length + 1 := by
    show z.cps.size = _
    rw [← Array.length_toList, hz]
    rfl
  have gl : gLen (.str z) S = .ok (.int (cs.length + 1 : Nat)) S := by
    show (if z.length ≤ 16777216 then Res.ok (.int z.length) S else .bad) = _
    rw [if_pos (by omega), hl]
  have gi : gIx (.str z) (.int 0) S = .ok (.str ⟨#[c]⟩) S := by
    show (match L2.atI z.cps.toList 0 with | some c => if z.length ≤ 16777216 then Res.ok (.str ⟨#[c]⟩) S else .bad | none => .bad) = _
    rw [hz, show L2.atI (c :: cs) 0 = some c from atI_nat (i := 0) rfl]
    simp only
    rw [if_pos (by omega)]
  have g1 : gIn true (.str ⟨#[c]⟩) (.str "abcdefghijklmnopqrstuvwxyz") S = .ok (.bl false) S := by
    show Res.ok (.bl (xor true (decide (c ∈ alS.cps.toList)))) S = _
    rw [decide_eq_true h2]
    rfl
  have k1 : itSeq (eVar 0) [.val (.str z), .no] S = .ok ((c :: cs).map fun c => D.str ⟨#[c]⟩) [] S := by
    rw [← hz]
    rfl
  have sc : sCat (.str "abcdefghijklmnopqrstuvwxyz") (.str "0123456789") S = .ok (.str (alS ++ dgS)) S := by
    show (if alS.length + dgS.length ≤ 16777216 then Res.ok (.str (alS ++ dgS)) S else .bad) = _
    rw [if_pos (by decide +kernel)]
  have k3 := lcL_map (q := false) (g := []) (es := [.val (.str z), .no]) (S := S) (t := tgN 1) (c := eYes) (e := eOp2 (gIn false) (eVar 1) (eOp2 sCat (eC (.str "abcdefghijklmnopqrstuvwxyz")) (eC (.str "0123456789"))))
    (fun c => D.str ⟨#[c]⟩) (fun _ => D.bl true) (Gd.ok_nil S) (c :: cs) [] fun x hx => by
      have g2 : gIn false (.str ⟨#[x]⟩) (.str (alS ++ dgS)) S = .ok (.bl true) S := by
        show Res.ok (.bl (xor false (decide (x ∈ (alS ++ dgS).cps.toList)))) S = _
        have := h3 x hx
        rw [this]
        rfl
      exact ⟨[.val (.str z), .val (.str ⟨#[x]⟩)], by simp, by simp, by simp -implicitDefEqProofs [sc, g2]⟩
  rw [if_neg Bool.false_ne_true, List.nil_append] at k3
  have k4 := eLc_run (vs := [1]) k1 (by rw [List.length_map, List.length_cons]; omega) (by rfl) (by simpa [wipeD] using k3)
  have ga : gAll (.lst (.bl true :: cs.map fun _ => .bl true)) S = .ok (.bl true) S := gAll_true (S := S) (xs := c :: cs)
  have l8 : ((cs.length + 1 : Nat) : Int) ≤ 8 := by omega
  have l1 : (1 : Int) ≤ ((cs.length + 1 : Nat) : Int) := by omega
  generalize ((cs.length + 1 : Nat) : Int) = m at gl l8 l1
  unfold D_is_name b_is_name
  simp -implicitDefEqProofs [-eLc_eq, -itSeq_eq, fnD_eq, startD, gl, gi, g1, k4, ga, sNil, l8, l1]
theorem are_rows_eval {d : D} {rows : List (List Q2)} {rowE : List Q2 → D} {e2 : Q2 → D} {n : Nat} (n2 : ∀ x, Num (e2 x) x) (hd : Sq S d (rows.map rowE)) (hr : ∀ r ∈ rows, Sq S (rowE r) (r.map e2)) (h1 : 1 ≤ rows.length) (h4 : rows.length ≤ 4) (hn : n ≤ 5) (hq : ∀ r ∈ rows, r.length = n ∧ ∀ x ∈ r, 0 ≤ x.1) :
    D_are_rows [d, .int n] S = .ok (.bl true) S := by
  obtain ⟨g, k1, k2⟩ := hd.it (es := [.val d, .val (.int n), .no]) (f := eVar 0) (S0 := S) rfl
  have k3 := lcL_map (q := false) (g := g) (es := [.val d, .val (.int n), .no]) (S := S) (t := tgN 2) (c := eYes) (e := eCall 2 D_are_amounts (aCons (eVar 2) (aCons (eVar 1) aNil)))
    rowE (fun _ => D.bl true) k2 rows [] fun r hm => by
      have := are_eval (S := S) n2 (hr r hm) (hq r hm).1 (by omega) (hq r hm).2
      exact ⟨[.val d, .val (.int n), .val (rowE r)], by simp, by simp, by simp -implicitDefEqProofs [this]⟩
  rw [if_neg Bool.false_ne_true, List.nil_append] at k3
  have k4 := eLc_run (vs := [2]) k1 (by rw [List.length_map]; omega) (by rfl) (by simpa [wipeD] using k3)
  have e0 : gLen d S = .ok (.int rows.length) S := by rw [hd.len, List.length_map]
  have ga := gAll_true (S := S) (xs := rows)
  have l8 : (rows.length : Int) ≤ 4 := by omega
  have l1 : (1 : Int) ≤ (rows.length : Int) := by omega
  have il := islist_sq (S := S) hd
  generalize D.lst (rows.map fun _ => D.bl true) = q at k4 ga
  unfold D_are_rows b_are_rows
  simp -implicitDefEqProofs [-eLc_eq, -itSeq_eq, fnD_eq, startD, il, e0, k4, ga, sNil, l8, l1]
theorem told_place_eval {d rowd : D} {p : Plc} {rowE : List Q2 → D} {e2 : Q2 → D} {n : Nat} {nms : D} (hd : d = .lst [.str p.1, .str p.2.1, rowd] ∨ d = .tup [.str p.1, .str p.2.1, rowd]) (n2 : ∀ x, Num (e2 x) x) (hr : Sq S rowd (p.2.2.map rowE)) (hre : ∀ r ∈ p.2.2, Sq S (rowE r) (r.map e2))
    (hnm : okN p.1 = true) (hin : gIn false (.str p.1) nms S = .ok (.bl false) S) (ho : Own p.2.1) (h1 : 1 ≤ p.2.2.length) (h4 : p.2.2.length ≤ 4) (hn : n ≤ 5) (hq : ∀ r ∈ p.2.2, r.length = n ∧ ∀ x ∈ r, Qk x ∧ 0 ≤ x.1) :
    D_told_place [d, nms, .int n] S = .ok (plT p) S := by
  have ar := are_rows_eval (S := S) n2 hr hre h1 h4 hn fun r hm => ⟨(hq r hm).1, fun x hx => ((hq r hm).2 x hx).2⟩
  have isn := is_name_eval (S := S) hnm
  have now := need_owner_eval (S := S) ho
  have il : D_is_list [d] S = .ok (.bl true) S := by
    rcases hd with rfl | rfl
    · exact islist_sq .lst
    · exact islist_sq .tup
  have gl : gLen d S = .ok (.int 3) S := by
    rcases hd with rfl | rfl <;> rfl
  have tg : tgT 3 (tsCons (tgN 3) (tsCons (tgN 4) (tsCons (tgN 5) tsNil))) d [.val d, .val nms, .val (.int n), .no, .no, .no, .no, .no] S = some [.val d, .val nms, .val (.int n), .val (.str p.1), .val (.str p.2.1), .val rowd, .no, .no] := by
    rcases hd with rfl | rfl <;> simp
  let es : List SD := [.val d, .val nms, .val (.int n), .val (.str p.1), .val (.str p.2.1), .val rowd, .no, .no]
  obtain ⟨g, k1, k2⟩ := hr.it (es := es) (f := eVar 5) (S0 := S) rfl
  have k3 := lcL_map (q := false) (g := g) (es := es) (S := S) (t := tgN 7) (c := eYes) (e := eOp1 gTupOf (eLc false [6] (itSeq (eVar 7)) (tgN 6) eYes (eCall 1 D_as_ratio (aCons (eVar 6) aNil))))
    rowE rT k2 p.2.2 [] fun r hm => by
      refine ⟨es.set 7 (.val (rowE r)), by simp [es], by simp, ?_⟩
      obtain ⟨g', j1, j2⟩ := (hre r hm).it (es := es.set 7 (.val (rowE r))) (f := eVar 7) (S0 := S) rfl
      have j3 := lcL_map (q := false) (g := g') (es := es.set 7 (.val (rowE r))) (S := S) (t := tgN 6) (c := eYes) (e := eCall 1 D_as_ratio (aCons (eVar 6) aNil))
        e2 rt j2 r [] fun x hx => by
          have ea := asr_eval (S := S) ((hq r hm).2 x hx).1 (n2 x)
          exact ⟨(es.set 7 (.val (rowE r))).set 6 (.val (e2 x)), by simp [es], by simp, by
            simp only [es, List.set_cons_succ, List.set_cons_zero]
            simp -implicitDefEqProofs [ea]⟩
      rw [if_neg Bool.false_ne_true, List.nil_append] at j3
      have j4 := eLc_run (vs := [6]) j1 (by rw [List.length_map, (hq r hm).1]; omega) (by rfl) (show lcL false g' (tgN 6) eYes _ (wipeD (es.set 7 (.val (rowE r))) [6]) _ S [] = _ from j3)
      rw [eOp1_eq, j4, Res.bind_ok, gTupOf_lst, Res.nox_ok]
      rfl
  rw [if_neg Bool.false_ne_true, List.nil_append] at k3
  have k4 := eLc_run (vs := [7]) k1 (by rw [List.length_map]; omega) (by rfl) (show lcL false g (tgN 7) eYes _ (wipeD es [7]) _ S [] = _ from k3)
  have k5 : eOp1 gTupOf (eLc false [7] (itSeq (eVar 5)) (tgN 7) eYes (eOp1 gTupOf (eLc false [6] (itSeq (eVar 7)) (tgN 6) eYes (eCall 1 D_as_ratio (aCons (eVar 6) aNil))))) es S = .ok (.tup (p.2.2.map rT)) S := by rw [eOp1_eq, k4, Res.bind_ok, gTupOf_lst, Res.nox_ok]
  have n3 : gNe (.int 3) (.int 3) S = .ok (.bl false) S := gNe_same (Pv.self (n := 1) (by decide) rfl) (Pv.self (n := 1) (by decide) rfl)
  have fz : es.map frz1 = es := rfl
  simp only [es] at k5 fz
  unfold D_told_place b_told_place plT
  generalize D.tup (p.2.2.map rT) = tr at k5 ⊢
  generalize D.str p.1 = nm at *
  generalize D.str p.2.1 = ow at *
  have t3' : ∀ es', eVar 0 (SD.val d :: es') S = .ok d S := fun _ => rfl
  simp -implicitDefEqProofs [-eLc_eq, -itSeq_eq, -eOp1_eq, fnD_eq, startD, il, eOp1_eq (g := gLen), gl, n3, tg, isn, hin, now, ar, sNil, k5, frz1]
end
end K40
set_option Elab.async false
set_option linter.all false
set_option maxRecDepth 100000
set_option maxHeartbeats 2000000
set_option autoImplicit false
namespace K40
open PySem L2 DL
def cnt (ls : List Nat) : Nat := ls.foldl (· * ·) 1
def ownP (z : Str) (ps : List Plc) : List Plc := ps.map fun p => (p.1, z, p.2.2)
/-- what a table is made of -/
structure Tb (ps : List Plc) : Prop where
  nms : ∀ (S : Store) (j : Nat) (p : Plc), ps[j]? = some p → okN p.1 = true ∧ gIn false (.str p.1) (.lst ((ps.take j).map fun q => .str q.1)) S = .ok (.bl false) S
  cn : cnt (ps.map fun p => p.2.2.length) ≤ 100
  nn : ∀ p ∈ ps, ∀ r ∈ p.2.2, ∀ x ∈ r, Qk x ∧ 0 ≤ x.1
section
variable {S : Store} {ps : List Plc} {L B : Nat}
theorem count_eval {ls : List Nat} (h4 : ∀ n ∈ ls, n ≤ 4) (h5 : ls.length ≤ 5) : D_count_picks [.lst (ls.map fun (n : Nat) => .int n)] S = .ok (.int (cnt ls : Nat)) S := by
  obtain ⟨es', S', q1, q2⟩ := forL_run (g := []) (t := tgN 2) (b := sAsg (tgN 1) (eOp2 iMul (eVar 1) (eVar 2))) (fun (n : Nat) => D.int n)
    (fun i es S' => S' = S ∧ cnt (ls.take i) ≤ 4 ^ i ∧ ∃ u, es = [.val (.lst (ls.map fun (n : Nat) => .int n)), .val (.int (cnt (ls.take i) : Nat)), u]) (fun _ _ S' _ => Gd.ok_nil S') ls 0 [.val (.lst (ls.map fun (n : Nat) => .int n)), .val (.int 1), .no] S ⟨rfl, Nat.le_refl 1, _, rfl⟩ fun j n es S' hj q => by
      obtain ⟨rfl, hc, u, rfl⟩ := q
      rw [Nat.zero_add] at hc ⊢
      have hjl := (List.getElem?_eq_some_iff.mp hj).1
      have hn := h4 n (List.mem_of_getElem? hj)
      have et : cnt (ls.take (j + 1)) = cnt (ls.take j) * n := by
        rw [List.take_add_one, hj]
        simp [cnt]
      have p5 : 4 ^ j ≤ 4 ^ 5 := Nat.pow_le_pow_right (by decide) (by omega)
      have e5 : (4 : Nat) ^ 5 = 1024 := by decide
      have m := iMul_ok (S := S') (i := (cnt (ls.take j) : Nat)) (j := (n : Nat)) (by
        have := bits_lt (i := (cnt (ls.take j) : Nat)) (n := 64) (by omega) (by decide)
        have := bits_lt (i := (n : Nat)) (n := 64) (by omega) (by decide)
        omega)
      refine ⟨[.val (.lst (ls.map fun (n : Nat) => .int n)), .val (.int (cnt (ls.take j) : Nat)), .val (.int n)], [.val (.lst (ls.map fun (n : Nat) => .int n)), .val (.int (cnt (ls.take (j + 1)) : Nat)), .val (.int n)], S', by simp, ?_, rfl, ?_, .val (.int n), rfl⟩
      · rw [et, Int.natCast_mul]
        simp -implicitDefEqProofs [m]
      · rw [et, Nat.pow_succ]
        exact Nat.mul_le_mul hc hn
  obtain ⟨rfl, _, u, rfl⟩ := q2
  rw [Nat.zero_add, List.take_length] at q1
  unfold D_count_picks b_count_picks
  simp -implicitDefEqProofs [fnD_eq, startD, q1]
theorem init_tb {pe : Plc → D} (w : Wz L B ps) (t : Tb ps) (tp : ∀ (j : Nat) (p : Plc), ps[j]? = some p → D_told_place [pe p, .lst ((ps.take j).map fun q => .str q.1), .int ps.length] S = .ok (plT p) S) :
    I_Tabled__initd_ [.lst (ps.map pe)] S = .ok [.tup (ps.map plT)] S := by
  have hl := w.n.2
  let P : D := .lst (ps.map pe)
  have cm : ∀ (f : Plc → D) (e : EF) (n : Nat) (u4 u7 : SD), n ≤ 5 → noAcc [SD.no, SD.no, SD.no, SD.no, SD.no] [] = true → (∀ (p : Plc) (es1 : List SD), es1 = [SD.slf, .val P, .acc ((ps.take n).map plT), u4, .val (.str p.1), .val (.str p.2.1), .val (.tup (p.2.2.map rT)), .no] → e es1 S = .ok (f p) S) →
      eLc false [4, 5, 6] (itSeq (eVarT 2)) (tgT 3 (tsCons (tgN 4) (tsCons (tgN 5) (tsCons (tgN 6) tsNil)))) eYes e [SD.slf, .val P, .acc ((ps.take n).map plT), u4, .no, .no, .no, .no] S = .ok (.lst ((ps.take n).map f)) S := fun f e n u4 u7 hn _ he => by
    let es : List SD := [SD.slf, .val P, .acc ((ps.take n).map plT), u4, .no, .no, .no, .no]
    have k1 : itSeq (eVarT 2) es S = .ok ((ps.take n).map plT) [] S := rfl
    have k3 := lcL_map (q := false) (g := []) (es := es) (S := S) (t := tgT 3 (tsCons (tgN 4) (tsCons (tgN 5) (tsCons (tgN 6) tsNil)))) (c := eYes) (e := e)
      plT f (Gd.ok_nil S) (ps.take n) [] fun p hp => ⟨[SD.slf, .val P, .acc ((ps.take n).map plT), u4, .val (.str p.1), .val (.str p.2.1), .val (.tup (p.2.2.map rT)), .no], by simp [plT, es], by simp, he p _ rfl⟩
    rw [if_neg Bool.false_ne_true, List.nil_append] at k3
    exact eLc_run (vs := [4, 5, 6]) k1 (by rw [List.length_map, List.length_take]; omega) (by rfl) (show lcL false [] _ eYes e (wipeD es [4, 5, 6]) _ S [] = _ from k3)
  let b0 : SF := sApp 2 (eCall 3 D_told_place (aCons (eVar 3) (aCons (eLc false [4, 5, 6] (itSeq (eVarT 2)) (tgT 3 (tsCons (tgN 4) (tsCons (tgN 5) (tsCons (tgN 6) tsNil)))) eYes (eVar 4)) (aCons (eOp1 gLen (eVar 1)) aNil))))
  have gl : gLen P S = .ok (.int ps.length) S := by
    have := (Sq.lst (S := S) (ds := ps.map pe)).len
    rwa [List.length_map] at this
  obtain ⟨es', S', q1, q2⟩ := forL_run (g := []) (t := tgN 3) (b := b0) pe
    (fun i es S' => S' = S ∧ ∃ u, es = [SD.slf, .val P, .acc ((ps.take i).map plT), u, .no, .no, .no, .no]) (fun _ _ S' _ => Gd.ok_nil S') ps 0 [SD.slf, .val P, .acc [], .no, .no, .no, .no, .no] S ⟨rfl, _, rfl⟩ fun j p es S' hj q => by
      obtain ⟨rfl, u, rfl⟩ := q
      rw [Nat.zero_add]
      have hjl := (List.getElem?_eq_some_iff.mp hj).1
      have c1 := cm (fun p => .str p.1) (eVar 4) j (.val (pe p)) .no (by omega) rfl fun p es1 h => by rw [h]; rfl
      have et : (ps.take (j + 1)).map plT = (ps.take j).map plT ++ [plT p] := by
        rw [List.take_add_one, hj, List.map_append]
        rfl
      have al : ((ps.take j).map plT).length < 1000000 := by
        rw [List.length_map, List.length_take]
        omega
      have tp' := tp j p hj
      refine ⟨[SD.slf, .val P, .acc ((ps.take j).map plT), .val (pe p), .no, .no, .no, .no], [SD.slf, .val P, .acc ((ps.take (j + 1)).map plT), .val (pe p), .no, .no, .no, .no], S', by simp, ?_, rfl, _, rfl⟩
      rw [et]
      generalize D.lst ((ps.take j).map fun q => D.str q.1) = nl at c1 tp'
      generalize (ps.take j).map plT = A at c1 al ⊢
      generalize P = P' at c1 gl ⊢
      simp only [b0]
      simp -implicitDefEqProofs [-eLc_eq, c1, gl, tp', al]
  obtain ⟨rfl, u, rfl⟩ := q2
  rw [Nat.zero_add, List.take_length] at q1
  have c2 := cm (fun p => .int p.2.2.length) (eOp1 gLen (eVar 6)) ps.length u .no hl rfl fun p es1 h => by
    rw [h]
    simp
  rw [List.take_length] at c2
  have em : ps.map (fun p => D.int p.2.2.length) = (ps.map fun p => p.2.2.length).map fun (n : Nat) => D.int n := by
    rw [List.map_map]
    rfl
  rw [em] at c2
  have ce := count_eval (S := S') (ls := ps.map fun p => p.2.2.length) (fun n hn => by
    obtain ⟨p, hp, rfl⟩ := List.mem_map.mp hn
    exact (w.rows p hp).2.1) (by rw [List.length_map]; exact hl)
  have c100 : ¬ ((cnt (ps.map fun p => p.2.2.length) : Nat) : Int) > 100 := by
    have := t.cn
    omega
  generalize ((cnt (ps.map fun p => p.2.2.length) : Nat) : Int) = cc at ce c100
  generalize D.lst ((ps.map fun p => p.2.2.length).map fun (n : Nat) => D.int n) = cl at c2 ce
  have il : D_is_list [P] S' = .ok (.bl true) S' := islist_sq (ds := ps.map pe) .lst
  have l1 : (1 : Int) ≤ (ps.length : Int) := by
    have := w.n.1
    omega
  have l5 : (ps.length : Int) ≤ 5 := by omega
  have it : itSeq (eVar 1) [SD.slf, .val P, .acc [], .no, .no, .no, .no, .no] S' = .ok (ps.map pe) [] S' := rfl
  have st : startI 8 [P] = [SD.slf, .val P, .no, .no, .no, .no, .no, .no] := rfl
  have main : b_Tabled__initd_ [SD.slf, .val P, .no, .no, .no, .no, .no, .no] S' = .next [SD.slf, .val P, .acc (ps.map plT), u, .no, .no, .no, .val (.int cc)] S' := by
    unfold b_Tabled__initd_
    simp only [b0] at q1
    generalize P = P' at *
    have a0 : sAcc 2 aNil [SD.slf, .val P', .no, .no, .no, .no, .no, .no] S' = .next [SD.slf, .val P', .acc [], .no, .no, .no, .no, .no] S' := by simp
    have cnd : sIf (eOr (eNot (eCall 1 D_is_list (aCons (eVar 1) aNil))) (eNot (eChain iLe iLe (eC (.int 1)) (eOp1 gLen (eVar 1)) (eC (.int 5))))) (sRaise 5 "value" (eVar 1)) sNil [SD.slf, .val P', .no, .no, .no, .no, .no, .no] S' = .next [SD.slf, .val P', .no, .no, .no, .no, .no, .no] S' := by
      simp -implicitDefEqProofs [il, gl, l1, l5, sNil]
    have ca : sAsg (tgN 7) (eCall 1 D_count_picks (aCons (eLc false [4, 5, 6] (itSeq (eVarT 2)) (tgT 3 (tsCons (tgN 4) (tsCons (tgN 5) (tsCons (tgN 6) tsNil)))) eYes (eOp1 gLen (eVar 6))) aNil)) [SD.slf, .val P', .acc (ps.map plT), u, .no, .no, .no, .no] S' = .next [SD.slf, .val P', .acc (ps.map plT), u, .no, .no, .no, .val (.int cc)] S' := by
      simp -implicitDefEqProofs [-eLc_eq, c2, ce]
    have cb : sIf (eOp2 iGt (eVar 7) (eC (.int 100))) (sRaise 10 "count" (eVar 7)) sNil [SD.slf, .val P', .acc (ps.map plT), u, .no, .no, .no, .val (.int cc)] S' = .next [SD.slf, .val P', .acc (ps.map plT), u, .no, .no, .no, .val (.int cc)] S' := by
      simp -implicitDefEqProofs [sNil, c100]
    rw [sSeq_eq, cnd, Fl.bind_next, sSeq_eq, a0, Fl.bind_next, sSeq_eq, sFor_eq, it]
    simp only
    rw [q1, Fl.bind_next, sSeq_eq, ca, Fl.bind_next, sSeq_eq, cb, Fl.bind_next, sPass_eq]
  unfold I_Tabled__initd_ initC
  rw [show startI 8 [D.lst (ps.map pe)] = [SD.slf, .val P, .no, .no, .no, .no, .no, .no] from rfl, main]
  rfl
theorem new_tb {pe : Plc → D} (w : Wz L B ps) (t : Tb ps) (tp : ∀ (j : Nat) (p : Plc), ps[j]? = some p → D_told_place [pe p, .lst ((ps.take j).map fun q => .str q.1), .int ps.length] S = .ok (plT p) S) :
    newC 1 1 1 I_Tabled__initd_ [.lst (ps.map pe)] S = .ok (tb ps) S := by
  unfold newC
  rw [init_tb w t tp]
  rfl
/-- handed over -/
def peG (p : Plc) : D := .tup [.str p.1, .str p.2.1, .lst (p.2.2.map fun r => .lst (r.map gv))]
theorem handed_eval (w : Wz L B ps) (t : Tb ps) : D__law_handed [spL ps] S = .ok (.lst (ps.map peG)) S := by
  have hl := w.n.2
  let b0 : SF := sApp 1 (eTup (aCons (eVar 2) (aCons (eVar 3) (aCons (eLc false [6] (itSeq (eVar 4)) (tgN 6) eYes (eLc false [5] (itSeq (eVar 6)) (tgN 5) eYes (eCall 1 D__law_given (aCons (eVar 5) aNil)))) aNil))))
  obtain ⟨es', S', q1, q2⟩ := forL_run (g := []) (t := tgT 3 (tsCons (tgN 2) (tsCons (tgN 3) (tsCons (tgN 4) tsNil)))) (b := b0) plL
    (fun i es S' => S' = S ∧ ∃ u v w', es = [.val (spL ps), .acc ((ps.take i).map peG), u, v, w', .no, .no]) (fun _ _ S' _ => Gd.ok_nil S') ps 0 [.val (spL ps), .acc [], .no, .no, .no, .no, .no] S ⟨rfl, _, _, _, rfl⟩ fun j p es S' hj q => by
      obtain ⟨rfl, u, v, w', rfl⟩ := q
      rw [Nat.zero_add]
      have hjl := (List.getElem?_eq_some_iff.mp hj).1
      have hp := List.mem_of_getElem? hj
      let es1 : List SD := [.val (spL ps), .acc ((ps.take j).map peG), .val (.str p.1), .val (.str p.2.1), .val (.lst (p.2.2.map fL)), .no, .no]
      have k1 : itSeq (eVar 4) es1 S' = .ok (p.2.2.map fL) [] S' := rfl
      have k3 := lcL_map (q := false) (g := []) (es := es1) (S := S') (t := tgN 6) (c := eYes) (e := eLc false [5] (itSeq (eVar 6)) (tgN 5) eYes (eCall 1 D__law_given (aCons (eVar 5) aNil)))
        fL (fun r => .lst (r.map gv)) (Gd.ok_nil S') p.2.2 [] fun r hr => by
          refine ⟨[.val (spL ps), .acc ((ps.take j).map peG), .val (.str p.1), .val (.str p.2.1), .val (.lst (p.2.2.map fL)), .no, .val (fL r)], by simp [es1], by simp, ?_⟩
          exact givens_eval (by rfl) (by decide) (by simp) (by rfl) (by
            have := ((w.rows p hp).2.2 r hr).1
            omega) fun x hx => (t.nn p hp r hr x hx).1
      rw [if_neg Bool.false_ne_true, List.nil_append] at k3
      have k4 := eLc_run (vs := [6]) k1 (by
        rw [List.length_map]
        have := (w.rows p hp).2.1
        omega) (by rfl) (show lcL false [] _ eYes _ (wipeD es1 [6]) _ S' [] = _ from k3)
      have et : (ps.take (j + 1)).map peG = (ps.take j).map peG ++ [peG p] := by
        rw [List.take_add_one, hj, List.map_append]
        rfl
      have al : ((ps.take j).map peG).length < 1000000 := by
        rw [List.length_map, List.length_take]
        omega
      refine ⟨es1, [.val (spL ps), .acc ((ps.take (j + 1)).map peG), .val (.str p.1), .val (.str p.2.1), .val (.lst (p.2.2.map fL)), .no, .no], S', by simp [plL, es1], ?_, rfl, _, _, _, rfl⟩
      rw [et]
      simp only [es1] at k4 ⊢
      generalize (ps.take j).map peG = A at k4 al ⊢
      generalize spL ps = sp at k4 ⊢
      simp only [b0]
      simp -implicitDefEqProofs [-eLc_eq, k4, al, peG]
  obtain ⟨rfl, u, v, w', rfl⟩ := q2
  rw [Nat.zero_add, List.take_length] at q1
  have it : itSeq (eVar 0) [SD.val (spL ps), .acc [], .no, .no, .no, .no, .no] S' = .ok (ps.map plL) [] S' := rfl
  simp only [b0] at q1
  unfold D__law_handed b__law_handed
  generalize spL ps = sp at q1 it ⊢
  simp -implicitDefEqProofs [-itSeq_eq, fnD_eq, startD, it, q1, frz1]
theorem tp_given (w : Wz L B ps) (t : Tb ps) (j : Nat) (p : Plc) (hj : ps[j]? = some p) : D_told_place [peG p, .lst ((ps.take j).map fun q => .str q.1), .int ps.length] S = .ok (plT p) S := by
  have hp := List.mem_of_getElem? hj
  have wr := w.rows p hp
  have tn := t.nms S j p hj
  exact told_place_eval (rowE := fun r => .lst (r.map gv)) (e2 := gv) (.inr rfl) num_gv .lst (fun _ _ => .lst) tn.1 tn.2 (w.own p hp) wr.1 wr.2.1 w.n.2 fun r hr => ⟨(wr.2.2 r hr).1, t.nn p hp r hr⟩
theorem table_eval (w : Wz L B ps) (t : Tb ps) : D__law_table [spL ps] S = .ok (tb ps) S := by
  have e1 := handed_eval (S := S) w t
  have e2 := new_tb (S := S) w t (tp_given w t)
  unfold D__law_table b__law_table
  simp -implicitDefEqProofs [fnD_eq, startD, e1, e2]
theorem own_wz {z : Str} (hz : Own z) (w : Wz L B ps) : Wz L B (ownP z ps) := by
  unfold ownP
  refine ⟨by rw [List.length_map]; exact w.n, fun p hp => ?_, fun p hp => ?_⟩
  · obtain ⟨q, hq, rfl⟩ := List.mem_map.mp hp
    exact hz
  · obtain ⟨q, hq, rfl⟩ := List.mem_map.mp hp
    rw [List.length_map]
    exact w.rows q hq
theorem own_tb {z : Str} (t : Tb ps) : Tb (ownP z ps) := by
  refine ⟨fun S j p hj => ?_, ?_, fun p hp => ?_⟩
  · unfold ownP at hj ⊢
    rw [List.getElem?_map] at hj
    cases hq : ps[j]? with
    | none => rw [hq] at hj; cases hj
    | some q =>
      rw [hq] at hj
      obtain rfl := Option.some.inj hj
      have := t.nms S j q hq
      rw [← List.map_take, List.map_map]
      exact this
  · have := t.cn
    unfold ownP
    rw [List.map_map]
    exact this
  · obtain ⟨q, hq, rfl⟩ := List.mem_map.mp hp
    exact t.nn q hq
theorem owned_eval {z : Str} (hz : Own z) (w : Wz L B ps) (t : Tb ps) : D_Table_owned [tb ps, .str z] S = .ok (tb (ownP z ps)) S := by
  have hl := w.n.2
  have w' := own_wz hz w
  have t' := own_tb (z := z) t
  have now := need_owner_eval (S := S) hz
  let es : List SD := [.val (tb ps), .val (.str z), .no, .no, .no]
  have k1 : itSeq (eOp1 (gSlot 1 0) (eVar 0)) es S = .ok (ps.map plT) [] S := by
    have : eOp1 (gSlot 1 0) (eVar 0) es S = .ok (.tup (ps.map plT)) S := by
      have e0 : eVar 0 es S = .ok (tb ps) S := rfl
      rw [eOp1_eq, e0, Res.bind_ok, tb_own, Res.nox_ok]
    rw [itSeq_eq, this]
    rfl
  have k3 := lcL_map (q := false) (g := []) (es := es) (S := S) (t := tgT 3 (tsCons (tgN 2) (tsCons (tgN 3) (tsCons (tgN 4) tsNil)))) (c := eYes) (e := eTup (aCons (eVar 2) (aCons (eVar 1) (aCons (eVar 4) aNil))))
    plT (fun p => plT (p.1, z, p.2.2)) (Gd.ok_nil S) ps [] fun p hp => ⟨[.val (tb ps), .val (.str z), .val (.str p.1), .val (.str p.2.1), .val (.tup (p.2.2.map rT))], by simp [es, plT], by simp, by simp [plT]⟩
  rw [if_neg Bool.false_ne_true, List.nil_append] at k3
  have k4 := eLc_run (vs := [2, 3, 4]) k1 (by rw [List.length_map]; omega) (by rfl) (show lcL false [] _ eYes _ (wipeD es [2, 3, 4]) _ S [] = _ from k3)
  have em : ps.map (fun p => plT (p.1, z, p.2.2)) = (ownP z ps).map plT := by
    unfold ownP
    rw [List.map_map]
    rfl
  rw [em] at k4
  have e2 := new_tb (S := S) (pe := plT) w' t' fun j p hj => by
    have hp := List.mem_of_getElem? hj
    have wr := w'.rows p hp
    have tn := t'.nms S j p hj
    exact told_place_eval (rowE := rT) (e2 := rt) (.inr rfl) num_rt .tup (fun _ _ => .tup) tn.1 tn.2 (w'.own p hp) wr.1 wr.2.1 w'.n.2 fun r hr => ⟨(wr.2.2 r hr).1, t'.nn p hp r hr⟩
  simp only [es] at k4
  generalize (ownP z ps).map plT = Q at k4 e2
  unfold D_Table_owned b_Table_owned
  generalize tb ps = T at k4 ⊢
  generalize tb (ownP z ps) = T2 at e2 ⊢
  generalize D.str z = zz at k4 now ⊢
  simp -implicitDefEqProofs [-eLc_eq, -itSeq_eq, fnD_eq, startD, now, k4, e2]
end
end K40
set_option Elab.async false
set_option linter.all false
set_option maxRecDepth 100000
set_option maxHeartbeats 2000000
set_option autoImplicit false
namespace K40
open PySem L2 DL
/-! ### drawn tables -/
abbrev BN : Nat := 1000000000000
structure Ze (B : Nat) (x : Q2) : Prop where
  sz : Sz 84 B x
  nn : 0 ≤ x.1
def nmA : List Str := ["a", "b", "c", "d", "e"]
def nmB : List Str := ["pit", "foe", "ab", "steerer", "up"]
def mxR (n : Nat) : Nat := [4, 4, 4, 3, 2].getD (n - 1) 0
structure Sp (B : Nat) (nb : List Str) (n : Nat) (ps : List Plc) : Prop where
  nms : ps.map (·.1) = nb.take ps.length
  own : ∀ p ∈ ps, Own p.2.1
  rows : ∀ p ∈ ps, 1 ≤ p.2.2.length ∧ p.2.2.length ≤ mxR n ∧ ∀ r ∈ p.2.2, r.length = n ∧ ∀ x ∈ r, Ze B x
theorem gIn_nm {S : Store} {z : Str} {l : List Str} (h : ((z :: l).map fun s => s.cps.toList).Nodup) (e : gIn false (.str z) (.lst (l.map .str)) S = .ok (.bl false) S) : gIn false (.str z) (.lst (l.map .str)) S = .ok (.bl false) S := e
theorem nm_ok {nb : List Str} (h : nb = nmA ∨ nb = nmB) : ∀ (j : Nat) (z : Str), nb[j]? = some z → okN z = true ∧ ∀ S : Store, gIn false (.str z) (.lst ((nb.take j).map .str)) S = .ok (.bl false) S := by
  intro j z hz
  rcases h with rfl | rfl
  · match j, hz with
    | 0, hz => cases hz; exact ⟨by decide +kernel, fun S => by kernel_rfl⟩
    | 1, hz => cases hz; exact ⟨by decide +kernel, fun S => by kernel_rfl⟩
    | 2, hz => cases hz; exact ⟨by decide +kernel, fun S => by kernel_rfl⟩
    | 3, hz => cases hz; exact ⟨by decide +kernel, fun S => by kernel_rfl⟩
    | 4, hz => cases hz; exact ⟨by decide +kernel, fun S => by kernel_rfl⟩
    | j + 5, hz => cases hz
  · match j, hz with
    | 0, hz => cases hz; exact ⟨by decide +kernel, fun S => by kernel_rfl⟩
    | 1, hz => cases hz; exact ⟨by decide +kernel, fun S => by kernel_rfl⟩
    | 2, hz => cases hz; exact ⟨by decide +kernel, fun S => by kernel_rfl⟩
    | 3, hz => cases hz; exact ⟨by decide +kernel, fun S => by kernel_rfl⟩
    | 4, hz => cases hz; exact ⟨by decide +kernel, fun S => by kernel_rfl⟩
    | j + 5, hz => cases hz
theorem cnt_le {m : Nat} : ∀ (ls : List Nat) (a : Nat), (∀ x ∈ ls, x ≤ m) → ls.foldl (· * ·) a ≤ a * m ^ ls.length
  | [], a, _ => by simp
  | x :: ls, a, h => by
    rw [List.foldl_cons, List.length_cons]
    refine Nat.le_trans (cnt_le ls (a * x) fun y hy => h y (List.mem_cons_of_mem _ hy)) ?_
    rw [Nat.pow_succ, Nat.mul_comm (m ^ ls.length) m, ← Nat.mul_assoc]
    exact Nat.mul_le_mul_right _ (Nat.mul_le_mul_left _ (h x List.mem_cons_self))
theorem Ze.q {B : Nat} {x : Q2} (hB : B ≤ BN) (h : Ze B x) : Qk x := (h.sz.mono (Nat.dvd_refl _) hB).qk (by decide) (by decide +kernel) (by decide +kernel)
theorem mxR_ok {n : Nat} (h1 : 1 ≤ n) (h5 : n ≤ 5) : mxR n ≤ 4 ∧ mxR n ^ n ≤ 100 ∧ 1 ≤ mxR n := by
  match n, h1, h5 with
  | 1, _, _ => decide
  | 2, _, _ => decide
  | 3, _, _ => decide
  | 4, _, _ => decide
  | 5, _, _ => decide
section
variable {S S0 : Store} {c : Nat} {k : Int} {ps : List Plc} {B n : Nat} {nb : List Str}
theorem Sp.tb (h : Sp B nb n ps) (hB : B ≤ BN) (hn : ps.length = n) (h1 : 1 ≤ n) (h5 : n ≤ 5) (hb : nb = nmA ∨ nb = nmB) : Tb ps := by
  refine ⟨fun S j p hj => ?_, ?_, fun p hp r hr x hx => ⟨(((h.rows p hp).2.2 r hr).2 x hx).q hB, (((h.rows p hp).2.2 r hr).2 x hx).nn⟩⟩
  · have hjl := (List.getElem?_eq_some_iff.mp hj).1
    have e1 : nb[j]? = some p.1 := by
      have : (ps.map (·.1))[j]? = some p.1 := by rw [List.getElem?_map, hj]; rfl
      rw [h.nms, List.getElem?_take_of_lt hjl] at this
      exact this
    have e2 : (ps.take j).map (fun q => D.str q.1) = (nb.take j).map .str := by
      have : (ps.take j).map (·.1) = nb.take j := by
        rw [List.map_take, h.nms, List.take_take, Nat.min_eq_left (by omega)]
      rw [← this, List.map_map]
      rfl
    rw [e2]
    have := nm_ok hb j p.1 e1
    exact ⟨this.1, this.2 S⟩
  · have := cnt_le (m := mxR n) (ps.map fun p => p.2.2.length) 1 fun x hx => by
      obtain ⟨p, hp, rfl⟩ := List.mem_map.mp hx
      exact (h.rows p hp).2.1
    rw [List.length_map, hn, Nat.one_mul] at this
    exact Nat.le_trans this (mxR_ok h1 h5).2.1
theorem Sp.wz (h : Sp B nb n ps) (hn : ps.length = n) (h1 : 1 ≤ n) (h5 : n ≤ 5) : Wz 84 B ps :=
  ⟨by omega, h.own, fun p hp => ⟨(h.rows p hp).1, Nat.le_trans (h.rows p hp).2.1 (mxR_ok h1 h5).1, fun r hr => ⟨by rw [((h.rows p hp).2.2 r hr).1, hn], fun x hx => (((h.rows p hp).2.2 r hr).2 x hx).sz⟩⟩⟩
/-! less great -/
def lg (x : Q2) : Q2 := nf (x.1 % 9) x.2
def lgP (p : Plc) : Plc := (p.1, p.2.1, p.2.2.map fun r => r.map lg)
theorem lg_ok {x : Q2} (h : Ze BN x) : Ze 8 (lg x) := by
  have hp := h.sz.pos
  have a0 : 0 ≤ x.1 % 9 := Int.emod_nonneg _ (by decide)
  have a9 : x.1 % 9 < 9 := Int.emod_lt_of_pos _ (by decide)
  obtain ⟨q, hq⟩ := h.sz.dv
  have o := nf_ok (a := x.1 % 9) hp
  obtain ⟨e1, _, e3⟩ := nf_parts (a := x.1 % 9) hp
  refine ⟨⟨o.1, o.2, nf_dv (c := x.1 % 9 * q) hp (by rw [hq, Int.mul_comm x.2 q, Int.mul_assoc]), nf_bd (B := 8) hp (by omega)⟩, ?_⟩
  show 0 ≤ (nf (x.1 % 9) x.2).1
  rw [e1] at a0
  exact Int.nonneg_of_mul_nonneg_right a0 e3 |> fun h => h
theorem lg_sp (h : Sp BN nb n ps) : Sp 8 nb n (ps.map lgP) := by
  refine ⟨by rw [List.map_map, List.length_map]; exact h.nms, fun p hp => ?_, fun p hp => ?_⟩
  · obtain ⟨q, hq, rfl⟩ := List.mem_map.mp hp
    exact h.own q hq
  · obtain ⟨q, hq, rfl⟩ := List.mem_map.mp hp
    obtain ⟨h1, h2, h3⟩ := h.rows q hq
    refine ⟨by simpa [lgP] using h1, by simpa [lgP] using h2, fun r hr => ?_⟩
    obtain ⟨r', hr', rfl⟩ := List.mem_map.mp hr
    refine ⟨by rw [List.length_map]; exact (h3 r' hr').1, fun x hx => ?_⟩
    obtain ⟨y, hy, rfl⟩ := List.mem_map.mp hx
    exact lg_ok ((h3 r' hr').2 y hy)
end
end K40
set_option Elab.async false
set_option linter.all false
set_option maxRecDepth 100000
set_option maxHeartbeats 2000000
set_option autoImplicit false
namespace K40
open PySem L2 DL
section
variable {S S0 : Store} {c : Nat} {k : Int}
theorem Nu.ze {x : Q2} (h : Nu x) : Ze BN x := ⟨h.sz, h.nn⟩
theorem nums_in {es : List SD} {i j n : Nat} (h : Bx S0 c k S) (hk : k + n ≤ 900000000) (hk0 : 0 ≤ k) (hn : n ≤ 5) (e0 : es[0]? = some (.val (.cell c))) (ei : es[i]? = some (.val (.int n))) (hj0 : j ≠ 0) (hv : noAcc es [j] = true) :
    ∃ (xs : List Q2) (S' : Store), eLc false [j] (itRange1 (aCons (eVar i) aNil)) (tgN j) eYes (eCall 1 D__law_number (aCons (eVar 0) aNil)) es S = .ok (.lst (xs.map fr)) S' ∧ xs.length = n ∧ (∀ x ∈ xs, Nu x) ∧ Bx S0 c (k + n) S' := by
  have k1 : itRange1 (aCons (eVar i) aNil) es S = .ok ((List.range n).map fun (i : Nat) => D.int i) [] S := range1_eval (by omega) (by simp [ei])
  have w0 : (wipeD es [j])[0]? = some (.val (.cell c)) := by
    show (es.set j SD.no)[0]? = _
    rw [List.getElem?_set_ne hj0, e0]
  obtain ⟨xs, S', q1, q2, q3, q4⟩ := lcL_draw (es := wipeD es [j]) (t := tgN j) (c := eYes) (e := eCall 1 D__law_number (aCons (eVar 0) aNil)) (fun (i : Nat) => D.int i) fr Nu (fun i S => i ≤ n ∧ Bx S0 c (k + (n - i : Nat)) S) (List.range n) 0 S [] ⟨by simp, by
      rw [List.length_range, Nat.zero_add, Nat.sub_self]
      exact h.mono (by omega)⟩ fun x hx l S1 hP => by
        obtain ⟨x', S2, e1, e2, e3⟩ := number_eval hP.2 (by omega)
        have w1 : ((wipeD es [j]).set j (.val (.int (x : Nat))))[0]? = some (.val (.cell c)) := by rw [List.getElem?_set_ne hj0, w0]
        refine ⟨(wipeD es [j]).set j (.val (.int x)), x', S2, by simp [tgN_eq], by simp, ?_, e2, by omega, e3.mono (by omega)⟩
        generalize (wipeD es [j]).set j (SD.val (.int (x : Nat))) = es1 at w1 ⊢
        simp -implicitDefEqProofs [w1, e1]
  refine ⟨xs, S', ?_, by rw [q2, List.length_range], q3, q4.2.mono (by omega)⟩
  exact eLc_run (q := false) (vs := [j]) k1 (by rw [List.length_map, List.length_range]; omega) hv (by rw [q1, List.nil_append])
theorem rows_in {n m : Nat} {u2 u5 u6 : SD} {nbD : D} (h : Bx S0 c k S) (hk : k + 100 ≤ 800000000) (hk0 : 0 ≤ k) (hn : n ≤ 5) (hm : m ≤ 4) (u7 : SD) :
    let es : List SD := [.val (.cell c), .val (.int 5), u2, .val (.int n), .val nbD, u5, .val (.int m), u7, .no, .no]
    ∃ (rs : List (List Q2)) (S' : Store), eLc false [9] (itRange1 (aCons (eVar 6) aNil)) (tgN 9) eYes (eLc false [8] (itRange1 (aCons (eVar 3) aNil)) (tgN 8) eYes (eCall 1 D__law_number (aCons (eVar 0) aNil))) es S = .ok (.lst (rs.map fL)) S' ∧ rs.length = m ∧ (∀ r ∈ rs, r.length = n ∧ ∀ x ∈ r, Ze BN x) ∧ Bx S0 c (k + 20) S' := by
  intro es
  have k1 : itRange1 (aCons (eVar 6) aNil) es S = .ok ((List.range m).map fun (i : Nat) => D.int i) [] S := range1_eval (by omega) (by simp [es])
  obtain ⟨rs, S', q1, q2, q3, q4⟩ := lcL_draw (es := es) (t := tgN 9) (c := eYes) (e := eLc false [8] (itRange1 (aCons (eVar 3) aNil)) (tgN 8) eYes (eCall 1 D__law_number (aCons (eVar 0) aNil))) (fun (i : Nat) => D.int i) fL (fun r => r.length = n ∧ ∀ x ∈ r, Ze BN x) (fun i S => i ≤ m ∧ Bx S0 c (k + (5 * (m - i) : Nat)) S) (List.range m) 0 S [] ⟨by simp, by
      rw [List.length_range, Nat.zero_add, Nat.sub_self]
      exact h.mono (by omega)⟩ fun x hx l S1 hP => by
        obtain ⟨xs, S2, e1, e2, e3, e4⟩ := nums_in (es := es.set 9 (.val (.int (x : Nat)))) (i := 3) (j := 8) (n := n) hP.2 (by omega) (by omega) hn (by rfl) (by rfl) (by decide) (by rfl)
        exact ⟨es.set 9 (.val (.int x)), xs, S2, by simp [es], by simp, e1, ⟨e2, fun x hx => (e3 x hx).ze⟩, by omega, e4.mono (by omega)⟩
  refine ⟨rs, S', ?_, by rw [q2, List.length_range], q3, q4.2.mono (by omega)⟩
  exact eLc_run (q := false) (vs := [9]) k1 (by rw [List.length_map, List.length_range]; omega) (by rfl) (show lcL false [] _ eYes _ (wipeD es [9]) _ S [] = _ by rw [show wipeD es [9] = es from rfl, q1, List.nil_append])
theorem gm_eval {n : Nat} (n1 : 1 ≤ n) (n5 : n ≤ 5) : gIx (.lst [.int 4, .int 4, .int 4, .int 3, .int 2]) (.int ((n : Int) - 1)) S = .ok (.int (mxR n : Nat)) S := by
  match n, n1, n5 with
  | 1, _, _ => exact gIx_lst (i := 0) rfl
  | 2, _, _ => exact gIx_lst (i := 1) rfl
  | 3, _, _ => exact gIx_lst (i := 2) rfl
  | 4, _, _ => exact gIx_lst (i := 3) rfl
  | 5, _, _ => exact gIx_lst (i := 4) rfl
theorem spec_eval (h : Bx S0 c k S) (hk : k ≤ 700000000) (hk0 : 0 ≤ k) :
    ∃ (n : Nat) (nb : List Str) (ps : List Plc) (S' : Store), D__law_spec [.cell c, .int 5] S = .ok (spL ps) S' ∧ 1 ≤ n ∧ n ≤ 5 ∧ ps.length = n ∧ (nb = nmA ∨ nb = nmB) ∧ Sp BN nb n ps ∧ Bx S0 c (k + 200) S' := by
  obtain ⟨w, S1, e1, w0, w1, B1⟩ := take_eval (w := 5) h (by omega) (by decide) (up8 (n := 5) (by decide) (by decide))
  obtain ⟨w, rfl⟩ := Int.eq_ofNat_of_zero_le w0
  obtain ⟨b, S2, e2, b0, b1, B2⟩ := take_eval (w := 2) B1 (by omega) (by decide) (up8 (n := 5) (by decide) (by decide))
  obtain ⟨n, hn⟩ : ∃ n, n = w + 1 := ⟨_, rfl⟩
  have n5 : n ≤ 5 := by omega
  have n1 : 1 ≤ n := by omega
  obtain ⟨m1, m2, m3⟩ := mxR_ok n1 n5
  obtain ⟨nb, hnb, hg⟩ : ∃ nb : List Str, (nb = nmA ∨ nb = nmB) ∧ gIx (.lst [.lst [.str "a", .str "b", .str "c", .str "d", .str "e"], .lst [.str "pit", .str "foe", .str "ab", .str "steerer", .str "up"]]) (.int b) S2 = .ok (.lst (nb.map .str)) S2 := by
    obtain ⟨b, rfl⟩ := Int.eq_ofNat_of_zero_le b0
    match b, b1 with
    | 0, _ => exact ⟨nmA, .inl rfl, gIx_lst (i := 0) rfl⟩
    | 1, _ => exact ⟨nmB, .inr rfl, gIx_lst (i := 1) rfl⟩
    | b + 2, b1 => exact absurd b1 (by omega)
  have nbl : nb.length = 5 := by rcases hnb with rfl | rfl <;> rfl
  let N : D := .lst (nb.map .str)
  let b0 : SF := sSeq (sAsg (tgN 6) (eOp2 iAdd (eC (.int 1)) (eCall 2 D__law_take (aCons (eVar 0) (aCons (eOp2 gIx (eLst (aCons (eC (.int 4)) (aCons (eC (.int 4)) (aCons (eC (.int 4)) (aCons (eC (.int 3)) (aCons (eC (.int 2)) aNil)))))) (eOp2 iSub (eVar 3) (eC (.int 1)))) aNil)))))
    (sSeq (sAsg (tgN 7) (eLc false [9] (itRange1 (aCons (eVar 6) aNil)) (tgN 9) eYes (eLc false [8] (itRange1 (aCons (eVar 3) aNil)) (tgN 8) eYes (eCall 1 D__law_number (aCons (eVar 0) aNil)))))
    (sApp 2 (eLst (aCons (eOp2 gIx (eVar 4) (eVar 5)) (aCons (eOp2 gIx (eLst (aCons (eC (.str "steerer")) (aCons (eC (.str "foe")) aNil))) (eCall 2 D__law_take (aCons (eVar 0) (aCons (eC (.int 2)) aNil)))) (aCons (eVar 7) aNil))))))
  obtain ⟨es', S', q1, q2⟩ := forL_run (g := []) (t := tgN 5) (b := b0) (fun (i : Nat) => D.int i)
    (fun i es S' => i ≤ n ∧ Bx S0 c (k + 2 + (30 * i : Nat)) S' ∧ ∃ (qs : List Plc) (u5 u6 u7 : SD), qs.length = i ∧ Sp BN nb n qs ∧ es = [.val (.cell c), .val (.int 5), .acc (qs.map plL), .val (.int n), .val N, u5, u6, u7, .no, .no]) (fun _ _ S' _ => Gd.ok_nil S') (List.range n) 0 [.val (.cell c), .val (.int 5), .acc [], .val (.int n), .val N, .no, .no, .no, .no, .no] S2 ⟨Nat.zero_le _, B2.mono (by omega), [], _, _, _, rfl, ⟨rfl, fun p hp => absurd hp (by simp), fun p hp => absurd hp (by simp)⟩, rfl⟩ fun j x es S3 hj q => by
      obtain ⟨_, B3, qs, u5, u6, u7, ql, sp, rfl⟩ := q
      rw [Nat.zero_add] at B3 ql
      have hjl := (List.getElem?_eq_some_iff.mp hj).1
      have hxj : x = j := by
        have := (List.getElem?_eq_some_iff.mp hj).2
        simpa using this.symm
      subst hxj
      have hxn : x < n := by simpa using hjl
      obtain ⟨m, S4, t1, t2, t3, B4⟩ := take_eval (w := (mxR n : Nat)) B3 (by omega) (by omega) (up8 (n := 5) (by
        show ((mxR n : Nat) : Int).natAbs < 2 ^ 5
        have e5 : (2 : Nat) ^ 5 = 32 := by decide
        omega) (by decide))
      obtain ⟨m, rfl⟩ := Int.eq_ofNat_of_zero_le t2
      obtain ⟨rs, S5, r1, r2, r3, B5⟩ := rows_in (n := n) (m := m + 1) (u2 := .acc (qs.map plL)) (u5 := .val (.int (x : Nat))) (u6 := u6) (nbD := N) B4 (by omega) (by omega) n5 (by omega) u7
      obtain ⟨o, S6, o1, o2, o3, B6⟩ := take_eval (w := 2) B5 (by omega) (by decide) (up8 (n := 5) (by decide) (by decide))
      have hz := getD_some (d := ("" : Str)) (xs := nb) (i := x) (by omega)
      have gz : gIx N (.int (x : Nat)) S5 = .ok (.str (nb.getD x "")) S5 := ixL hz
      obtain ⟨ow, how, go⟩ : ∃ ow : Str, Own ow ∧ gIx (.lst [.str "steerer", .str "foe"]) (.int o) S6 = .ok (.str ow) S6 := by
        obtain ⟨o, rfl⟩ := Int.eq_ofNat_of_zero_le o2
        match o, o3 with
        | 0, _ => exact ⟨"steerer", .inl rfl, gIx_lst (i := 0) rfl⟩
        | 1, _ => exact ⟨"foe", .inr rfl, gIx_lst (i := 1) rfl⟩
        | o + 2, o3 => exact absurd o3 (by omega)
      have gm : gIx (.lst [.int 4, .int 4, .int 4, .int 3, .int 2]) (.int ((n : Int) - 1)) S3 = .ok (.int (mxR n : Nat)) S3 := by
        exact gm_eval n1 n5
      let p : Plc := (nb.getD x "", ow, rs)
      have al : (qs.map plL).length < 1000000 := by
        rw [List.length_map]
        omega
      refine ⟨[.val (.cell c), .val (.int 5), .acc (qs.map plL), .val (.int n), .val N, .val (.int (x : Nat)), u6, u7, .no, .no], [.val (.cell c), .val (.int 5), .acc ((qs ++ [p]).map plL), .val (.int n), .val N, .val (.int (x : Nat)), .val (.int ((m + 1 : Nat) : Int)), .val (.lst (rs.map fL)), .no, .no], S6, by simp, ?_, by omega, B6.mono (by omega), qs ++ [p], _, _, _, by rw [List.length_append, ql]; simp, ?_, rfl⟩
      · have ep : (qs ++ [p]).map plL = qs.map plL ++ [.lst [.str (nb.getD x ""), .str ow, .lst (rs.map fL)]] := by
          rw [List.map_append]
          rfl
        have em : (1 : Int) + (m : Int) = ((m + 1 : Nat) : Int) := by omega
        rw [ep]
        generalize qs.map plL = A at r1 al ⊢
        generalize N = N' at gz r1 ⊢
        generalize ((m + 1 : Nat) : Int) = m' at em r1 ⊢
        simp only [b0]
        simp -implicitDefEqProofs [-eLc_eq, gm, t1, em, r1, gz, o1, go, al]
      · refine ⟨?_, fun q hq => ?_, fun q hq => ?_⟩
        · rw [List.map_append, sp.nms, List.length_append, ql]
          show nb.take x ++ [nb.getD x ""] = nb.take (x + 1)
          rw [List.take_add_one, hz]
          rfl
        · rcases List.mem_append.mp hq with hq | hq
          · exact sp.own q hq
          · rcases List.mem_singleton.mp hq with rfl
            exact how
        · rcases List.mem_append.mp hq with hq | hq
          · exact sp.rows q hq
          · rcases List.mem_singleton.mp hq with rfl
            show 1 ≤ rs.length ∧ rs.length ≤ mxR n ∧ ∀ r ∈ rs, _
            exact ⟨by omega, by omega, r3⟩
  obtain ⟨_, B3, qs, u5, u6, u7, ql, sp, rfl⟩ := q2
  rw [Nat.zero_add, List.length_range] at B3 ql
  refine ⟨n, nb, qs, S', ?_, n1, n5, ql, hnb, sp, B3.mono (by omega)⟩
  have it : itRange1 (aCons (eVar 3) aNil) [.val (.cell c), .val (.int 5), .acc [], .val (.int n), .val N, .no, .no, .no, .no, .no] S2 = .ok ((List.range n).map fun (i : Nat) => D.int i) [] S2 := range1_eval (by omega) (by simp)
  have en : (1 : Int) + (w : Int) = (n : Int) := by omega
  simp only [b0] at q1
  unfold D__law_spec b__law_spec spL
  generalize qs.map plL = A at q1 ⊢
  have hg' : gIx (.lst [.lst [.str "a", .str "b", .str "c", .str "d", .str "e"], .lst [.str "pit", .str "foe", .str "ab", .str "steerer", .str "up"]]) (.int b) S2 = .ok N S2 := hg
  generalize N = N' at q1 it hg' ⊢
  simp -implicitDefEqProofs [-itRange1_eq, fnD_eq, startD, e1, en, e2, hg', it, q1, frz1]
theorem box_eval {z : Int} : ∃ a b : Int, D__law_box [.int z] S = .ok (.cell S.length) (S ++ [[.int a, .int b, .int 0]]) ∧ Bx (S ++ [[.int a, .int b, .int 0]]) S.length 0 (S ++ [[.int a, .int b, .int 0]]) := by
  have pw : iPow (.int 10) (.int 18) S = .ok (.int 1000000000000000000) S := iPow_ok (i := 10) (j := 18) (by decide) (by decide) (by decide)
  have im := iMod_ok (S := S) (i := z) (j := 2147483629) (by decide)
  have b0 : 0 ≤ z % 2147483629 := Int.emod_nonneg _ (by decide)
  have b1 : z % 2147483629 < 2147483629 := Int.emod_lt_of_pos _ (by decide)
  refine ⟨if z - 1000000000000000000 > 0 then z - 1000000000000000000 else 0, z % 2147483629, ?_, _, _, 0, (set_app).symm, by simp, ?_, b0, by omega, Int.le_refl _, Int.le_refl _⟩
  · unfold D__law_box b__law_box
    simp -implicitDefEqProofs [fnD_eq, startD, pw, im]
  · split <;> omega
theorem cell_eval {ns : List Int} {i : Nat} (hi : i ≤ 1000) : ∃ z, D__law_cell [.lst (ns.map .int), .int i] S = .ok (.int z) S := by
  have im : iMul (.int 15490523) (.int i) S = .ok (.int (15490523 * i)) S := iMul_ok (by
    have := bits_lt (i := (i : Nat)) (n := 64) (by omega) (by decide)
    have := bits_lt (i := 15490523) (n := 64) (by decide) (by decide)
    omega)
  by_cases h : i < ns.length
  · have gx := ixL (S := S) (f := D.int) (getD_some (d := 0) h)
    refine ⟨ns.getD i 0, ?_⟩
    unfold D__law_cell b__law_cell
    generalize ns.getD i 0 = z at gx ⊢
    have gl : gLen (.lst (ns.map .int)) S = .ok (.int ns.length) S := by
      rw [gLen_lst, List.length_map]
    generalize D.lst (ns.map .int) = N at gx gl ⊢
    have h' : (i : Int) < (ns.length : Int) := by omega
    simp -implicitDefEqProofs [fnD_eq, startD, gl, h', gx]
  · refine ⟨15490523 * i + 2305, ?_⟩
    unfold D__law_cell b__law_cell
    have gl : gLen (.lst (ns.map .int)) S = .ok (.int ns.length) S := by
      rw [gLen_lst, List.length_map]
    generalize D.lst (ns.map .int) = N at gl ⊢
    have h' : ¬ (i : Int) < (ns.length : Int) := by omega
    simp -implicitDefEqProofs [fnD_eq, startD, gl, h', im, sNil]
end
section
variable {S : Store} {ps : List Plc} {h : List Q2} {L B M0 B0 N n : Nat} {d : D} {e : Q2 → D}
theorem isO_tb : isObj 1 (tb ps) = true := rfl
end
end K40
set_option Elab.async false
set_option linter.all false
set_option maxRecDepth 100000
set_option maxHeartbeats 2000000
set_option autoImplicit false
namespace K40
open PySem L2 DL
/-! ### signs of sums of products -/
structure Nn (x : Q2) : Prop where
  pos : 0 < x.2
  nn : 0 ≤ x.1
theorem nf_sign {a b : Int} (h : 0 < b) : (0 < (nf a b).1 ↔ 0 < a) ∧ (0 ≤ (nf a b).1 ↔ 0 ≤ a) ∧ 0 < (nf a b).2 := by
  obtain ⟨e1, e2, g0⟩ := nf_parts (a := a) h
  obtain ⟨p, _⟩ := nf_ok (a := a) h
  generalize nf a b = x at *
  generalize (Int.gcd a b : Int) = g at *
  subst e1
  refine ⟨⟨fun q => Int.mul_pos g0 q, fun q => ?_⟩, ⟨fun q => Int.mul_nonneg (Int.le_of_lt g0) q, fun q => ?_⟩, p⟩
  · rcases Int.lt_or_le 0 x.1 with z | z
    · exact z
    · have := Int.mul_nonpos_of_nonneg_of_nonpos (Int.le_of_lt g0) z
      omega
  · rcases Int.lt_or_le x.1 0 with z | z
    · have := Int.mul_neg_of_pos_of_neg g0 z
      omega
    · exact z
theorem pl_nn {x z : Q2} (hx : Nn x) (hz : Nn z) : Nn (pl x z) ∧ (0 < (pl x z).1 ↔ 0 < x.1 ∨ 0 < z.1) := by
  obtain ⟨s1, s2, s3⟩ := nf_sign (a := x.1 * z.2 + z.1 * x.2) (Int.mul_pos hx.pos hz.pos)
  have a1 := Int.mul_nonneg hx.nn (Int.le_of_lt hz.pos)
  have a2 := Int.mul_nonneg hz.nn (Int.le_of_lt hx.pos)
  refine ⟨⟨s3, s2.mpr (by omega)⟩, s1.trans ⟨fun h => ?_, fun h => ?_⟩⟩
  · rcases Int.lt_or_le 0 x.1 with q | q
    · exact .inl q
    · rcases Int.lt_or_le 0 z.1 with q' | q'
      · exact .inr q'
      · have e1 : x.1 = 0 := Int.le_antisymm q hx.nn
        have e2 : z.1 = 0 := Int.le_antisymm q' hz.nn
        rw [e1, e2] at h
        simp at h
  · rcases h with h | h
    · have := Int.mul_pos h hz.pos
      omega
    · have := Int.mul_pos h hx.pos
      omega
theorem ti_nn {x z : Q2} (hx : Nn x) (hz : Nn z) : Nn (ti x z) ∧ (0 < (ti x z).1 ↔ 0 < x.1 ∧ 0 < z.1) := by
  obtain ⟨s1, s2, s3⟩ := nf_sign (a := x.1 * z.1) (Int.mul_pos hx.pos hz.pos)
  refine ⟨⟨s3, s2.mpr (Int.mul_nonneg hx.nn hz.nn)⟩, s1.trans ⟨fun h => ?_, fun h => Int.mul_pos h.1 h.2⟩⟩
  have q1 := hx.nn
  have q2 := hz.nn
  rcases Int.lt_or_le 0 x.1 with q | q
  · rcases Int.lt_or_le 0 z.1 with q' | q'
    · exact ⟨q, q'⟩
    · have e2 : z.1 = 0 := Int.le_antisymm q' hz.nn
      rw [e2] at h
      simp at h
  · have e1 : x.1 = 0 := Int.le_antisymm q hx.nn
    rw [e1] at h
    simp at h
theorem dotN_nn : ∀ (ps : List (Q2 × Q2)) (a : Q2), (∀ p ∈ ps, Nn p.1 ∧ Nn p.2) → Nn a → Nn (dotN ps a) ∧ (0 < (dotN ps a).1 ↔ 0 < a.1 ∨ ∃ p ∈ ps, 0 < p.1.1 ∧ 0 < p.2.1)
  | [], a, _, h => ⟨h, by simp [dotN]⟩
  | p :: ps, a, hp, h => by
    obtain ⟨h1, h2⟩ := hp p List.mem_cons_self
    obtain ⟨t1, t2⟩ := ti_nn h1 h2
    obtain ⟨u1, u2⟩ := pl_nn h t1
    obtain ⟨v1, v2⟩ := dotN_nn ps (pl a (ti p.1 p.2)) (fun q hq => hp q (List.mem_cons_of_mem _ hq)) u1
    refine ⟨v1, v2.trans ?_⟩
    rw [u2, t2]
    simp only [List.mem_cons, exists_eq_or_imp]
    exact or_assoc
theorem dotQ_nn {r h : List Q2} (hr : ∀ x ∈ r, Nn x) (hh : ∀ x ∈ h, Nn x) : Nn (dotQ r h) ∧ (0 < (dotQ r h).1 ↔ ∃ p ∈ r.zip h, 0 < p.1.1 ∧ 0 < p.2.1) := by
  obtain ⟨h1, h2⟩ := dotN_nn (r.zip h) (0, 1) (fun p hp => ⟨hr _ (List.of_mem_zip hp).1, hh _ (List.of_mem_zip hp).2⟩) ⟨by decide, by decide⟩
  exact ⟨h1, h2.trans (by simp)⟩
/-! ### the places that are alive -/
def alv (h : List Q2) : List Nat := (List.range h.length).filter fun i => decide (0 < (h.getD i (0, 1)).1)
def mtQ (r : List Q2) (f : List Nat) : Bool := f.any fun k => decide (0 < (r.getD k (0, 1)).1)
theorem mtQ_alv {r h : List Q2} (hl : r.length = h.length) (hr : ∀ x ∈ r, Nn x) (hh : ∀ x ∈ h, Nn x) : mtQ r (alv h) = decide (0 < (dotQ r h).1) := by
  rw [Bool.eq_iff_iff, decide_eq_true_iff, (dotQ_nn hr hh).2]
  unfold mtQ alv
  rw [List.any_eq_true]
  constructor
  · rintro ⟨k, hk, h1⟩
    rw [List.mem_filter, List.mem_range] at hk
    obtain ⟨k1, k2⟩ := hk
    refine ⟨(r.getD k (0, 1), h.getD k (0, 1)), ?_, of_decide_eq_true h1, of_decide_eq_true k2⟩
    refine List.mem_of_getElem? (i := k) ?_
    rw [List.getElem?_zip_eq_some]
    exact ⟨getD_some (by omega), getD_some k1⟩
  · rintro ⟨p, hp, h1, h2⟩
    obtain ⟨k, hk⟩ := List.getElem?_of_mem hp
    rw [List.getElem?_zip_eq_some] at hk
    have kl := (List.getElem?_eq_some_iff.mp hk.2).1
    refine ⟨k, ?_, ?_⟩
    · rw [List.mem_filter, List.mem_range, getD_of hk.2]
      exact ⟨kl, decide_eq_true h2⟩
    · rw [getD_of hk.1]
      exact decide_eq_true h1
/-! ### the best one of several -/
theorem bestN_pos {b : Bool} {ts : List Q2} (ht : ∀ x ∈ ts, Nn x) : ∀ n, 0 < n → n ≤ ts.length → (0 < (ts.getD (bestN b ts n) (0, 1)).1 ↔ if b then ∃ j, j < n ∧ 0 < (ts.getD j (0, 1)).1 else ∀ j, j < n → 0 < (ts.getD j (0, 1)).1)
  | 0, h, _ => absurd h (Nat.lt_irrefl 0)
  | 1, _, hl => by
    have e : bestN b ts 1 = 0 := by simp [bestN]
    rw [e]
    cases b with
    | true =>
      simp only [if_true]
      exact ⟨fun h => ⟨0, Nat.one_pos, h⟩, fun ⟨j, hj, h⟩ => by
        have : j = 0 := by omega
        subst this
        exact h⟩
    | false =>
      simp only [Bool.false_eq_true, if_false]
      exact ⟨fun h j hj => by
        have : j = 0 := by omega
        subst this
        exact h, fun h => h 0 Nat.one_pos⟩
  | n + 2, _, hl => by
    have ih := bestN_pos (b := b) ht (n + 1) (Nat.succ_pos n) (by omega)
    have ol := bestN_lt (b := b) (ts := ts) (n + 1) (Nat.succ_pos n)
    have xo := ht _ (List.mem_of_getElem? (getD_some (d := ((0, 1) : Q2)) (show bestN b ts (n + 1) < ts.length by omega)))
    have xn := ht _ (List.mem_of_getElem? (getD_some (d := ((0, 1) : Q2)) (show n + 1 < ts.length by omega)))
    have e : bestN b ts (n + 2) = if (if b then lt (ts.getD (bestN b ts (n + 1)) (0, 1)) (ts.getD (n + 1) (0, 1)) else lt (ts.getD (n + 1) (0, 1)) (ts.getD (bestN b ts (n + 1)) (0, 1))) then n + 1 else bestN b ts (n + 1) := rfl
    rw [e]
    generalize ho : bestN b ts (n + 1) = o at ih xo ⊢
    have c1 := Int.mul_nonneg xo.nn (Int.le_of_lt xn.pos)
    have c2 := Int.mul_nonneg xn.nn (Int.le_of_lt xo.pos)
    have p1 : 0 < (ts.getD o (0, 1)).1 * (ts.getD (n + 1) (0, 1)).2 ↔ 0 < (ts.getD o (0, 1)).1 := ⟨fun h => by
      rcases Int.lt_or_le 0 (ts.getD o (0, 1)).1 with q | q
      · exact q
      · have : (ts.getD o (0, 1)).1 = 0 := Int.le_antisymm q xo.nn
        rw [this] at h
        simp at h, fun h => Int.mul_pos h xn.pos⟩
    have p2 : 0 < (ts.getD (n + 1) (0, 1)).1 * (ts.getD o (0, 1)).2 ↔ 0 < (ts.getD (n + 1) (0, 1)).1 := ⟨fun h => by
      rcases Int.lt_or_le 0 (ts.getD (n + 1) (0, 1)).1 with q | q
      · exact q
      · have : (ts.getD (n + 1) (0, 1)).1 = 0 := Int.le_antisymm q xn.nn
        rw [this] at h
        simp at h, fun h => Int.mul_pos h xo.pos⟩
    cases b with
    | true =>
      simp only [if_true] at ih ⊢
      by_cases hc : lt (ts.getD o (0, 1)) (ts.getD (n + 1) (0, 1)) = true
      · rw [if_pos hc]
        have hc := of_decide_eq_true hc
        have : 0 < (ts.getD (n + 1) (0, 1)).1 := p2.mp (by omega)
        exact ⟨fun h => ⟨n + 1, by omega, h⟩, fun _ => this⟩
      · rw [if_neg hc]
        have hc : ¬ ((ts.getD o (0, 1)).1 * (ts.getD (n + 1) (0, 1)).2 < (ts.getD (n + 1) (0, 1)).1 * (ts.getD o (0, 1)).2) := fun q => hc (decide_eq_true q)
        rw [ih]
        constructor
        · rintro ⟨j, hj, h⟩
          exact ⟨j, by omega, h⟩
        · rintro ⟨j, hj, h⟩
          by_cases hjn : j = n + 1
          · subst hjn
            have := p2.mpr h
            exact ih.mp (p1.mp (by omega))
          · exact ⟨j, by omega, h⟩
    | false =>
      simp only [Bool.false_eq_true, if_false] at ih ⊢
      by_cases hc : lt (ts.getD (n + 1) (0, 1)) (ts.getD o (0, 1)) = true
      · rw [if_pos hc]
        have hc := of_decide_eq_true hc
        have : 0 < (ts.getD o (0, 1)).1 := p1.mp (by omega)
        have al := ih.mp this
        constructor
        · intro h j hj
          by_cases hjn : j = n + 1
          · subst hjn
            exact h
          · exact al j (by omega)
        · exact fun h => h (n + 1) (by omega)
      · rw [if_neg hc]
        have hc : ¬ ((ts.getD (n + 1) (0, 1)).1 * (ts.getD o (0, 1)).2 < (ts.getD o (0, 1)).1 * (ts.getD (n + 1) (0, 1)).2) := fun q => hc (decide_eq_true q)
        constructor
        · intro h j hj
          by_cases hjn : j = n + 1
          · subst hjn
            have := p1.mpr h
            exact p2.mp (by omega)
          · exact ih.mp h j (by omega)
        · exact fun h => ih.mpr fun j hj => h j (by omega)
/-! ### fronts -/
def bfB (p : Plc) (f : List Nat) : Bool := if (p.2.1 == "steerer") = true then p.2.2.any fun r => mtQ r f else p.2.2.all fun r => mtQ r f
def bfQ (ps : List Plc) (f : List Nat) : List Nat := (List.range ps.length).filter fun i => bfB (ps.getD i ("", "", [])) f
theorem Sz.nn' {L B : Nat} {x : Q2} (h : Sz L B x) (h0 : 0 ≤ x.1) : Nn x := ⟨h.pos, h0⟩
structure Tn (ps : List Plc) : Prop where
  ne : ∀ p ∈ ps, 1 ≤ p.2.2.length
  row : ∀ p ∈ ps, ∀ r ∈ p.2.2, r.length = ps.length ∧ ∀ x ∈ r, Nn x
theorem behQ_get {ps : List Plc} {h : List Q2} {i : Nat} {p : Plc} (hi : ps[i]? = some p) : (behQ ps (bestP ps h) h)[i]? = some (dotQ (p.2.2.getD (bestOf p h) []) h) := by
  unfold behQ rowsOf bestP
  rw [List.getElem?_map, List.getElem?_map]
  have : ((ps.map fun p => bestOf p h).zip ps)[i]? = some (bestOf p h, p) := by
    rw [List.getElem?_zip_eq_some, List.getElem?_map, hi]
    exact ⟨rfl, rfl⟩
  rw [this]
  rfl
theorem beh_len {ps : List Plc} {h : List Q2} : (behQ ps (bestP ps h) h).length = ps.length := by
  unfold behQ rowsOf bestP
  rw [List.length_map, List.length_map, List.length_zip, List.length_map, Nat.min_self]
theorem bestOf_lt {p : Plc} {h : List Q2} (hp : 1 ≤ p.2.2.length) : bestOf p h < p.2.2.length := by
  unfold bestOf bestI
  have := bestN_lt (b := (p.2.1 == "steerer" : Bool)) (ts := p.2.2.map fun r => dotQ r h) (p.2.2.map fun r => dotQ r h).length (by rw [List.length_map]; omega)
  exact Nat.lt_of_lt_of_eq this (List.length_map ..)
theorem alv_step {ps : List Plc} {h : List Q2} (t : Tn ps) (hl : h.length = ps.length) (hh : ∀ x ∈ h, Nn x) : alv (behQ ps (bestP ps h) h) = bfQ ps (alv h) ∧ ∀ x ∈ behQ ps (bestP ps h) h, Nn x := by
  constructor
  · unfold alv bfQ
    rw [beh_len]
    refine List.filter_congr fun i hi => ?_
    have hi := List.mem_range.mp hi
    have g := getD_some (d := (("", "", []) : Plc)) hi
    generalize ps.getD i ("", "", []) = p at g ⊢
    have hp := List.mem_of_getElem? g
    have bl := bestOf_lt (h := h) (t.ne p hp)
    have e1 := getD_of (d := ((0, 1) : Q2)) (behQ_get (h := h) g)
    rw [e1]
    let ts := p.2.2.map fun r => dotQ r h
    have tl : ts.length = p.2.2.length := List.length_map ..
    have tn : ∀ x ∈ ts, Nn x := fun x hx => by
      obtain ⟨r, hr, rfl⟩ := List.mem_map.mp hx
      exact (dotQ_nn (t.row p hp r hr).2 hh).1
    have tg : ∀ j r, p.2.2[j]? = some r → ts.getD j (0, 1) = dotQ r h := fun j r hj => getD_of (by
      show (p.2.2.map fun r => dotQ r h)[j]? = _
      rw [List.getElem?_map, hj]
      rfl)
    have e2 := tg _ _ (getD_some (d := ([] : List Q2)) bl)
    rw [← e2]
    have e3 : bestOf p h = bestN (p.2.1 == "steerer" : Bool) ts ts.length := rfl
    rw [e3]
    have k := bestN_pos (b := (p.2.1 == "steerer" : Bool)) tn ts.length (by rw [tl]; exact t.ne p hp) (Nat.le_refl _)
    rw [Bool.eq_iff_iff, decide_eq_true_iff, k]
    have mt : ∀ r ∈ p.2.2, mtQ r ((List.range h.length).filter fun i => decide (0 < (h.getD i (0, 1)).1)) = decide (0 < (dotQ r h).1) := fun r hr => mtQ_alv (by rw [(t.row p hp r hr).1, hl]) (t.row p hp r hr).2 hh
    unfold bfB
    by_cases ho : (p.2.1 == "steerer") = true
    · rw [if_pos ho, if_pos ho, List.any_eq_true]
      constructor
      · rintro ⟨j, hj, q⟩
        rw [tl] at hj
        have gj := getD_some (d := ([] : List Q2)) hj
        have hr := List.mem_of_getElem? gj
        refine ⟨_, hr, ?_⟩
        rw [mt _ hr, decide_eq_true_iff, ← tg _ _ gj]
        exact q
      · rintro ⟨r, hr, q⟩
        rw [mt r hr, decide_eq_true_iff] at q
        obtain ⟨j, gj⟩ := List.getElem?_of_mem hr
        refine ⟨j, by rw [tl]; exact (List.getElem?_eq_some_iff.mp gj).1, ?_⟩
        rw [tg _ _ gj]
        exact q
    · rw [if_neg ho, if_neg ho, List.all_eq_true]
      constructor
      · intro q r hr
        rw [mt r hr, decide_eq_true_iff]
        obtain ⟨j, gj⟩ := List.getElem?_of_mem hr
        rw [← tg _ _ gj]
        exact q j (by rw [tl]; exact (List.getElem?_eq_some_iff.mp gj).1)
      · intro q j hj
        rw [tl] at hj
        have gj := getD_some (d := ([] : List Q2)) hj
        have hr := List.mem_of_getElem? gj
        have := q _ hr
        rw [mt _ hr, decide_eq_true_iff, ← tg _ _ gj] at this
        exact this
  · intro x hx
    obtain ⟨i, hi⟩ := List.getElem?_of_mem hx
    have il : i < ps.length := by
      have := (List.getElem?_eq_some_iff.mp hi).1
      rwa [beh_len] at this
    have g := getD_some (d := (("", "", []) : Plc)) il
    rw [behQ_get g] at hi
    cases hi
    have hp := List.mem_of_getElem? g
    have bl := bestOf_lt (h := h) (t.ne _ hp)
    have hr := List.mem_of_getElem? (getD_some (d := ([] : List Q2)) bl)
    exact (dotQ_nn (t.row _ hp _ hr).2 hh).1
/-- they come again within 2^5 -/
theorem fronts_again {ps : List Plc} {h : List Q2} (hl : h.length = ps.length) (h5 : ps.length ≤ 5) : ∃ k, k < 32 ∧ (∀ i, i < k → FR.it (bfQ ps) (alv h) (i + 1) ∉ FR.itL (bfQ ps) (alv h) i) ∧ FR.it (bfQ ps) (alv h) (k + 1) ∈ FR.itL (bfQ ps) (alv h) k := by
  refine FR.again (bfQ ps) (alv h) (FR.subs ps.length) 32 (by unfold alv; rw [hl]; exact FR.filter_subs _ _) (fun y _ => FR.filter_subs _ _) ?_
  rw [FR.subs_len]
  exact Nat.pow_le_pow_right (n := 2) (by decide) h5
end K40
set_option Elab.async false
set_option linter.all false
set_option maxRecDepth 100000
set_option maxHeartbeats 2000000
set_option autoImplicit false
namespace K40
open PySem L2 DL
/-! ### fronts as data -/
def nD (k : Nat) : D := .int k
def fD (f : List Nat) : D := .lst (f.map nD)
theorem pe_f : Pe (fun f : List Nat => ∀ x ∈ f, True) 2 fD := pe_nat.lst
theorem trv {α : Type} {l : List α} : ∀ x ∈ l, True := fun _ _ => trivial
theorem trv2 {α : Type} {l : List (List α)} : ∀ x ∈ l, ∀ y ∈ x, True := fun _ _ _ _ => trivial
section
variable {S : Store} {ps : List Plc} {L B : Nat} {d : D} {f : List Nat} {r h : List Q2}
theorem eq0_eval {x : Q2} (hx : Qk x) : D_Ratiod__eqd_ [rt x, .int 0] S = .ok (.bl (decide (x.1 = 0))) S := by
  have e1 := isnum_num (S := S) (y := .int 0) (x := (0, 1)) (.inr ⟨rfl, rfl⟩)
  have e2 := parts_int (S := S) (i := 0)
  have s1 := slot_up (S := S) (x := x)
  have s2 := slot_dn (S := S) (x := x)
  have e3 : gEq (.tup [.int x.1, .int x.2]) (fr (0, 1)) S = .ok (.bl (decide (x.1 = 0))) S := by
    unfold fr
    rw [gEq_fr]
    congr 2
    rw [Bool.eq_iff_iff]
    simp only [Bool.and_eq_true, decide_eq_true_iff]
    refine ⟨fun h => h.1, fun h => ⟨h, ?_⟩⟩
    have c := hx.cop
    have p := hx.pos
    rw [h, Int.gcd_zero_left] at c
    omega
  unfold D_Ratiod__eqd_ b_Ratiod__eqd_
  generalize rt x = y at s1 s2 ⊢
  generalize fr (0, 1) = z at e2 e3
  simp -implicitDefEqProofs [fnD_eq, startD, e1, e2, s1, s2, e3, sNil]
theorem ne0_eval {x : Q2} (hx : Qk x) (h0 : 0 ≤ x.1) : gOwnNe [0, 1] 0 D_Ratiod__eqd_ (rt x) (.int 0) S = .ok (.bl (decide (0 < x.1))) S := by
  have e := eq0_eval (S := S) hx
  have e2 : gOwnEq [0, 1] 0 D_Ratiod__eqd_ (rt x) (.int 0) S = .ok (.bl (decide (x.1 = 0))) S := by
    unfold gOwnEq
    rw [if_pos isObj_rt]
    show chk 2 D_Ratiod__eqd_ [rt x, .int 0] S = _
    rw [chk_eq, if_pos (show ([rt x, D.int 0] : List D).length = 2 from rfl), e]
  unfold gOwnNe
  rw [e2]
  show Res.ok (.bl (!decide (x.1 = 0))) S = _
  congr 2
  rw [← decide_not]
  congr 1
  rw [eq_iff_iff]
  omega
theorem meets_eval (hd : Sq S d (f.map nD)) (hl : f.length < 1000000) (hf : ∀ k ∈ f, k < r.length) (hr : ∀ x ∈ r, Qk x ∧ 0 ≤ x.1) : D_meets [rT r, d] S = .ok (.bl (mtQ r f)) S := by
  obtain ⟨g, k1, k2⟩ := hd.it (es := [.val (rT r), .val d, .no]) (f := eVar 1) (S0 := S) rfl
  have k3 := lcL_map (q := false) (g := g) (es := [.val (rT r), .val d, .no]) (S := S) (t := tgN 2) (c := eYes) (e := eOp2 (gOwnNe [0, 1] 0 D_Ratiod__eqd_) (eOp2 gIx (eVar 0) (eVar 2)) (eC (.int 0)))
    nD (fun k => D.bl (decide (0 < (r.getD k (0, 1)).1))) k2 f [] fun k hk => by
      have hg := getD_some (d := ((0, 1) : Q2)) (hf k hk)
      obtain ⟨q1, q2⟩ := hr _ (List.mem_of_getElem? hg)
      have hx : gIx (rT r) (.int (k : Nat)) S = .ok (rt (r.getD k (0, 1))) S := ixT hg
      have ne := ne0_eval (S := S) q1 q2
      refine ⟨[.val (rT r), .val d, .val (nD k)], by simp, by simp, ?_⟩
      generalize rt (r.getD k (0, 1)) = y at hx ne
      generalize rT r = R at hx ⊢
      simp -implicitDefEqProofs [nD, hx, ne]
  rw [if_neg Bool.false_ne_true, List.nil_append] at k3
  have k4 := eLc_run (vs := [2]) k1 (by rw [List.length_map]; exact hl) (by rfl) (by exact k3)
  have ga := gAny_map (S := S) (P := fun k : Nat => decide (0 < (r.getD k (0, 1)).1)) (xs := f)
  unfold D_meets b_meets
  generalize D.lst (f.map fun k => D.bl (decide (0 < (r.getD k (0, 1)).1))) = A at k4 ga
  generalize rT r = R at k4 ⊢
  simp -implicitDefEqProofs [-eLc_eq, -itSeq_eq, fnD_eq, startD, k4, ga, mtQ]
theorem zip_range_map {α : Type} (d : α) (xs : List α) : (List.range xs.length).zip xs = (List.range xs.length).map fun i => (i, xs.getD i d) := by
  apply List.ext_getElem?
  intro i
  by_cases hi : i < xs.length
  · have hg := getD_some (d := d) hi
    rw [List.getElem?_map, List.getElem?_range hi, Option.map_some]
    rw [List.getElem?_zip_eq_some]
    exact ⟨List.getElem?_range hi, hg⟩
  · rw [List.getElem?_eq_none (by simp; omega), List.getElem?_eq_none (by simp; omega)]
theorem alv_zip : (((List.range h.length).zip h).filter fun p => decide (0 < p.2.1)).map (fun p => nD p.1) = (alv h).map nD := by
  rw [zip_range_map (0, 1), List.filter_map, List.map_map]
  rfl
theorem alive_eval (hl : h.length < 1000000) (hr : ∀ x ∈ h, Qk x ∧ 0 ≤ x.1) : D_alive_in [.lst (h.map rt)] S = .ok (.cell S.length) (S ++ [(alv h).map nD]) := by
  have k1 : itEnum (aCons (eVar 0) aNil) [.val (.lst (h.map rt)), .no, .no] S = .ok (((List.range h.length).zip h).map fun p => .tup [.int (p.1 : Nat), rt p.2]) [] S := by
    unfold itEnum
    simp -implicitDefEqProofs [enumD_map]
  have k3 := lcL_filt (q := true) (g := []) (es := [.val (.lst (h.map rt)), .no, .no]) (S := S) (t := tgT 2 (tsCons (tgN 1) (tsCons (tgN 2) tsNil))) (c := eOp2 (gOwnNe [0, 1] 0 D_Ratiod__eqd_) (eVar 2) (eC (.int 0))) (e := eVar 1)
    (fun p : Nat × Q2 => .tup [.int (p.1 : Nat), rt p.2]) (fun p => nD p.1) (fun p => decide (0 < p.2.1)) (Gd.ok_nil S) ((List.range h.length).zip h) [] fun p hp => by
      obtain ⟨q1, q2⟩ := hr _ (List.of_mem_zip hp).2
      have ne := ne0_eval (S := S) q1 q2
      refine ⟨[.val (.lst (h.map rt)), .val (.int (p.1 : Nat)), .val (rt p.2)], by simp, ?_, fun _ => by simp [nD]⟩
      generalize rt p.2 = y at ne ⊢
      simp -implicitDefEqProofs [ne]
  rw [if_pos rfl, List.nil_append, alv_zip] at k3
  have k4 := eLc_run (vs := [1, 2]) k1 (by rw [List.length_map, List.length_zip, List.length_range]; omega) (by rfl) (by exact k3)
  unfold D_alive_in b_alive_in
  generalize D.lst (h.map rt) = R at k4 ⊢
  simp -implicitDefEqProofs [-eLc_eq, fnD_eq, startD, frz1, k4]
theorem bfront_eval (w : Wz L B ps) (hq : ∀ p ∈ ps, ∀ r ∈ p.2.2, ∀ x ∈ r, Qk x ∧ 0 ≤ x.1) (hd : Sq S d (f.map nD)) (hl : f.length < 1000000) (hf : ∀ k ∈ f, k < ps.length) : D_best_front [tb ps, d] S = .ok (fD (bfQ ps f)) S := by
  have hl5 := w.n.2
  let b0 : SF := sSeq (sAsg (tgN 4) (eLc false [5] (itSeq (eMeth 1 2 D_Table_rows (eVar 0) (aCons (eVar 3) aNil))) (tgN 5) eYes (eCall 2 D_meets (aCons (eVar 5) (aCons (eVar 1) aNil)))))
    (sIf (eIf (eOp2 gEq (eMeth 1 2 D_Table_owner (eVar 0) (aCons (eVar 3) aNil)) (eC (.str "steerer"))) (eOp1 gAny (eVar 4)) (eOp1 gAll (eVar 4))) (sApp 2 (eVar 3)) sNil)
  let P : Nat → Bool := fun i => bfB (ps.getD i ("", "", [])) f
  obtain ⟨es', S', q1, q2⟩ := forL_run (g := []) (t := tgN 3) (b := b0) (fun (i : Nat) => D.int i)
    (fun n es S' => S' = S ∧ ∃ u3 u4, es = [.val (tb ps), .val d, .acc (((List.range n).filter P).map nD), u3, u4, .no]) (fun _ _ S' _ => Gd.ok_nil S') (List.range ps.length) 0 [.val (tb ps), .val d, .acc [], .no, .no, .no] S ⟨rfl, _, _, rfl⟩ fun j x es S' hj q => by
      obtain ⟨rfl, u3, u4, rfl⟩ := q
      rw [Nat.zero_add]
      have hjl : j < ps.length := by simpa using (List.getElem?_eq_some_iff.mp hj).1
      have hxj : x = j := by
        have := (List.getElem?_eq_some_iff.mp hj).2
        simpa using this.symm
      subst hxj
      have g := getD_some (d := (("", "", []) : Plc)) hjl
      have hp := List.mem_of_getElem? g
      obtain ⟨p, hpe⟩ : ∃ p, p = ps.getD x ("", "", []) := ⟨_, rfl⟩
      rw [← hpe] at g hp
      have er := rows_eval (S := S') g
      have eo := owner_eval (S := S') g
      have e0 := gEq_own (S := S') (w.own p hp)
      have wr := (w.rows p hp).2.2
      generalize hacc : ((List.range x).filter P).map nD = acc
      have hal : acc.length < 1000000 := by
        rw [← hacc, List.length_map]
        have := List.length_filter_le P (List.range x)
        rw [List.length_range] at this
        omega
      let es1 : List SD := [.val (tb ps), .val d, .acc acc, .val (.int (x : Nat)), u4, .no]
      have k1 : itSeq (eMeth 1 2 D_Table_rows (eVar 0) (aCons (eVar 3) aNil)) es1 S' = .ok (p.2.2.map rT) [] S' := by
        simp only [es1]
        have io := isObj_tb (ps := ps)
        generalize tb ps = T at er io ⊢
        simp -implicitDefEqProofs [io, er]
      have k3 := lcL_map (q := false) (g := []) (es := es1) (S := S') (t := tgN 5) (c := eYes) (e := eCall 2 D_meets (aCons (eVar 5) (aCons (eVar 1) aNil)))
        rT (fun r => D.bl (mtQ r f)) (Gd.ok_nil S') p.2.2 [] fun r hr => by
          have em := meets_eval (S := S') (r := r) hd hl (fun k hk => by rw [(wr r hr).1]; exact hf k hk) (hq p hp r hr)
          refine ⟨[.val (tb ps), .val d, .acc acc, .val (.int (x : Nat)), u4, .val (rT r)], by simp [es1], by simp, ?_⟩
          generalize rT r = R at em ⊢
          simp -implicitDefEqProofs [em]
      rw [if_neg Bool.false_ne_true, List.nil_append] at k3
      have k4 := eLc_run (vs := [5]) k1 (by rw [List.length_map]; have := (w.rows p hp).2.1; omega) (by rfl) (show lcL false [] _ eYes _ (wipeD es1 [5]) _ S' [] = _ from k3)
      have ga := gAny_map (S := S') (P := fun r => mtQ r f) (xs := p.2.2)
      have gl := gAll_map (S := S') (P := fun r => mtQ r f) (xs := p.2.2)
      generalize D.lst (p.2.2.map fun r => D.bl (mtQ r f)) = met at k4 ga gl
      refine ⟨es1, [.val (tb ps), .val d, .acc (((List.range (x + 1)).filter P).map nD), .val (.int (x : Nat)), .val met, .no], S', by simp [es1], ?_, rfl, _, _, rfl⟩
      have et : ((List.range (x + 1)).filter P).map nD = if P x = true then acc ++ [.int (x : Nat)] else acc := by
        rw [List.range_succ, List.filter_append, List.map_append, hacc]
        by_cases hP : P x = true
        · rw [if_pos hP, List.filter_cons_of_pos hP]
          rfl
        · rw [if_neg hP, List.filter_cons_of_neg hP]
          simp
      rw [et]
      have eP : P x = if (p.2.1 == "steerer") = true then p.2.2.any fun r => mtQ r f else p.2.2.all fun r => mtQ r f := by
        show bfB (ps.getD x ("", "", [])) f = _
        rw [← hpe]
        rfl
      have io := isObj_tb (ps := ps)
      simp only [es1] at k4 ⊢
      generalize tb ps = T at k4 eo io ⊢
      simp only [b0]
      rw [sSeq_eq, sAsg_eq, k4, Res.toS_ok, tgN_eq]
      simp only [Fl.bind_next]
      cases hc : (p.2.1 == "steerer" : Bool) with
      | true =>
        rw [hc] at e0
        rw [hc, if_pos rfl] at eP
        rw [eP]
        cases hv : p.2.2.any fun r => mtQ r f with
        | true => rw [hv] at ga; simp -implicitDefEqProofs [io, eo, e0, ga, hal]
        | false => rw [hv] at ga; simp -implicitDefEqProofs [io, eo, e0, ga, sNil]
      | false =>
        rw [hc] at e0
        rw [hc, if_neg Bool.false_ne_true] at eP
        rw [eP]
        cases hv : p.2.2.all fun r => mtQ r f with
        | true => rw [hv] at gl; simp -implicitDefEqProofs [io, eo, e0, gl, hal]
        | false => rw [hv] at gl; simp -implicitDefEqProofs [io, eo, e0, gl, sNil]
  obtain ⟨rfl, u3, u4, rfl⟩ := q2
  rw [Nat.zero_add, List.length_range] at q1
  have k1 : itRange1 (aCons (eOp1 (gLenO 1 D_Tabled__lend_) (eVar 0)) aNil) [.val (tb ps), .val d, .acc [], .no, .no, .no] S' = .ok ((List.range ps.length).map fun (i : Nat) => D.int i) [] S' :=
    range1_eval (Nat.lt_of_le_of_lt hl5 (by decide)) (by rw [aCons_eq, len_e rfl hl5, Res.bindA_ok, aNil_eq, ResA.bindL_ok])
  unfold D_best_front b_best_front
  simp only [b0] at q1
  show _ = Res.ok (.lst (((List.range ps.length).filter P).map nD)) S'
  generalize ((List.range ps.length).filter P).map nD = A at q1 ⊢
  generalize tb ps = T at k1 q1 ⊢
  simp -implicitDefEqProofs [-itRange1_eq, fnD_eq, startD, k1, q1, frz1]
/-! ### the law's -/
theorem law_alive_eval (hl : h.length < 1000000) : D__law_alive [.lst (h.map fr)] S = .ok (fD (alv h)) S := by
  have k1 : itRange1 (aCons (eOp1 gLen (eVar 0)) aNil) [.val (.lst (h.map fr)), .no] S = .ok ((List.range h.length).map fun (i : Nat) => D.int i) [] S := range1_eval (by omega) (by simp)
  have k3 := lcL_filt (q := false) (g := []) (es := [.val (.lst (h.map fr)), .no]) (S := S) (t := tgN 1) (c := eOp2 iGt (eOp2 gIx (eOp2 gIx (eVar 0) (eVar 1)) (eC (.int 0))) (eC (.int 0))) (e := eVar 1)
    (fun (i : Nat) => D.int i) nD (fun i => decide (0 < (h.getD i (0, 1)).1)) (Gd.ok_nil S) (List.range h.length) [] fun i hi => by
      have hg := getD_some (d := ((0, 1) : Q2)) (List.mem_range.mp hi)
      have hx : gIx (.lst (h.map fr)) (.int (i : Nat)) S = .ok (fr (h.getD i (0, 1))) S := ixL hg
      have h0 := ix0 (S := S) (x := h.getD i (0, 1))
      refine ⟨[.val (.lst (h.map fr)), .val (.int (i : Nat))], by simp, ?_, fun _ => by simp [nD]⟩
      generalize D.lst (h.map fr) = H at hx ⊢
      generalize fr (h.getD i (0, 1)) = y at hx h0
      simp -implicitDefEqProofs [hx, h0]
  rw [if_neg Bool.false_ne_true, List.nil_append] at k3
  have k4 := eLc_run (vs := [1]) k1 (by rw [List.length_map, List.length_range]; exact hl) (by rfl) (by exact k3)
  unfold D__law_alive b__law_alive
  generalize D.lst (h.map fr) = H at k4 ⊢
  simp -implicitDefEqProofs [-eLc_eq, fnD_eq, startD, frz1, k4]
  rfl
theorem law_meets_eval (hl : f.length < 1000000) (hf : ∀ k ∈ f, k < r.length) : D__law_meets [fL r, fD f] S = .ok (.bl (mtQ r f)) S := by
  have k1 : itSeq (eVar 1) [.val (fL r), .val (fD f), .no] S = .ok (f.map nD) [] S := rfl
  let P : Nat → Bool := fun i => decide (0 < (r.getD i (0, 1)).1)
  have k3 := lcL_filt (q := false) (g := []) (es := [.val (fL r), .val (fD f), .no]) (S := S) (t := tgN 2) (c := eOp2 iGt (eOp2 gIx (eOp2 gIx (eVar 0) (eVar 2)) (eC (.int 0))) (eC (.int 0))) (e := eVar 2)
    nD nD P (Gd.ok_nil S) f [] fun i hi => by
      have hg := getD_some (d := ((0, 1) : Q2)) (hf i hi)
      have hx : gIx (fL r) (.int (i : Nat)) S = .ok (fr (r.getD i (0, 1))) S := ixL hg
      have h0 := ix0 (S := S) (x := r.getD i (0, 1))
      refine ⟨[.val (fL r), .val (fD f), .val (nD i)], by simp, ?_, fun _ => by simp [nD]⟩
      show _ = Res.ok (.bl (decide (0 < (r.getD i (0, 1)).1))) S
      generalize fL r = H at hx ⊢
      generalize fr (r.getD i (0, 1)) = y at hx h0
      simp -implicitDefEqProofs [nD, hx, h0]
  rw [if_neg Bool.false_ne_true, List.nil_append] at k3
  have k4 := eLc_run (vs := [2]) k1 (by rw [List.length_map]; exact hl) (by rfl) (by exact k3)
  have ne : gNe (.lst ((f.filter P).map nD)) (.lst []) S = .ok (.bl (!decide (f.filter P = []))) S := pe_f.gNe (n := 2) (by decide) (x := f.filter P) (y := []) trv trv (pe_f.thw trv) rfl
  have em : (!decide (f.filter P = [])) = mtQ r f := by
    unfold mtQ
    rw [Bool.eq_iff_iff, List.any_eq_true]
    simp [List.filter_eq_nil_iff, P]
  rw [em] at ne
  unfold D__law_meets b__law_meets
  generalize D.lst ((f.filter P).map nD) = A at k4 ne
  generalize fL r = R at k4 ⊢
  generalize fD f = F at k4 ⊢
  simp -implicitDefEqProofs [-eLc_eq, -itSeq_eq, fnD_eq, startD, k4, ne]
end
end K40
set_option Elab.async false
set_option linter.all false
set_option maxRecDepth 100000
set_option maxHeartbeats 2000000
set_option autoImplicit false
namespace K40
open PySem L2 DL
theorem in_true {α : Type} {P : α → Bool} {xs : List α} : (xor false (decide (true ∈ xs.map P))) = xs.any P := by
  rw [Bool.false_xor, Bool.eq_iff_iff, decide_eq_true_iff, List.any_eq_true, List.mem_map]
theorem in_false {α : Type} {P : α → Bool} {xs : List α} : (xor true (decide (false ∈ xs.map P))) = xs.all P := by
  rw [Bool.true_xor, Bool.eq_iff_iff, Bool.not_eq_true', decide_eq_false_iff_not, List.all_eq_true, List.mem_map]
  constructor
  · intro h x hx
    cases hp : P x with
    | true => rfl
    | false => exact absurd ⟨x, hx, hp⟩ h
  · rintro h ⟨x, hx, hp⟩
    rw [h x hx] at hp
    cases hp
section
variable {S : Store} {ps : List Plc} {L B M0 B0 N : Nat} {d : D} {f f0 : List Nat} {r h : List Q2}
theorem ix3L2 {a b c : D} : gIx (.lst [a, b, c]) (.int 2) S = .ok c S := Sq.ix (S := S) (i := 2) .lst rfl
theorem ix3L1 {a b c : D} : gIx (.lst [a, b, c]) (.int 1) S = .ok b S := Sq.ix (S := S) (i := 1) .lst rfl
theorem any_of_all {α : Type} {P : α → Bool} {xs : List α} (h : 1 ≤ xs.length) (ha : xs.all P = true) : xs.any P = true := by
  cases xs with
  | nil => cases h
  | cons x xs =>
    rw [List.all_cons, Bool.and_eq_true] at ha
    rw [List.any_cons, ha.1]
    rfl
theorem law_bfront_eval (w : Wz L B ps) (hl : f.length < 1000000) (hf : ∀ k ∈ f, k < ps.length) : D__law_best_front [spL ps, fD f] S = .ok (fD (bfQ ps f)) S := by
  have hl5 := w.n.2
  let b0 : SF := sSeq (sAsg (tgN 4) (eLc false [5] (itSeq (eOp2 gIx (eOp2 gIx (eVar 0) (eVar 3)) (eC (.int 2)))) (tgN 5) eYes (eCall 2 D__law_meets (aCons (eVar 5) (aCons (eVar 1) aNil)))))
    (sIf (eAnd (eOp2 (gInP false) (eC (.bl true)) (eVar 4)) (eOr (eOp2 gEq (eOp2 gIx (eOp2 gIx (eVar 0) (eVar 3)) (eC (.int 1))) (eC (.str "steerer"))) (eOp2 (gInP true) (eC (.bl false)) (eVar 4)))) (sApp 2 (eVar 3)) sNil)
  let P : Nat → Bool := fun i => bfB (ps.getD i ("", "", [])) f
  obtain ⟨es', S', q1, q2⟩ := forL_run (g := []) (t := tgN 3) (b := b0) (fun (i : Nat) => D.int i)
    (fun n es S' => S' = S ∧ ∃ u3 u4, es = [.val (spL ps), .val (fD f), .acc (((List.range n).filter P).map nD), u3, u4, .no]) (fun _ _ S' _ => Gd.ok_nil S') (List.range ps.length) 0 [.val (spL ps), .val (fD f), .acc [], .no, .no, .no] S ⟨rfl, _, _, rfl⟩ fun j x es S' hj q => by
      obtain ⟨rfl, u3, u4, rfl⟩ := q
      rw [Nat.zero_add]
      have hjl : j < ps.length := by simpa using (List.getElem?_eq_some_iff.mp hj).1
      have hxj : x = j := by
        have := (List.getElem?_eq_some_iff.mp hj).2
        simpa using this.symm
      subst hxj
      have g := getD_some (d := (("", "", []) : Plc)) hjl
      have hp := List.mem_of_getElem? g
      obtain ⟨p, hpe⟩ : ∃ p, p = ps.getD x ("", "", []) := ⟨_, rfl⟩
      rw [← hpe] at g hp
      have gx : gIx (spL ps) (.int (x : Nat)) S' = .ok (plL p) S' := ixL g
      have g2 : gIx (plL p) (.int 2) S' = .ok (.lst (p.2.2.map fL)) S' := ix3L2
      have g1 : gIx (plL p) (.int 1) S' = .ok (.str p.2.1) S' := ix3L1
      have e0 := gEq_own (S := S') (w.own p hp)
      have wr := (w.rows p hp).2.2
      generalize hacc : ((List.range x).filter P).map nD = acc
      have hal : acc.length < 1000000 := by
        rw [← hacc, List.length_map]
        have := List.length_filter_le P (List.range x)
        rw [List.length_range] at this
        omega
      let es1 : List SD := [.val (spL ps), .val (fD f), .acc acc, .val (.int (x : Nat)), u4, .no]
      have k1 : itSeq (eOp2 gIx (eOp2 gIx (eVar 0) (eVar 3)) (eC (.int 2))) es1 S' = .ok (p.2.2.map fL) [] S' := by
        simp only [es1]
        generalize spL ps = T at gx ⊢
        generalize plL p = Z at gx g2
        simp -implicitDefEqProofs [gx, g2]
      have k3 := lcL_map (q := false) (g := []) (es := es1) (S := S') (t := tgN 5) (c := eYes) (e := eCall 2 D__law_meets (aCons (eVar 5) (aCons (eVar 1) aNil)))
        fL (fun r => D.bl (mtQ r f)) (Gd.ok_nil S') p.2.2 [] fun r hr => by
          have em := law_meets_eval (S := S') (r := r) hl (fun k hk => by rw [(wr r hr).1]; exact hf k hk)
          refine ⟨[.val (spL ps), .val (fD f), .acc acc, .val (.int (x : Nat)), u4, .val (fL r)], by simp [es1], by simp, ?_⟩
          generalize fL r = R at em ⊢
          generalize fD f = F at em ⊢
          simp -implicitDefEqProofs [em]
      rw [if_neg Bool.false_ne_true, List.nil_append] at k3
      have k4 := eLc_run (vs := [5]) k1 (by rw [List.length_map]; have := (w.rows p hp).2.1; omega) (by rfl) (show lcL false [] _ eYes _ (wipeD es1 [5]) _ S' [] = _ from k3)
      have em : p.2.2.map (fun r => D.bl (mtQ r f)) = (p.2.2.map fun r => mtQ r f).map D.bl := by
        rw [List.map_map]
        rfl
      rw [em] at k4
      have i1 := pe_bl.gInP (S := S') (n := 1) (neg := false) (by decide) (x := true) (ys := p.2.2.map fun r => mtQ r f) (d := .bl true) trivial trv rfl ((pe_bl.lst).thw trv)
      have i2 := pe_bl.gInP (S := S') (n := 1) (neg := true) (by decide) (x := false) (ys := p.2.2.map fun r => mtQ r f) (d := .bl false) trivial trv rfl ((pe_bl.lst).thw trv)
      rw [in_true] at i1
      rw [in_false] at i2
      generalize D.lst ((p.2.2.map fun r => mtQ r f).map D.bl) = met at k4 i1 i2
      refine ⟨es1, [.val (spL ps), .val (fD f), .acc (((List.range (x + 1)).filter P).map nD), .val (.int (x : Nat)), .val met, .no], S', by simp [es1], ?_, rfl, _, _, rfl⟩
      have et : ((List.range (x + 1)).filter P).map nD = if P x = true then acc ++ [.int (x : Nat)] else acc := by
        rw [List.range_succ, List.filter_append, List.map_append, hacc]
        by_cases hP : P x = true
        · rw [if_pos hP, List.filter_cons_of_pos hP]
          rfl
        · rw [if_neg hP, List.filter_cons_of_neg hP]
          simp
      rw [et]
      have eP : P x = if (p.2.1 == "steerer") = true then p.2.2.any fun r => mtQ r f else p.2.2.all fun r => mtQ r f := by
        show bfB (ps.getD x ("", "", [])) f = _
        rw [← hpe]
        rfl
      have aoa := any_of_all (P := fun r => mtQ r f) (w.rows p hp).1
      simp only [es1] at k4 ⊢
      generalize spL ps = T at k4 gx ⊢
      generalize plL p = Z at gx g1
      generalize fD f = F at k4 ⊢
      simp only [b0]
      rw [sSeq_eq, sAsg_eq, k4, Res.toS_ok, tgN_eq]
      simp only [Fl.bind_next]
      cases hc : (p.2.1 == "steerer" : Bool) with
      | true =>
        rw [hc] at e0
        rw [hc, if_pos rfl] at eP
        rw [eP]
        cases hv : p.2.2.any fun r => mtQ r f with
        | true => rw [hv] at i1; simp -implicitDefEqProofs [gx, g1, e0, i1, hal]
        | false => rw [hv] at i1; simp -implicitDefEqProofs [gx, g1, e0, i1, sNil]
      | false =>
        rw [hc] at e0
        rw [hc, if_neg Bool.false_ne_true] at eP
        rw [eP]
        cases hv : p.2.2.all fun r => mtQ r f with
        | true =>
          rw [hv] at i2
          rw [aoa hv] at i1
          simp -implicitDefEqProofs [gx, g1, e0, i1, i2, hal]
        | false =>
          rw [hv] at i2
          cases hu : p.2.2.any fun r => mtQ r f with
          | true => rw [hu] at i1; simp -implicitDefEqProofs [gx, g1, e0, i1, i2, sNil]
          | false => rw [hu] at i1; simp -implicitDefEqProofs [gx, g1, e0, i1, i2, sNil]
  obtain ⟨rfl, u3, u4, rfl⟩ := q2
  rw [Nat.zero_add, List.length_range] at q1
  have gl : gLen (spL ps) S' = .ok (.int ps.length) S' := by
    have := (Sq.lst (S := S') (ds := ps.map plL)).len
    rw [List.length_map] at this
    exact this
  have k1 : itRange1 (aCons (eOp1 gLen (eVar 0)) aNil) [.val (spL ps), .val (fD f), .acc [], .no, .no, .no] S' = .ok ((List.range ps.length).map fun (i : Nat) => D.int i) [] S' :=
    range1_eval (Nat.lt_of_le_of_lt hl5 (by decide)) (by
      generalize spL ps = T at gl ⊢
      simp -implicitDefEqProofs [gl])
  unfold D__law_best_front b__law_best_front
  simp only [b0] at q1
  show _ = Res.ok (.lst (((List.range ps.length).filter P).map nD)) S'
  generalize ((List.range ps.length).filter P).map nD = A at q1 ⊢
  generalize spL ps = T at k1 q1 ⊢
  generalize fD f = F at k1 q1 ⊢
  simp -implicitDefEqProofs [-itRange1_eq, fnD_eq, startD, k1, q1, frz1]
/-! ### the row of fronts -/
abbrev Fi (ps : List Plc) (f0 : List Nat) (i : Nat) : List Nat := FR.it (bfQ ps) f0 i
abbrev FL (ps : List Plc) (f0 : List Nat) (i : Nat) : List (List Nat) := FR.itL (bfQ ps) f0 i
theorem fi_lt (h0 : ∀ k ∈ f0, k < ps.length) : ∀ i, ∀ k ∈ Fi ps f0 i, k < ps.length
  | 0, k, hk => h0 k hk
  | i + 1, k, hk => by
    have hk : k ∈ bfQ ps (Fi ps f0 i) := hk
    unfold bfQ at hk
    exact List.mem_range.mp (List.mem_filter.mp hk).1
theorem fi_len (h0 : f0.length ≤ ps.length) : ∀ i, (Fi ps f0 i).length ≤ ps.length
  | 0 => h0
  | i + 1 => by
    show (bfQ ps (Fi ps f0 i)).length ≤ _
    unfold bfQ
    have := List.length_filter_le (fun j => bfB (ps.getD j ("", "", [])) (Fi ps f0 i)) (List.range ps.length)
    rwa [List.length_range] at this
/-- they come again behind the k-th, with the j-th -/
structure Ag (ps : List Plc) (f0 : List Nat) (k j : Nat) : Prop where
  k32 : k < 32
  new : ∀ i, i < k → Fi ps f0 (i + 1) ∉ FL ps f0 i
  old : Fi ps f0 (k + 1) ∈ FL ps f0 k
  idx : (FL ps f0 k).findIdx? (fun y => decide (y = Fi ps f0 (k + 1))) = some j
theorem ag_ex (hl : h.length = ps.length) (h5 : ps.length ≤ 5) : ∃ k j, Ag ps (alv h) k j := by
  obtain ⟨k, h1, h2, h3⟩ := fronts_again hl h5
  cases e : (FL ps (alv h) k).findIdx? (fun y => decide (y = Fi ps (alv h) (k + 1))) with
  | none =>
    rw [List.findIdx?_eq_none_iff] at e
    have := e _ h3
    rw [decide_eq_false_iff_not] at this
    exact absurd rfl this
  | some j => exact ⟨k, j, h1, h2, h3, e⟩
theorem itL_end {i : Nat} : ∃ l, (FL ps f0 i).map fD = l ++ [fD (Fi ps f0 i)] := by
  cases i with
  | zero => exact ⟨[], rfl⟩
  | succ i => exact ⟨(FL ps f0 i).map fD, by rw [FL, FR.itL_succ, List.map_append]; rfl⟩
theorem law_fronts_eval {k j : Nat} (w : Wz L B ps) (h0 : ∀ k ∈ f0, k < ps.length) (hl0 : f0.length ≤ ps.length) (a : Ag ps f0 k j) :
    D__law_fronts [spL ps, fD f0] S = .ok (.tup [.lst ((FL ps f0 k).map fD), .int j]) S := by
  have hl5 := w.n.2
  have bf : ∀ i, D__law_best_front [spL ps, fD (Fi ps f0 i)] S = .ok (fD (Fi ps f0 (i + 1))) S := fun i => law_bfront_eval w (by have := fi_len hl0 i; omega) (fi_lt h0 i)
  have gl : ∀ i, gIx (.lst ((FL ps f0 i).map fD)) (.int (-1)) S = .ok (fD (Fi ps f0 i)) S := fun i => by
    obtain ⟨l, e⟩ := itL_end (ps := ps) (f0 := f0) (i := i)
    rw [e]
    exact gIx_lastL
  have gi : ∀ i, i < k → gInP true (fD (Fi ps f0 (i + 1))) (.lst ((FL ps f0 i).map fD)) S = .ok (.bl true) S := fun i hi =>
    pe_f.gInP_not (n := 2) (by decide) trv trv2 (pe_f.thw trv) ((pe_f.lst).thw trv2) (a.new i hi)
  have gk : gInP true (fD (Fi ps f0 (k + 1))) (.lst ((FL ps f0 k).map fD)) S = .ok (.bl false) S :=
    pe_f.gInP_mem (n := 2) (by decide) trv trv2 (pe_f.thw trv) ((pe_f.lst).thw trv2) a.old
  have gx : gIdx (.lst ((FL ps f0 k).map fD)) (fD (Fi ps f0 (k + 1))) S = .ok (.int j) S := pe_f.gIdx (n := 2) (by decide) trv trv2 (pe_f.thw trv) ((pe_f.lst).thw trv2) a.idx
  have len : ∀ i, ((FL ps f0 i).map fD).length = i + 1 := fun i => by rw [List.length_map, FR.itL_len]
  obtain ⟨es', S', q1, q2⟩ := sWhile_run (c := eOp2 (gInP true) (eCall 2 D__law_best_front (aCons (eVar 0) (aCons (eOp2 gIx (eVarT 2) (eOp1 iNeg (eC (.int 1)))) aNil))) (eVarT 2)) (b := sApp 2 (eCall 2 D__law_best_front (aCons (eVar 0) (aCons (eOp2 gIx (eVarT 2) (eOp1 iNeg (eC (.int 1)))) aNil))))
    (fun i es S' => S' = S ∧ i ≤ k ∧ es = [.val (spL ps), .val (fD f0), .acc ((FL ps f0 i).map fD)]) (fun es S' => S' = S ∧ es = [.val (spL ps), .val (fD f0), .acc ((FL ps f0 k).map fD)]) k
    (fun i es S' hi ⟨hS, _, he⟩ => by
      subst hS he
      have e1 := gi i hi
      have e2 := bf i
      have e3 := gl i
      have hlen := len i
      have es2 : (FL ps f0 (i + 1)).map fD = (FL ps f0 i).map fD ++ [fD (Fi ps f0 (i + 1))] := by
        rw [FL, FR.itL_succ, List.map_append]
        rfl
      rw [es2]
      generalize (FL ps f0 i).map fD = A at e1 e3 hlen ⊢
      generalize fD (Fi ps f0 (i + 1)) = X at e1 e2 ⊢
      generalize fD (Fi ps f0 i) = Y at e2 e3
      generalize spL ps = T at e2 ⊢
      have hk := a.k32
      have hA : A.length < 1000000 := by omega
      exact ⟨S', [.val T, .val (fD f0), .acc (A ++ [X])], S', by simp -implicitDefEqProofs [e1, e2, e3], by simp -implicitDefEqProofs [e2, e3, hA], rfl, hi, rfl⟩)
    (fun es S' ⟨hS, _, he⟩ => by
      subst hS he
      have e1 := gk
      have e2 := bf k
      have e3 := gl k
      refine ⟨S', ?_, rfl, rfl⟩
      generalize (FL ps f0 k).map fD = A at e1 e3 ⊢
      generalize fD (Fi ps f0 (k + 1)) = X at e1 e2 ⊢
      generalize fD (Fi ps f0 k) = Y at e2 e3
      generalize spL ps = T at e2 ⊢
      simp -implicitDefEqProofs [e1, e2, e3])
    (Nat.zero_le k) (es := [.val (spL ps), .val (fD f0), .acc [fD f0]]) (S := S) ⟨rfl, Nat.zero_le k, rfl⟩
  obtain ⟨rfl, rfl⟩ := q2
  have e2 := bf k
  have e3 := gl k
  unfold D__law_fronts b__law_fronts
  generalize (FL ps f0 k).map fD = A at gx e3 q1 ⊢
  generalize fD (Fi ps f0 (k + 1)) = X at e2 gx
  generalize fD (Fi ps f0 k) = Y at e2 e3
  generalize spL ps = T at e2 q1 ⊢
  generalize fD f0 = F at q1 ⊢
  have em : eMt gIdx (eVarT 2) (eCall 2 D__law_best_front (aCons (eVar 0) (aCons (eOp2 gIx (eVarT 2) (eOp1 iNeg (eC (.int 1)))) aNil))) [.val T, .val F, .val (.lst A)] S' = .ok (.int j) S' := by
    rw [eMt_ok (d := .lst A) (e := X) (S1 := S') (S2 := S') (by simp) rfl (by simp -implicitDefEqProofs [e2, e3]), gx]
    rfl
  simp -implicitDefEqProofs [fnD_eq, startD, q1, frz1, em]
end
end K40
set_option Elab.async false
set_option linter.all false
set_option maxRecDepth 100000
set_option maxHeartbeats 2000000
set_option autoImplicit false
namespace K40
open PySem L2 DL
section
variable {S : Store} {ps : List Plc} {L B M0 B0 N : Nat} {d : D} {f0 : List Nat} {h : List Q2}
/-- the told row: its first item is the cell n -/
def frC (ps : List Plc) (f0 : List Nat) (n i : Nat) : List D := .cell n :: (List.range i).map fun j => fD (Fi ps f0 (j + 1))
theorem frC_succ {n i : Nat} : frC ps f0 n (i + 1) = frC ps f0 n i ++ [fD (Fi ps f0 (i + 1))] := by
  unfold frC
  rw [List.range_succ, List.map_append]
  rfl
theorem frC_len {n i : Nat} : (frC ps f0 n i).length = i + 1 := by simp [frC]
theorem FL_tail {i : Nat} : (FL ps f0 i).map fD = fD f0 :: (List.range i).map fun j => fD (Fi ps f0 (j + 1)) := by
  induction i with
  | zero => rfl
  | succ i ih =>
    rw [FL, FR.itL_succ, List.map_append, List.range_succ, List.map_append, ← List.cons_append, ← ih]
    rfl
theorem pe_n : Pe (fun _ : Nat => True) 1 nD := pe_nat
theorem thcs_fD {c : Nat → D} : ∀ xs : List (List Nat), thcs c (xs.map fD) = xs.map fD := fun xs => pe_f.thcs c xs trv2
theorem thw_fr {a b i : Nat} (ha : S[a]? = some (f0.map nD)) (hb : S[b]? = some (frC ps f0 a i)) : thw S (.cell b) = .lst ((FL ps f0 i).map fD) := by
  show cellD S 6 b = _
  rw [cellD, hb]
  simp only
  rw [FL_tail, frC, thcs]
  have e1 : thc (cellD S 5) (.cell a) = fD f0 := by
    show cellD S 5 a = _
    rw [cellD, ha]
    simp only
    rw [pe_n.thcs _ _ trv]
    rfl
  have e2 : (List.range i).map (fun j => fD (Fi ps f0 (j + 1))) = ((List.range i).map fun j => Fi ps f0 (j + 1)).map fD := by
    rw [List.map_map]
    rfl
  rw [e1, e2, thcs_fD]
theorem alv_lt (hl : h.length = ps.length) : ∀ k ∈ alv h, k < ps.length := fun k hk => by
  unfold alv at hk
  have := List.mem_range.mp (List.mem_filter.mp hk).1
  omega
theorem alv_len : (alv h).length ≤ h.length := by
  unfold alv
  have := List.length_filter_le (fun i => decide (0 < (h.getD i (0, 1)).1)) (List.range h.length)
  rwa [List.length_range] at this
theorem fronts_eval {e : Q2 → D} {k j : Nat} (t : Tb ps) (r : Rn L B M0 B0 N ps h) (n2 : ∀ x, Num (e x) x) (hd : Sq S d (h.map e)) (a : Ag ps (alv h) k j) :
    D_fronts [tb ps, d] S = .ok (.tup [.cell (S.length + 1), .int j]) (S ++ [(alv h).map nD, frC ps (alv h) S.length k]) := by
  have hl5 := r.w.n.2
  have hlen := r.len
  have tq := t.nn
  have hq : ∀ x ∈ h, Qk x ∧ 0 ≤ x.1 := fun x hx => ⟨rn_q r x hx, r.nn x hx⟩
  have et := toldR r n2 hd
  have ea := alive_eval (S := S) (h := h) (by omega) hq
  have h0 : ∀ k ∈ alv h, k < ps.length := alv_lt hlen
  have hl0 : (alv h).length ≤ ps.length := by have := alv_len (h := h); omega
  generalize alv h = f0 at *
  let A : List D := f0.map nD
  let F : Nat → List D := frC ps f0 S.length
  let St : Nat → Store := fun i => S ++ [A, F i]
  have gA : ∀ i, (St i)[S.length]? = some A := fun i => get2a
  have gF : ∀ i, (St i)[S.length + 1]? = some (F i) := fun i => get2b
  have th : ∀ i, thw (St i) (.cell (S.length + 1)) = .lst ((FL ps f0 i).map fD) := fun i => thw_fr (gA i) (gF i)
  have b1 : D_best_front [tb ps, .cell S.length] (St 0) = .ok (fD (Fi ps f0 1)) (St 0) := bfront_eval (f := f0) r.w tq (.cell (gA 0)) (by omega) h0
  have bf : ∀ i m, D_best_front [tb ps, fD (Fi ps f0 (i + 1))] (St m) = .ok (fD (Fi ps f0 (i + 2))) (St m) := fun i m => bfront_eval (f := Fi ps f0 (i + 1)) r.w tq .lst (Nat.lt_of_le_of_lt (fi_len hl0 (i + 1)) (by omega)) (fi_lt h0 (i + 1))
  have gi : ∀ i, i < k → gInP true (fD (Fi ps f0 (i + 1))) (.cell (S.length + 1)) (St i) = .ok (.bl true) (St i) := fun i hi => pe_f.gInP_not (n := 2) (by decide) trv trv2 (pe_f.thw trv) (th i) (a.new i hi)
  have gk : gInP true (fD (Fi ps f0 (k + 1))) (.cell (S.length + 1)) (St k) = .ok (.bl false) (St k) := pe_f.gInP_mem (n := 2) (by decide) trv trv2 (pe_f.thw trv) (th k) a.old
  have gx : gIdx (.cell (S.length + 1)) (fD (Fi ps f0 (k + 1))) (St k) = .ok (.int j) (St k) := pe_f.gIdx (n := 2) (by decide) trv trv2 (pe_f.thw trv) (th k) a.idx
  have g0 : gIx (.cell (S.length + 1)) (.int 0) (St 0) = .ok (.cell S.length) (St 0) := gIx_cell (i := 0) (gF 0) rfl
  have ss : ∀ i, (St i).set (S.length + 1) (F i ++ [fD (Fi ps f0 (i + 1))]) = St (i + 1) := fun i => by
    show (S ++ [A, F i]).set (S.length + 1) _ = S ++ [A, F (i + 1)]
    rw [set2b]
    show _ = S ++ [A, frC ps f0 S.length (i + 1)]
    rw [frC_succ]
  have s0 : (S ++ [A]) ++ [[.cell S.length]] = St 0 := by
    show _ = S ++ [A, [.cell S.length]]
    rw [List.append_assoc]
    rfl
  have sl : (S ++ [A]).length = S.length + 1 := by simp
  have fl : ∀ i, (F i).length = i + 1 := fun i => frC_len
  have hk := a.k32
  obtain ⟨es', S', q1, q2⟩ := sWhile_run (c := eOp2 (gInP true) (eVar 3) (eVar 2)) (b := sSeq (sAppC (eVar 2) (eVar 3)) (sAsg (tgN 3) (eCall 2 D_best_front (aCons (eVar 0) (aCons (eVar 3) aNil)))))
    (fun i es S' => S' = St i ∧ i ≤ k ∧ es = [.val (tb ps), .val d, .val (.cell (S.length + 1)), .val (fD (Fi ps f0 (i + 1)))]) (fun es S' => S' = St k ∧ es = [.val (tb ps), .val d, .val (.cell (S.length + 1)), .val (fD (Fi ps f0 (k + 1)))]) k
    (fun i es S' hi ⟨hS, _, he⟩ => by
      subst hS he
      have e1 := gi i hi
      have e2 := bf i (i + 1)
      have e3 := gF i
      have e4 := ss i
      have e5 := fl i
      refine ⟨St i, [.val (tb ps), .val d, .val (.cell (S.length + 1)), .val (fD (Fi ps f0 (i + 2)))], St (i + 1), ?_, ?_, rfl, hi, rfl⟩
      · generalize fD (Fi ps f0 (i + 1)) = X at e1 ⊢
        simp -implicitDefEqProofs [e1]
      · have e6 : (F i).length < 1000000 := by omega
        generalize St (i + 1) = S2 at e2 e4 ⊢
        generalize St i = S1 at e1 e3 e4 ⊢
        generalize F i = Z at e3 e4 e6
        generalize fD (Fi ps f0 (i + 1)) = X at e2 e4 ⊢
        generalize fD (Fi ps f0 (i + 2)) = Y at e2 ⊢
        generalize tb ps = T at e2 ⊢
        generalize S.length + 1 = c at e3 e4 ⊢
        simp -implicitDefEqProofs [e2, e3, e4, e6])
    (fun es S' ⟨hS, _, he⟩ => by
      subst hS he
      refine ⟨St k, ?_, rfl, rfl⟩
      generalize fD (Fi ps f0 (k + 1)) = X at gk ⊢
      simp -implicitDefEqProofs [gk])
    (Nat.zero_le k) (es := [.val (tb ps), .val d, .val (.cell (S.length + 1)), .val (fD (Fi ps f0 1))]) (S := St 0) ⟨rfl, Nat.zero_le k, rfl⟩
  obtain ⟨rfl, rfl⟩ := q2
  have nt := need_table_eval (S := S) (ps := ps)
  show _ = Res.ok _ (St k)
  have gFk := gF k
  generalize St k = Sk at q1 gx gFk ⊢
  have il : isLs Sk (.cell (S.length + 1)) = true := isLs_cell gFk
  have em : ∀ T d', eMt gIdx (eVar 2) (eVar 3) [.val T, .val d', .val (.cell (S.length + 1)), .val (fD (Fi ps f0 (k + 1)))] Sk = .ok (.int j) Sk := fun T d' => by
    rw [eMt_ok (d := .cell (S.length + 1)) (e := fD (Fi ps f0 (k + 1))) (S1 := Sk) (S2 := Sk) rfl il rfl, gx]
    rfl
  have ea' : D_alive_in [.lst (h.map rt)] S = .ok (.cell S.length) (S ++ [A]) := ea
  unfold D_fronts b_fronts
  generalize fD (Fi ps f0 (k + 1)) = X at em q1
  generalize fD (Fi ps f0 1) = Y at b1 q1
  generalize D.lst (h.map rt) = H at et ea'
  generalize tb ps = T at nt et b1 q1 ⊢
  generalize St 0 = S0 at s0 b1 g0 q1
  generalize S ++ [A] = SA at ea' s0 sl
  generalize S.length = n at ea' s0 sl g0 b1 q1 em ⊢
  simp -implicitDefEqProofs [fnD_eq, startD, nt, et, ea', sl, s0, g0, b1, q1, em]
def fiN (ps : List Plc) (f0 : List Nat) (k : Nat) : Option Nat := (FL ps f0 k).findIdx? fun y => decide (y = [])
theorem in_nil {k : Nat} {x : D} (th : thw S x = .lst ((FL ps f0 k).map fD)) (hl : isLs S x = true) {es : List SD} {i : Nat} (hi : es[i]? = some (.val x)) :
    eIf (eOp2 (gInP false) (eLst aNil) (eVar i)) (eMt gIdx (eVar i) (eLst aNil)) (eC .non) es S = .ok (optN (fiN ps f0 k)) S := by
  have ev : eVar i es S = .ok x S := by rw [eVar_eq, hi]
  have en : eLst aNil es S = .ok (fD []) S := rfl
  cases e : fiN ps f0 k with
  | none =>
    have ni : [] ∉ FL ps f0 k := fun hm => by
      unfold fiN at e
      rw [List.findIdx?_eq_none_iff] at e
      have := e _ hm
      rw [decide_eq_false_iff_not] at this
      exact this rfl
    have g := pe_f.gInP_not (S := S) (n := 2) (neg := false) (by decide) trv trv2 (pe_f.thw trv) th ni
    rw [eIf_eq, eOp2_eq, en, Res.bind_ok, ev, Res.bind_ok, g]
    rfl
  | some j =>
    have mi : [] ∈ FL ps f0 k := by
      have e' := e
      unfold fiN at e'
      rw [List.findIdx?_eq_some_iff_getElem] at e'
      obtain ⟨hl, h1, _⟩ := e'
      have := of_decide_eq_true h1
      rw [← this]
      exact List.getElem_mem hl
    have g := pe_f.gInP_mem (S := S) (n := 2) (neg := false) (by decide) trv trv2 (pe_f.thw trv) th mi
    have gx := pe_f.gIdx (S := S) (n := 2) (by decide) trv trv2 (pe_f.thw (x := []) trv) th e
    rw [eIf_eq, eOp2_eq, en, Res.bind_ok, ev, Res.bind_ok, g]
    show eMt gIdx (eVar i) (eLst aNil) es S = _
    rw [eMt_ok ev hl en, gx]
    rfl
theorem death_eval {e : Q2 → D} {k j : Nat} (t : Tb ps) (r : Rn L B M0 B0 N ps h) (n2 : ∀ x, Num (e x) x) (hd : Sq S d (h.map e)) (a : Ag ps (alv h) k j) :
    ∃ J, D_death [tb ps, d] S = .ok (optN (fiN ps (alv h) k)) (S ++ J) := by
  have ef := fronts_eval t r n2 hd a
  have gA : (S ++ [(alv h).map nD, frC ps (alv h) S.length k])[S.length]? = some ((alv h).map nD) := get2a
  have gF : (S ++ [(alv h).map nD, frC ps (alv h) S.length k])[S.length + 1]? = some (frC ps (alv h) S.length k) := get2b
  have th := thw_fr gA gF
  have il := isLs_cell gF
  refine ⟨[(alv h).map nD, frC ps (alv h) S.length k], ?_⟩
  have g0 : gIx (.tup [.cell (S.length + 1), .int j]) (.int 0) (S ++ [(alv h).map nD, frC ps (alv h) S.length k]) = .ok (.cell (S.length + 1)) (S ++ [(alv h).map nD, frC ps (alv h) S.length k]) := gIx_tup0
  generalize S ++ [(alv h).map nD, frC ps (alv h) S.length k] = S' at ef th il g0 ⊢
  have ei := fun T d' => in_nil (es := [.val T, .val d', .val (.cell (S.length + 1))]) (i := 2) th il rfl
  unfold D_death b_death
  generalize D.tup [.cell (S.length + 1), .int j] = tt at ef g0
  generalize tb ps = T at ef ⊢
  simp -implicitDefEqProofs [-eIf_eq, fnD_eq, startD, ef, g0, ei]
end
end K40
set_option Elab.async false
set_option linter.all false
set_option maxRecDepth 100000
set_option maxHeartbeats 2000000
set_option autoImplicit false
namespace K40
open PySem L2 DL
section
variable {S S0 : Store} {c : Nat} {k : Int} {ps : List Plc} {B n : Nat} {nb : List Str}
theorem nu0 : Nu (0, 1) := mn_ok _ List.mem_cons_self
theorem few_eval {n : Nat} (h : Bx S0 c k S) (hk : k + 2 * n ≤ 800000000) (hk0 : 0 ≤ k) (hn : n ≤ 5) : ∃ (xs : List Q2) (S' : Store), D__law_few [.cell c, .int n] S = .ok (.lst (xs.map fr)) S' ∧ xs.length = n ∧ (∀ x ∈ xs, Nu x) ∧ Bx S0 c (k + 2 * n) S' := by
  have k1 : itRange1 (aCons (eVar 1) aNil) [.val (.cell c), .val (.int n), .no] S = .ok ((List.range n).map fun (i : Nat) => D.int i) [] S := range1_eval (by omega) (by simp)
  obtain ⟨xs, S', q1, q2, q3, q4⟩ := lcL_draw (es := [.val (.cell c), .val (.int n), .no]) (t := tgN 2) (c := eYes) (e := eIf (eOp2 gEq (eCall 2 D__law_take (aCons (eVar 0) (aCons (eC (.int 2)) aNil))) (eC (.int 0))) (eCall 1 D__law_number (aCons (eVar 0) aNil)) (eTup (aCons (eC (.int 0)) (aCons (eC (.int 1)) aNil)))) (fun (i : Nat) => D.int i) fr Nu (fun i S => i ≤ n ∧ Bx S0 c (k + 2 * (n - i : Nat)) S) (List.range n) 0 S [] ⟨by simp, by
      rw [List.length_range, Nat.zero_add, Nat.sub_self]
      exact h.mono (by omega)⟩ fun x hx j S1 hP => by
        obtain ⟨w, S2, t1, t2, t3, B2⟩ := take_eval (w := 2) hP.2 (by omega) (by decide) (up8 (n := 5) (by decide) (by decide))
        by_cases hw : w = 0
        · subst hw
          obtain ⟨x', S3, e1, e2, e3⟩ := number_eval B2 (by omega)
          exact ⟨[.val (.cell c), .val (.int n), .val (.int x)], x', S3, by simp, by simp, by simp -implicitDefEqProofs [t1, e1], e2, by omega, e3.mono (by omega)⟩
        · exact ⟨[.val (.cell c), .val (.int n), .val (.int x)], (0, 1), S2, by simp, by simp, by simp -implicitDefEqProofs [t1, hw, fr], nu0, by omega, B2.mono (by omega)⟩
  refine ⟨xs, S', ?_, by rw [q2, List.length_range], q3, q4.2.mono (by omega)⟩
  have k4 := eLc_run (q := false) (vs := [2]) k1 (by rw [List.length_map, List.length_range]; omega) (by rfl) (by exact q1)
  unfold D__law_few b__law_few
  rw [List.nil_append] at k4
  simp -implicitDefEqProofs [-eLc_eq, -eIf_eq, fnD_eq, startD, k4]
theorem ze0 : Ze BN (0, 1) := nu0.ze
theorem thin_eval (h : Bx S0 c k S) (hk : k ≤ 700000000) (hk0 : 0 ≤ k) (sp : Sp BN nb n ps) (pl : ps.length = n) (n5 : n ≤ 5) (h4 : mxR n ≤ 4) :
    ∃ (qs : List Plc) (S' : Store), D__law_thin [.cell c, spL ps] S = .ok (spL qs) S' ∧ qs.length = n ∧ Sp BN nb n qs ∧ Bx S0 c (k + 200) S' := by
  obtain ⟨w0, S1, t1, t2, t3, B1⟩ := take_eval (w := 3) h (by omega) (by decide) (up8 (n := 5) (by decide) (by decide))
  obtain ⟨w, hw⟩ : ∃ w, w = 2 + w0 := ⟨_, rfl⟩
  let b0 : SF := sSeq (sAsg (tgN 7) (eLc false [9] (itSeq (eVar 6)) (tgN 9) eYes (eLc false [8] (itSeq (eVar 9)) (tgN 8) eYes (eIf (eOp2 gEq (eCall 2 D__law_take (aCons (eVar 0) (aCons (eVar 2) aNil))) (eC (.int 0))) (eVar 8) (eTup (aCons (eC (.int 0)) (aCons (eC (.int 1)) aNil)))))))
    (sApp 3 (eLst (aCons (eVar 4) (aCons (eVar 5) (aCons (eVar 7) aNil)))))
  obtain ⟨es', S', q1, q2⟩ := forL_run (g := []) (t := tgT 3 (tsCons (tgN 4) (tsCons (tgN 5) (tsCons (tgN 6) tsNil)))) (b := b0) plL
    (fun i es S' => i ≤ n ∧ Bx S0 c (k + 1 + (20 * i : Nat)) S' ∧ ∃ (qs : List Plc) (u4 u5 u6 u7 : SD), qs.length = i ∧ qs.map (·.1) = (ps.take i).map (·.1) ∧ (∀ p ∈ qs, Own p.2.1) ∧ (∀ p ∈ qs, 1 ≤ p.2.2.length ∧ p.2.2.length ≤ mxR n ∧ ∀ r ∈ p.2.2, r.length = n ∧ ∀ x ∈ r, Ze BN x) ∧ es = [.val (.cell c), .val (spL ps), .val (.int w), .acc (qs.map plL), u4, u5, u6, u7, .no, .no]) (fun _ _ S' _ => Gd.ok_nil S') ps 0 [.val (.cell c), .val (spL ps), .val (.int w), .acc [], .no, .no, .no, .no, .no, .no] S1 ⟨Nat.zero_le _, B1.mono (by omega), [], _, _, _, _, rfl, rfl, fun p hp => absurd hp (by simp), fun p hp => absurd hp (by simp), rfl⟩ fun j p es S' hj q => by
      obtain ⟨_, B2, qs, u4, u5, u6, u7, ql, qn, qo, qr, rfl⟩ := q
      rw [Nat.zero_add] at B2 ql qn
      have hjl := (List.getElem?_eq_some_iff.mp hj).1
      have hp := List.mem_of_getElem? hj
      obtain ⟨r1, r2, r3⟩ := sp.rows p hp
      generalize hacc : qs.map plL = acc
      have hal : acc.length < 1000000 := by
        rw [← hacc, List.length_map]
        omega
      let es1 : List SD := [.val (.cell c), .val (spL ps), .val (.int w), .acc acc, .val (.str p.1), .val (.str p.2.1), .val (.lst (p.2.2.map fL)), u7, .no, .no]
      have k1 : itSeq (eVar 6) es1 S' = .ok (p.2.2.map fL) [] S' := rfl
      obtain ⟨rs, S2, m1, m2, m3, m4⟩ := lcL_draw (es := es1) (t := tgN 9) (c := eYes) (e := eLc false [8] (itSeq (eVar 9)) (tgN 8) eYes (eIf (eOp2 gEq (eCall 2 D__law_take (aCons (eVar 0) (aCons (eVar 2) aNil))) (eC (.int 0))) (eVar 8) (eTup (aCons (eC (.int 0)) (aCons (eC (.int 1)) aNil))))) fL fL (fun r => r.length = n ∧ ∀ x ∈ r, Ze BN x) (fun i S => i ≤ p.2.2.length ∧ Bx S0 c (k + 1 + (20 * j : Nat) + (5 * (p.2.2.length - i) : Nat)) S) p.2.2 0 S' [] ⟨by simp, by
          rw [Nat.zero_add, Nat.sub_self]
          exact B2.mono (by omega)⟩ fun r hr l S3 hP => by
            obtain ⟨rl, rz⟩ := r3 r hr
            let es2 : List SD := [.val (.cell c), .val (spL ps), .val (.int w), .acc acc, .val (.str p.1), .val (.str p.2.1), .val (.lst (p.2.2.map fL)), u7, .no, .val (fL r)]
            have j1 : itSeq (eVar 9) es2 S3 = .ok (r.map fr) [] S3 := rfl
            obtain ⟨xs, S4, v1, v2, v3, v4⟩ := lcL_draw (es := es2) (t := tgN 8) (c := eYes) (e := eIf (eOp2 gEq (eCall 2 D__law_take (aCons (eVar 0) (aCons (eVar 2) aNil))) (eC (.int 0))) (eVar 8) (eTup (aCons (eC (.int 0)) (aCons (eC (.int 1)) aNil)))) fr fr (Ze BN) (fun i S => i ≤ n ∧ Bx S0 c (k + 1 + (20 * j : Nat) + (5 * (p.2.2.length - (l + 1)) : Nat) + (n - i : Nat)) S) r 0 S3 [] ⟨by omega, by
                rw [Nat.zero_add, rl, Nat.sub_self]
                exact hP.2.mono (by omega)⟩ fun x hx m S5 hP5 => by
                  obtain ⟨z, S6, y1, y2, y3, B6⟩ := take_eval (w := w) hP5.2 (by omega) (by omega) (up8 (n := 5) (by
                    have e5 : (2 : Nat) ^ 5 = 32 := by decide
                    omega) (by decide))
                  by_cases hz : z = 0
                  · subst hz
                    refine ⟨es2.set 8 (.val (fr x)), x, S6, by simp [es2], by simp, ?_, rz x hx, by omega, B6.mono (by omega)⟩
                    simp only [es2]
                    generalize spL ps = s1
                    generalize D.lst (p.2.2.map fL) = s2
                    generalize fL r = s3
                    generalize fr x = s4
                    simp -implicitDefEqProofs [y1]
                  · refine ⟨es2.set 8 (.val (fr x)), (0, 1), S6, by simp [es2], by simp, ?_, ze0, by omega, B6.mono (by omega)⟩
                    simp only [es2]
                    generalize spL ps = s1
                    generalize D.lst (p.2.2.map fL) = s2
                    generalize fL r = s3
                    generalize fr x = s4
                    simp -implicitDefEqProofs [y1, hz, fr]
            rw [List.nil_append] at v1
            have j4 := eLc_run (q := false) (vs := [8]) j1 (by rw [List.length_map]; omega) (by rfl) (show lcL false [] _ eYes _ (wipeD es2 [8]) _ S3 [] = _ from v1)
            exact ⟨es2, xs, S4, by simp [es1, es2], by simp, j4, ⟨by rw [v2, rl], v3⟩, by omega, v4.2.mono (by omega)⟩
      rw [List.nil_append] at m1
      have k4 := eLc_run (q := false) (vs := [9]) k1 (by rw [List.length_map]; omega) (by rfl) (show lcL false [] _ eYes _ (wipeD es1 [9]) _ S' [] = _ from m1)
      refine ⟨es1, [.val (.cell c), .val (spL ps), .val (.int w), .acc ((qs ++ [(p.1, p.2.1, rs)]).map plL), .val (.str p.1), .val (.str p.2.1), .val (.lst (p.2.2.map fL)), .val (.lst (rs.map fL)), .no, .no], S2, by simp [plL, es1], ?_, by omega, m4.2.mono (by omega), qs ++ [(p.1, p.2.1, rs)], _, _, _, _, by rw [List.length_append, ql]; simp, ?_, fun q hq => ?_, fun q hq => ?_, rfl⟩
      · have ep : (qs ++ [(p.1, p.2.1, rs)]).map plL = acc ++ [.lst [.str p.1, .str p.2.1, .lst (rs.map fL)]] := by
          rw [List.map_append, hacc]
          rfl
        rw [ep]
        simp only [es1] at k4 ⊢
        generalize spL ps = s1 at k4 ⊢
        generalize D.lst (p.2.2.map fL) = s2 at k4 ⊢
        generalize D.lst (rs.map fL) = s3 at k4 ⊢
        simp only [b0]
        simp -implicitDefEqProofs [-eLc_eq, k4, hal]
      · rw [Nat.zero_add, List.map_append, qn, List.take_add_one, hj, List.map_append]
        rfl
      · rcases List.mem_append.mp hq with hq | hq
        · exact qo q hq
        · rcases List.mem_singleton.mp hq with rfl
          exact sp.own p hp
      · rcases List.mem_append.mp hq with hq | hq
        · exact qr q hq
        · rcases List.mem_singleton.mp hq with rfl
          exact ⟨by rw [m2]; exact r1, by rw [m2]; exact r2, m3⟩
  obtain ⟨_, B2, qs, u4, u5, u6, u7, ql, qn, qo, qr, rfl⟩ := q2
  rw [Nat.zero_add] at B2 ql qn
  have sp' : Sp BN nb n qs := ⟨by rw [qn, List.take_length, sp.nms, ql], qo, qr⟩
  refine ⟨qs, S', ?_, by rw [ql, pl], sp', B2.mono (by omega)⟩
  have it : itSeq (eVar 1) [.val (.cell c), .val (spL ps), .val (.int w), .acc [], .no, .no, .no, .no, .no, .no] S1 = .ok (ps.map plL) [] S1 := rfl
  simp only [b0] at q1
  unfold D__law_thin b__law_thin
  show _ = Res.ok (.lst (qs.map plL)) S'
  generalize qs.map plL = A at q1 ⊢
  generalize spL ps = s1 at q1 it ⊢
  simp -implicitDefEqProofs [-itSeq_eq, fnD_eq, startD, t1, ← hw, it, q1, frz1]
/-! ### sizes for 32 steps -/
theorem mI_pos : ∀ i, 0 < mI 84 84 i
  | 0 => by decide
  | i + 1 => show 0 < 84 * mI 84 84 i by
    have := mI_pos i
    omega
theorem mI_mono {i : Nat} : ∀ d, mI 84 84 i ≤ mI 84 84 (i + d)
  | 0 => Nat.le_refl _
  | d + 1 => Nat.le_trans (mI_mono d) (show mI 84 84 (i + d) ≤ 84 * mI 84 84 (i + d) by omega)
theorem bI_step {B i : Nat} (hB : 1 ≤ B) : bI B BN i ≤ bI B BN (i + 1) := by
  show bI B BN i ≤ 5 * (B * bI B BN i)
  have := Nat.mul_le_mul_right (bI B BN i) hB
  omega
theorem bI_mono {B i : Nat} (hB : 1 ≤ B) : ∀ d, bI B BN i ≤ bI B BN (i + d)
  | 0 => Nat.le_refl _
  | d + 1 => Nat.le_trans (bI_mono hB d) (bI_step hB)
theorem fit_all : ∀ i, i ≤ 32 → Fit 84 (mI 84 84 i) BN (bI BN BN i) 5 := fun i hi => by
  obtain ⟨d, hd⟩ := Nat.exists_eq_add_of_le hi
  have h2 : 5 * (BN * bI BN BN (i + d)) * (84 * mI 84 84 (i + d)) < 2 ^ 2000 := by
    rw [← hd]
    decide +kernel
  have m := mI_mono (i := i) d
  have b := bI_mono (B := BN) (i := i) (by decide) d
  have b1 : 1 ≤ bI BN BN i := Nat.le_trans (show 1 ≤ BN by decide) (by
    have := bI_mono (B := BN) (i := 0) (by decide) i
    rwa [Nat.zero_add] at this)
  exact ⟨by decide, mI_pos i, by decide, b1, by decide, Nat.lt_of_le_of_lt (Nat.mul_le_mul (Nat.mul_le_mul_left _ (Nat.mul_le_mul_left _ b)) (Nat.mul_le_mul_left _ m)) h2⟩
end
end K40
set_option Elab.async false
set_option linter.all false
set_option maxRecDepth 100000
set_option maxHeartbeats 2000000
set_option autoImplicit false
namespace K40
open PySem L2 DL
/-! ### _law_from_right -/
noncomputable def fs1 : SF := sAsg (tgN 4) (eLc false [5] (itSeq (eVar 2)) (tgN 5) eYes (eIf (eVar 3) (eCall 1 D__law_given (aCons (eVar 5) aNil)) (eNew 0 2 [] I_Ratiod__initd_ (aCons (eOp2 gIx (eVar 5) (eC (.int 0))) (aCons (eOp2 gIx (eVar 5) (eC (.int 1))) aNil)))))
noncomputable def fs2 : SF := sAsg (tgT 2 (tsCons (tgN 6) (tsCons (tgN 7) tsNil))) (eCall 2 D__law_fronts (aCons (eVar 0) (aCons (eCall 1 D__law_alive (aCons (eVar 2) aNil)) aNil)))
noncomputable def fs3b : SF := sSeq (sAsg (tgN 9) (eCall 2 D_fronts (aCons (eVar 1) (aCons (eVar 4) aNil))))
    (sSeq (sIf (eOr (eOp2 gNe (eVar 9) (eTup (aCons (eVar 6) (aCons (eVar 7) aNil)))) (eOr (eNot (eOp2 (gIsi [0, 1]) (eVar 9) (eC (.ty "tuple")))) (eOp2 (gIsi [0, 1]) (eOp2 gIx (eVar 9) (eC (.int 1))) (eC (.ty "bool"))))) (sRet (eC (.bl false))) sNil)
    (sSeq (sAppC (eOp2 gIx (eOp2 gIx (eVar 9) (eC (.int 0))) (eC (.int 0))) (eC (.str "late")))
    (sAppC (eOp2 gIx (eVar 9) (eC (.int 0))) (eC (.str "late")))))
noncomputable def fs3 : SF := sFor (itRange1 (aCons (eC (.int 2)) aNil)) (tgN 8) fs3b
noncomputable def fs4 : SF := sAsg (tgN 10) (eVar 4)
noncomputable def fs5c : EF := eLc false [12] (itRange1 (aCons (eOp1 gLen (eVar 0)) aNil)) (tgN 12) (eOp2 (gOr gNe (gOwnNe [0, 1] 0 D_Ratiod__eqd_)) (eOp2 gIx (eVar 10) (eVar 12)) (eC (.int 0))) (eVar 12)
noncomputable def fs5b : SF := sSeq (sIf (eOp2 gNe fs5c (eVar 11)) (sRet (eC (.bl false))) sNil)
    (sAsg (tgN 10) (eCall 2 D_best_step (aCons (eVar 1) (aCons (eVar 10) aNil))))
noncomputable def fs5 : SF := sFor (itSeq (eVar 6)) (tgN 11) fs5b
noncomputable def fs6 : SF := sAsg (tgN 13) (eIf (eOp2 (gInP false) (eLst aNil) (eVar 6)) (eMt gIdx (eVar 6) (eLst aNil)) (eC .non))
noncomputable def fs7 : SF := sIf (eOr (eOp2 gNe (eCall 2 D_death (aCons (eVar 1) (aCons (eVar 4) aNil))) (eVar 13)) (eOp2 gNe (eCall 2 D_death (aCons (eVar 1) (aCons (eOp1 gTupOf (eVar 4)) aNil))) (eVar 13))) (sRet (eC (.bl false))) sNil
noncomputable def fs8c : EF := eLc false [16, 17, 18] (itSeq (eVar 0)) (tgT 3 (tsCons (tgN 16) (tsCons (tgN 17) (tsCons (tgN 18) tsNil)))) eYes (eLst (aCons (eVar 16) (aCons (eVar 14) (aCons (eVar 18) aNil))))
noncomputable def fs8b : SF := sSeq (sAsg (tgN 15) fs8c)
    (sIf (eOp2 gNe (eCall 2 D_fronts (aCons (eMeth 1 2 D_Table_owned (eVar 1) (aCons (eVar 14) aNil)) (aCons (eVar 4) aNil))) (eCall 2 D__law_fronts (aCons (eVar 15) (aCons (eCall 1 D__law_alive (aCons (eVar 2) aNil)) aNil)))) (sRet (eC (.bl false))) sNil)
noncomputable def fs8 : SF := sFor (itSeq (eLst (aCons (eC (.str "steerer")) (aCons (eC (.str "foe")) aNil)))) (tgN 14) fs8b
theorem b_fr_eq : b__law_from_right = sSeq fs1 (sSeq fs2 (sSeq fs3 (sSeq fs4 (sSeq fs5 (sSeq fs6 (sSeq fs7 (sSeq fs8 (sRet (eC (.bl true)))))))))) := rfl
/-- as it is handed in -/
def am (w : Bool) (x : Q2) : D := if w then gv x else rt x
theorem num_am (w : Bool) (x : Q2) : Num (am w x) x := by
  unfold am
  cases w
  · exact num_rt x
  · exact num_gv x
abbrev E19 (s0 s1 s2 s3 u4 u6 u7 u8 u9 u10 u11 u13 u14 u15 : SD) : List SD := [s0, s1, s2, s3, u4, .no, u6, u7, u8, u9, u10, u11, .no, u13, u14, u15, .no, .no, .no]
theorem pe_told : Pe (fun p : List (List Nat) × Nat => (∀ x ∈ p.1, ∀ y ∈ x, True) ∧ True) 4 (fun p => .tup [.lst (p.1.map fD), nD p.2]) := (pe_f.lst).pair (pe_n.mono (by decide))
section
variable {S : Store} {ps : List Plc} {L B M0 B0 N k j : Nat} {h : List Q2} {w : Bool}
theorem fs1_eval (hl : h.length < 1000000) (hq : ∀ x ∈ h, Qk x) {s0 s1 u4 u6 u7 u8 u9 u10 u11 u13 u14 u15 : SD} :
    fs1 (E19 s0 s1 (.val (.lst (h.map fr))) (.val (.bl w)) u4 u6 u7 u8 u9 u10 u11 u13 u14 u15) S = .next (E19 s0 s1 (.val (.lst (h.map fr))) (.val (.bl w)) (.val (.lst (h.map (am w)))) u6 u7 u8 u9 u10 u11 u13 u14 u15) S := by
  let es := E19 s0 s1 (.val (.lst (h.map fr))) (.val (.bl w)) u4 u6 u7 u8 u9 u10 u11 u13 u14 u15
  have k1 : itSeq (eVar 2) es S = .ok (h.map fr) [] S := rfl
  have k3 := lcL_map (q := false) (g := []) (es := es) (S := S) (t := tgN 5) (c := eYes) (e := eIf (eVar 3) (eCall 1 D__law_given (aCons (eVar 5) aNil)) (eNew 0 2 [] I_Ratiod__initd_ (aCons (eOp2 gIx (eVar 5) (eC (.int 0))) (aCons (eOp2 gIx (eVar 5) (eC (.int 1))) aNil))))
    fr (am w) (Gd.ok_nil S) h [] fun x hx => by
      have eg := given_eval (S := S) (hq x hx)
      have en := new_id (S := S) (hq x hx)
      have i0 := ix0 (S := S) (x := x)
      have i1 := ix1 (S := S) (x := x)
      refine ⟨es.set 5 (.val (fr x)), rfl, by simp, ?_⟩
      simp only [es, E19]
      generalize fr x = y at eg i0 i1 ⊢
      generalize D.lst (h.map fr) = H
      unfold am
      cases w
      · simp -implicitDefEqProofs [i0, i1, en]
      · simp -implicitDefEqProofs [eg]
  rw [if_neg Bool.false_ne_true, List.nil_append] at k3
  have k4 := eLc_run (vs := [5]) k1 (by rw [List.length_map]; exact hl) (by rfl) (show lcL false [] _ eYes _ (wipeD es [5]) _ S [] = _ from k3)
  unfold fs1
  rw [sAsg_eq, k4, Res.toS_ok, tgN_eq]
  rfl
theorem fs2_eval (hw : Wz L B ps) (hlen : h.length = ps.length) (a : Ag ps (alv h) k j) {s1 s3 u4 u6 u7 u8 u9 u10 u11 u13 u14 u15 : SD} :
    fs2 (E19 (.val (spL ps)) s1 (.val (.lst (h.map fr))) s3 u4 u6 u7 u8 u9 u10 u11 u13 u14 u15) S = .next (E19 (.val (spL ps)) s1 (.val (.lst (h.map fr))) s3 u4 (.val (.lst ((FL ps (alv h) k).map fD))) (.val (.int j)) u8 u9 u10 u11 u13 u14 u15) S := by
  have hl5 := hw.n.2
  have e1 := law_alive_eval (S := S) (h := h) (by omega)
  have e2 := law_fronts_eval (S := S) hw (alv_lt hlen) (by have := alv_len (h := h); omega) a
  unfold fs2
  simp only [E19]
  generalize D.lst (h.map fr) = H at e1 ⊢
  generalize fD (alv h) = F at e1 e2
  generalize spL ps = T at e2 ⊢
  generalize D.lst ((FL ps (alv h) k).map fD) = G at e2 ⊢
  simp -implicitDefEqProofs [e1, e2]
theorem thw_told {x : D} (th : thw S x = .lst ((FL ps (alv h) k).map fD)) : thw S (.tup [x, .int j]) = .tup [.lst ((FL ps (alv h) k).map fD), nD j] := by
  show D.tup [thw S x, .int j] = _
  rw [th]
  rfl
theorem fs3b_eval (t : Tb ps) (r : Rn L B M0 B0 N ps h) (a : Ag ps (alv h) k j) {s0 s2 s3 u8 u9 u10 u11 u13 u14 u15 : SD} :
    ∃ (J : Store) (v : SD), fs3b (E19 s0 (.val (tb ps)) s2 s3 (.val (.lst (h.map (am w)))) (.val (.lst ((FL ps (alv h) k).map fD))) (.val (.int j)) u8 u9 u10 u11 u13 u14 u15) S = .next (E19 s0 (.val (tb ps)) s2 s3 (.val (.lst (h.map (am w)))) (.val (.lst ((FL ps (alv h) k).map fD))) (.val (.int j)) u8 v u10 u11 u13 u14 u15) (S ++ J) := by
  have hl5 := r.w.n.2
  have hlen := r.len
  have ef := fronts_eval (S := S) (d := .lst (h.map (am w))) t r (num_am w) .lst a
  let A : List D := (alv h).map nD
  let F : List D := frC ps (alv h) S.length k
  let S1 : Store := S ++ [A, F]
  have gA : S1[S.length]? = some A := get2a
  have gF : S1[S.length + 1]? = some F := get2b
  have th := thw_fr gA gF
  have hne := pe_told.gNe_same (S := S1) (by decide) (x := (FL ps (alv h) k, j)) ⟨trv2, trivial⟩ (thw_told (j := j) th) (pe_told.thw (x := (FL ps (alv h) k, j)) ⟨trv2, trivial⟩)
  have g0 : gIx (.tup [.cell (S.length + 1), .int j]) (.int 0) S1 = .ok (.cell (S.length + 1)) S1 := gIx_tup0
  have g1 : gIx (.tup [.cell (S.length + 1), .int j]) (.int 1) S1 = .ok (.int j) S1 := gIx_tup1
  have gi : gIsi [0, 1] (.tup [.cell (S.length + 1), .int j]) (.ty "tuple") S1 = .ok (.bl true) S1 := isi_tup_tup
  have g2 : gIx (.cell (S.length + 1)) (.int 0) S1 = .ok (.cell S.length) S1 := gIx_cell (i := 0) gF rfl
  let A2 : List D := A ++ [.str "late"]
  let F2 : List D := F ++ [.str "late"]
  have s1 : S1.set S.length A2 = S ++ [A2, F] := set2a
  have gF2 : (S ++ [A2, F])[S.length + 1]? = some F := get2b
  have s2 : (S ++ [A2, F]).set (S.length + 1) F2 = S ++ [A2, F2] := set2b
  have g3 : gIx (.tup [.cell (S.length + 1), .int j]) (.int 0) (S ++ [A2, F]) = .ok (.cell (S.length + 1)) (S ++ [A2, F]) := gIx_tup0
  have lA : A.length < 1000000 := by
    have := alv_len (h := h)
    show ((alv h).map nD).length < _
    rw [List.length_map]
    omega
  have lF : F.length < 1000000 := by
    show (frC ps (alv h) S.length k).length < _
    rw [frC_len]
    have := a.k32
    omega
  refine ⟨[A2, F2], .val (.tup [.cell (S.length + 1), .int j]), ?_⟩
  have ef' : D_fronts [tb ps, .lst (h.map (am w))] S = .ok (.tup [.cell (S.length + 1), .int j]) S1 := ef
  have hne' : gNe (.tup [.cell (S.length + 1), .int j]) (.tup [.lst ((FL ps (alv h) k).map fD), .int j]) S1 = .ok (.bl false) S1 := hne
  have eA : A ++ [.str "late"] = A2 := rfl
  have eF : F ++ [.str "late"] = F2 := rfl
  clear_value A2 F2 A F
  unfold fs3b
  simp only [E19]
  generalize D.tup [.cell (S.length + 1), .int j] = tt at ef' hne' g0 g1 gi g3 ⊢
  generalize S ++ [A2, F2] = S3 at s2 ⊢
  generalize S ++ [A2, F] = S2 at s1 s2 g3 gF2
  clear_value S1
  generalize D.lst ((FL ps (alv h) k).map fD) = G at hne' ⊢
  generalize D.lst (h.map (am w)) = H at ef' ⊢
  generalize tb ps = T at ef' ⊢
  generalize S.length + 1 = c1 at *
  generalize S.length = c0 at *
  simp -implicitDefEqProofs [ef', hne', g0, g1, gi, g2, g3, gA, gF, gF2, lA, lF, eA, eF, s1, s2, sNil]
theorem fs3_eval (t : Tb ps) (r : Rn L B M0 B0 N ps h) (a : Ag ps (alv h) k j) {s0 s2 s3 u8 u9 u10 u11 u13 u14 u15 : SD} :
    ∃ (J : Store) (v8 v9 : SD), fs3 (E19 s0 (.val (tb ps)) s2 s3 (.val (.lst (h.map (am w)))) (.val (.lst ((FL ps (alv h) k).map fD))) (.val (.int j)) u8 u9 u10 u11 u13 u14 u15) S = .next (E19 s0 (.val (tb ps)) s2 s3 (.val (.lst (h.map (am w)))) (.val (.lst ((FL ps (alv h) k).map fD))) (.val (.int j)) v8 v9 u10 u11 u13 u14 u15) (S ++ J) := by
  let E := fun (v8 v9 : SD) => E19 s0 (.val (tb ps)) s2 s3 (.val (.lst (h.map (am w)))) (.val (.lst ((FL ps (alv h) k).map fD))) (.val (.int j)) v8 v9 u10 u11 u13 u14 u15
  obtain ⟨es', S', q1, q2⟩ := forL_run (g := []) (t := tgN 8) (b := fs3b) (fun (i : Nat) => D.int i)
    (fun _ es S' => ∃ (J : Store) (v8 v9 : SD), S' = S ++ J ∧ es = E v8 v9) (fun _ _ S' _ => Gd.ok_nil S') (List.range 2) 0 (E u8 u9) S ⟨[], _, _, by rw [List.append_nil], rfl⟩ fun j' x es S' hj q => by
      obtain ⟨J, v8, v9, rfl, rfl⟩ := q
      obtain ⟨J2, v, e⟩ := fs3b_eval (S := S ++ J) (w := w) (s0 := s0) (s2 := s2) (s3 := s3) (u8 := .val (.int x)) (u9 := v9) (u10 := u10) (u11 := u11) (u13 := u13) (u14 := u14) (u15 := u15) t r a
      exact ⟨E (.val (.int x)) v9, E (.val (.int x)) v, S ++ J ++ J2, rfl, e, J ++ J2, _, _, by rw [List.append_assoc], rfl⟩
  obtain ⟨J, v8, v9, rfl, rfl⟩ := q2
  have it : itRange1 (aCons (eC (.int 2)) aNil) (E u8 u9) S = .ok ((List.range 2).map fun (i : Nat) => D.int i) [] S := range1_eval (n := 2) (by decide) rfl
  refine ⟨J, v8, v9, ?_⟩
  unfold fs3
  show sFor _ _ _ (E u8 u9) S = _
  rw [sFor_eq, it]
  exact q1
theorem ne_or {x : Q2} {y : D} (hy : Num y x) (hx : Qk x) (h0 : 0 ≤ x.1) : gOr gNe (gOwnNe [0, 1] 0 D_Ratiod__eqd_) y (.int 0) S = .ok (.bl (decide (0 < x.1))) S := by
  rcases hy with rfl | ⟨rfl, _⟩
  · have e := ne0_eval (S := S) hx h0
    show (match gNe (rt x) (.int 0) S with | .bad => gOwnNe [0, 1] 0 D_Ratiod__eqd_ (rt x) (.int 0) S | r => r) = _
    have e2 : gNe (rt x) (.int 0) S = .bad := rfl
    rw [e2]
    exact e
  · refine gOr_left ?_
    rw [gNe_int]
    congr 2
    rw [← decide_not]
    congr 1
    rw [eq_iff_iff]
    omega
theorem stN (tn : Tn ps) (hl : h.length = ps.length) (hh : ∀ x ∈ h, Nn x) : ∀ i, alv (stQ ps h i) = Fi ps (alv h) i ∧ (∀ x ∈ stQ ps h i, Nn x) ∧ (stQ ps h i).length = ps.length
  | 0 => ⟨rfl, hh, hl⟩
  | i + 1 => by
    obtain ⟨h1, h2, h3⟩ := stN tn hl hh i
    obtain ⟨k1, k2⟩ := alv_step tn h3 h2
    refine ⟨?_, k2, beh_len⟩
    show alv (behQ ps (bestP ps (stQ ps h i)) (stQ ps h i)) = bfQ ps (FR.it (bfQ ps) (alv h) i)
    rw [k1, h1]
theorem rn_at (r : Rn L B M0 B0 N ps h) (tn : Tn ps) (hh : ∀ x ∈ h, Nn x) {i : Nat} (hi : i ≤ N) : Rn L B (mI L M0 i) (bI B B0 i) 0 ps (stQ ps h i) :=
  ⟨r.w, stQ_len r i, stQ_sz r i, fun x hx => ((stN tn r.len hh i).2.1 x hx).nn, fun n hn => by
    have e : n = 0 := by omega
    subst e
    exact r.fit i hi⟩
theorem fs5c_eval {d : D} {e : Q2 → D} {g : List Q2} (n2 : ∀ x, Num (e x) x) (hg : g.length = ps.length) (h5 : ps.length ≤ 5) (hq : ∀ x ∈ g, Qk x ∧ 0 ≤ x.1) {s1 s2 s3 u4 u6 u7 u8 u9 u11 u13 u14 u15 : SD} :
    fs5c (E19 (.val (spL ps)) s1 s2 s3 u4 u6 u7 u8 u9 (.val (.lst (g.map e))) u11 u13 u14 u15) S = .ok (fD (alv g)) S := by
  let es := E19 (.val (spL ps)) s1 s2 s3 u4 u6 u7 u8 u9 (.val (.lst (g.map e))) u11 u13 u14 u15
  have gl : gLen (spL ps) S = .ok (.int g.length) S := by
    have := (Sq.lst (S := S) (ds := ps.map plL)).len
    rw [List.length_map, ← hg] at this
    exact this
  have k1 : itRange1 (aCons (eOp1 gLen (eVar 0)) aNil) es S = .ok ((List.range g.length).map fun (i : Nat) => D.int i) [] S := range1_eval (by omega) (by
    simp only [es, E19]
    generalize spL ps = T at gl ⊢
    simp -implicitDefEqProofs [gl])
  have k3 := lcL_filt (q := false) (g := []) (es := es) (S := S) (t := tgN 12) (c := eOp2 (gOr gNe (gOwnNe [0, 1] 0 D_Ratiod__eqd_)) (eOp2 gIx (eVar 10) (eVar 12)) (eC (.int 0))) (e := eVar 12)
    (fun (i : Nat) => D.int i) nD (fun i => decide (0 < (g.getD i (0, 1)).1)) (Gd.ok_nil S) (List.range g.length) [] fun i hi => by
      have hg' := getD_some (d := ((0, 1) : Q2)) (List.mem_range.mp hi)
      obtain ⟨q1, q2⟩ := hq _ (List.mem_of_getElem? hg')
      have hx : gIx (.lst (g.map e)) (.int (i : Nat)) S = .ok (e (g.getD i (0, 1))) S := ixL hg'
      have ne := ne_or (S := S) (n2 (g.getD i (0, 1))) q1 q2
      refine ⟨es.set 12 (.val (.int (i : Nat))), rfl, ?_, fun _ => rfl⟩
      simp only [es, E19]
      generalize D.lst (g.map e) = H at hx ⊢
      generalize e (g.getD i (0, 1)) = y at hx ne
      generalize spL ps = T
      simp -implicitDefEqProofs [hx, ne]
  rw [if_neg Bool.false_ne_true, List.nil_append] at k3
  exact eLc_run (vs := [12]) k1 (by rw [List.length_map, List.length_range]; omega) (by rfl) (show lcL false [] _ _ _ (wipeD es [12]) _ S [] = _ from k3)
theorem fs5_eval (tn : Tn ps) (hh : ∀ x ∈ h, Nn x) (r : Rn L B M0 B0 32 ps h) (k32 : k < 32) {s2 s3 u7 u8 u9 u11 u13 u14 u15 : SD} :
    ∃ (v10 v11 : SD), fs5 (E19 (.val (spL ps)) (.val (tb ps)) s2 s3 (.val (.lst (h.map (am w)))) (.val (.lst ((FL ps (alv h) k).map fD))) u7 u8 u9 (.val (.lst (h.map (am w)))) u11 u13 u14 u15) S = .next (E19 (.val (spL ps)) (.val (tb ps)) s2 s3 (.val (.lst (h.map (am w)))) (.val (.lst ((FL ps (alv h) k).map fD))) u7 u8 u9 v10 v11 u13 u14 u15) S := by
  let E := fun (v10 v11 : SD) => E19 (.val (spL ps)) (.val (tb ps)) s2 s3 (.val (.lst (h.map (am w)))) (.val (.lst ((FL ps (alv h) k).map fD))) u7 u8 u9 v10 v11 u13 u14 u15
  obtain ⟨es', S', q1, q2⟩ := forL_run (g := []) (t := tgN 11) (b := fs5b) fD
    (fun i es S' => S' = S ∧ ∃ (e : Q2 → D) (v11 : SD), (∀ x, Num (e x) x) ∧ es = E (.val (.lst ((stQ ps h i).map e))) v11) (fun _ _ S' _ => Gd.ok_nil S') (FL ps (alv h) k) 0 (E (.val (.lst (h.map (am w)))) u11) S ⟨rfl, am w, _, num_am w, rfl⟩ fun i x es S' hj q => by
      obtain ⟨rfl, e, v11, n2, rfl⟩ := q
      rw [Nat.zero_add]
      have hik : i ≤ k := by
        have := (List.getElem?_eq_some_iff.mp hj).1
        rw [FR.itL_len] at this
        omega
      have hx : x = Fi ps (alv h) i := by
        rw [FL, FR.itL_get hik] at hj
        exact (Option.some.inj hj).symm
      subst hx
      obtain ⟨a1, a2, a3⟩ := stN tn r.len hh i
      have ri := rn_at r tn hh (i := i) (by omega)
      have ec := fs5c_eval (S := S') (ps := ps) (d := .non) (e := e) (g := stQ ps h i) n2 a3 r.w.n.2 (fun x hx => ⟨rn_q ri x hx, ri.nn x hx⟩) (s1 := .val (tb ps)) (s2 := s2) (s3 := s3) (u4 := .val (.lst (h.map (am w)))) (u6 := .val (.lst ((FL ps (alv h) k).map fD))) (u7 := u7) (u8 := u8) (u9 := u9) (u11 := .val (fD (Fi ps (alv h) i))) (u13 := u13) (u14 := u14) (u15 := u15)
      rw [a1] at ec
      have es := step_eval (S := S') (d := .lst ((stQ ps h i).map e)) ri n2 .lst
      have ne := pe_f.gNe_same (S := S') (n := 2) (by decide) (x := Fi ps (alv h) i) trv (pe_f.thw trv) (pe_f.thw trv)
      have e2 : stQ ps (stQ ps h i) 1 = stQ ps h (i + 1) := rfl
      rw [e2] at es
      refine ⟨E (.val (.lst ((stQ ps h i).map e))) (.val (fD (Fi ps (alv h) i))), E (.val (.lst ((stQ ps h (i + 1)).map rt))) (.val (fD (Fi ps (alv h) i))), S', rfl, ?_, rfl, rt, _, num_rt, rfl⟩
      unfold fs5b
      have c1 : sIf (eOp2 gNe fs5c (eVar 11)) (sRet (eC (.bl false))) sNil (E (.val (.lst ((stQ ps h i).map e))) (.val (fD (Fi ps (alv h) i)))) S' = .next (E (.val (.lst ((stQ ps h i).map e))) (.val (fD (Fi ps (alv h) i)))) S' := by
        rw [sIf_eq, eOp2_eq, ec, Res.bind_ok]
        show ((Res.ok (fD (Fi ps (alv h) i)) S').bind fun y S2 => (gNe (fD (Fi ps (alv h) i)) y S2).nox).toS _ _ = _
        rw [Res.bind_ok, ne]
        rfl
      rw [sSeq_eq, c1, Fl.bind_next]
      simp only [E, E19]
      generalize D.lst ((stQ ps h (i + 1)).map rt) = P1 at es ⊢
      generalize D.lst ((stQ ps h i).map e) = P0 at es ⊢
      generalize tb ps = T at es ⊢
      simp -implicitDefEqProofs [es]
  obtain ⟨rfl, e, v11, _, rfl⟩ := q2
  refine ⟨.val (.lst ((stQ ps h (0 + (FL ps (alv h) k).length)).map e)), v11, ?_⟩
  unfold fs5
  show sFor _ _ _ (E (.val (.lst (h.map (am w)))) u11) S' = _
  have it : itSeq (eVar 6) (E (.val (.lst (h.map (am w)))) u11) S' = .ok ((FL ps (alv h) k).map fD) [] S' := rfl
  rw [sFor_eq, it]
  exact q1
end
end K40
set_option Elab.async false
set_option linter.all false
set_option maxRecDepth 100000
set_option maxHeartbeats 2000000
set_option autoImplicit false
namespace K40
open PySem L2 DL
section
variable {S : Store} {ps : List Plc} {L B M0 B0 N k j : Nat} {h : List Q2} {w : Bool}
theorem fs6_eval {s0 s1 s2 s3 u4 u7 u8 u9 u10 u11 u13 u14 u15 : SD} :
    fs6 (E19 s0 s1 s2 s3 u4 (.val (.lst ((FL ps (alv h) k).map fD))) u7 u8 u9 u10 u11 u13 u14 u15) S = .next (E19 s0 s1 s2 s3 u4 (.val (.lst ((FL ps (alv h) k).map fD))) u7 u8 u9 u10 u11 (.val (optN (fiN ps (alv h) k))) u14 u15) S := by
  have e := in_nil (S := S) (x := .lst ((FL ps (alv h) k).map fD)) ((pe_f.lst).thw trv2) rfl (es := E19 s0 s1 s2 s3 u4 (.val (.lst ((FL ps (alv h) k).map fD))) u7 u8 u9 u10 u11 u13 u14 u15) (i := 6) rfl
  unfold fs6
  rw [sAsg_eq, e, Res.toS_ok, tgN_eq]
  rfl
theorem fs7_eval (t : Tb ps) (r : Rn L B M0 B0 N ps h) (a : Ag ps (alv h) k j) {s0 s2 s3 u6 u7 u8 u9 u10 u11 u14 u15 : SD} :
    ∃ J, fs7 (E19 s0 (.val (tb ps)) s2 s3 (.val (.lst (h.map (am w)))) u6 u7 u8 u9 u10 u11 (.val (optN (fiN ps (alv h) k))) u14 u15) S = .next (E19 s0 (.val (tb ps)) s2 s3 (.val (.lst (h.map (am w)))) u6 u7 u8 u9 u10 u11 (.val (optN (fiN ps (alv h) k))) u14 u15) (S ++ J) := by
  obtain ⟨J1, e1⟩ := death_eval (S := S) (d := .lst (h.map (am w))) t r (num_am w) .lst a
  obtain ⟨J2, e2⟩ := death_eval (S := S ++ J1) (d := .tup (h.map (am w))) t r (num_am w) .tup a
  have n1 := pe_optN.gNe_same (S := S ++ J1) (n := 1) (by decide) (x := fiN ps (alv h) k) trivial (pe_optN.thw trivial) (pe_optN.thw trivial)
  have n2 := pe_optN.gNe_same (S := S ++ J1 ++ J2) (n := 1) (by decide) (x := fiN ps (alv h) k) trivial (pe_optN.thw trivial) (pe_optN.thw trivial)
  have gt : gTupOf (.lst (h.map (am w))) (S ++ J1) = .ok (.tup (h.map (am w))) (S ++ J1) := rfl
  refine ⟨J1 ++ J2, ?_⟩
  rw [← List.append_assoc]
  unfold fs7
  simp only [E19]
  generalize S ++ J1 ++ J2 = S2 at e2 n2 ⊢
  generalize S ++ J1 = S1 at e1 e2 n1 gt
  generalize D.lst (h.map (am w)) = H at e1 gt ⊢
  generalize D.tup (h.map (am w)) = H2 at e2 gt
  generalize optN (fiN ps (alv h) k) = O at e1 e2 n1 n2 ⊢
  generalize tb ps = T at e1 e2 ⊢
  simp -implicitDefEqProofs [e1, e2, n1, n2, gt, sNil]
theorem own_rn {z : Str} (hz : Own z) (r : Rn L B M0 B0 N ps h) : Rn L B M0 B0 N (ownP z ps) h := ⟨own_wz hz r.w, by
  unfold ownP
  rw [List.length_map]
  exact r.len, r.sz, r.nn, r.fit⟩
theorem fs8b_eval {z : Str} (hz : Own z) (t : Tb ps) (r : Rn L B M0 B0 N ps h) {s3 u6 u7 u8 u9 u10 u11 u13 u15 : SD} :
    ∃ (J : Store) (v15 : SD), fs8b (E19 (.val (spL ps)) (.val (tb ps)) (.val (.lst (h.map fr))) s3 (.val (.lst (h.map (am w)))) u6 u7 u8 u9 u10 u11 u13 (.val (.str z)) u15) S = .next (E19 (.val (spL ps)) (.val (tb ps)) (.val (.lst (h.map fr))) s3 (.val (.lst (h.map (am w)))) u6 u7 u8 u9 u10 u11 u13 (.val (.str z)) v15) (S ++ J) := by
  have hl := r.w.n.2
  have hlen := r.len
  have rz := own_rn hz r
  have tz := own_tb (z := z) t
  have lz : (ownP z ps).length = ps.length := by
    unfold ownP
    rw [List.length_map]
  obtain ⟨k, j, a⟩ := ag_ex (ps := ownP z ps) (h := h) rz.len (by omega)
  let es := E19 (.val (spL ps)) (.val (tb ps)) (.val (.lst (h.map fr))) s3 (.val (.lst (h.map (am w)))) u6 u7 u8 u9 u10 u11 u13 (.val (.str z)) u15
  have j1 : itSeq (eVar 0) es S = .ok (ps.map plL) [] S := rfl
  have j3 := lcL_map (q := false) (g := []) (es := es) (S := S) (t := tgT 3 (tsCons (tgN 16) (tsCons (tgN 17) (tsCons (tgN 18) tsNil)))) (c := eYes) (e := eLst (aCons (eVar 16) (aCons (eVar 14) (aCons (eVar 18) aNil))))
    plL (fun p => plL (p.1, z, p.2.2)) (Gd.ok_nil S) ps [] fun p hp => by
      refine ⟨((es.set 16 (.val (.str p.1))).set 17 (.val (.str p.2.1))).set 18 (.val (.lst (p.2.2.map fL))), by simp [es, plL], by simp, by simp [es, plL]⟩
  rw [if_neg Bool.false_ne_true, List.nil_append] at j3
  have j4 : fs8c es S = _ := eLc_run (vs := [16, 17, 18]) j1 (by rw [List.length_map]; omega) (by rfl) (show lcL false [] _ eYes _ (wipeD es [16, 17, 18]) _ S [] = _ from j3)
  have em : D.lst (ps.map fun p => plL (p.1, z, p.2.2)) = spL (ownP z ps) := by
    unfold spL ownP
    rw [List.map_map]
    rfl
  rw [em] at j4
  have eo := owned_eval (S := S) hz r.w t
  have ef := fronts_eval (S := S) (d := .lst (h.map (am w))) tz rz (num_am w) .lst a
  let A : List D := (alv h).map nD
  let F : List D := frC (ownP z ps) (alv h) S.length k
  have gA : (S ++ [A, F])[S.length]? = some A := get2a
  have gF : (S ++ [A, F])[S.length + 1]? = some F := get2b
  have th := thw_fr gA gF
  have ea := law_alive_eval (S := S ++ [A, F]) (h := h) (by omega)
  have el := law_fronts_eval (S := S ++ [A, F]) rz.w (alv_lt rz.len) (by have := alv_len (h := h); omega) a
  have hne : gNe (.tup [.cell (S.length + 1), .int j]) (.tup [.lst ((FL (ownP z ps) (alv h) k).map fD), .int j]) (S ++ [A, F]) = .ok (.bl false) (S ++ [A, F]) :=
    pe_told.gNe_same (by decide) (x := (FL (ownP z ps) (alv h) k, j)) ⟨trv2, trivial⟩ (thw_told (j := j) th) (pe_told.thw (x := (FL (ownP z ps) (alv h) k, j)) ⟨trv2, trivial⟩)
  have ef' : D_fronts [tb (ownP z ps), .lst (h.map (am w))] S = .ok (.tup [.cell (S.length + 1), .int j]) (S ++ [A, F]) := ef
  refine ⟨[A, F], .val (spL (ownP z ps)), ?_⟩
  have io := isObj_tb (ps := ps)
  unfold fs8b
  rw [sSeq_eq, sAsg_eq, j4, Res.toS_ok, tgN_eq]
  simp only [Fl.bind_next, es, E19]
  generalize S ++ [A, F] = S1 at ef' ea el hne ⊢
  generalize D.tup [.cell (S.length + 1), .int j] = tt at ef' hne
  generalize D.lst (h.map (am w)) = H at ef' ⊢
  generalize D.lst (h.map fr) = H2 at ea ⊢
  generalize spL (ownP z ps) = s2 at el ⊢
  generalize spL ps = s1
  generalize tb (ownP z ps) = T2 at eo ef'
  generalize tb ps = T at eo io ⊢
  generalize fD (alv h) = G at ea el
  generalize D.tup [.lst ((FL (ownP z ps) (alv h) k).map fD), .int j] = t2 at el hne
  simp -implicitDefEqProofs [io, eo, ef', ea, el, hne, sNil]
theorem fs8_eval (t : Tb ps) (r : Rn L B M0 B0 N ps h) {s3 u6 u7 u8 u9 u10 u11 u13 u14 u15 : SD} :
    ∃ (J : Store) (v14 v15 : SD), fs8 (E19 (.val (spL ps)) (.val (tb ps)) (.val (.lst (h.map fr))) s3 (.val (.lst (h.map (am w)))) u6 u7 u8 u9 u10 u11 u13 u14 u15) S = .next (E19 (.val (spL ps)) (.val (tb ps)) (.val (.lst (h.map fr))) s3 (.val (.lst (h.map (am w)))) u6 u7 u8 u9 u10 u11 u13 v14 v15) (S ++ J) := by
  let E := fun (v14 v15 : SD) => E19 (.val (spL ps)) (.val (tb ps)) (.val (.lst (h.map fr))) s3 (.val (.lst (h.map (am w)))) u6 u7 u8 u9 u10 u11 u13 v14 v15
  obtain ⟨es', S', q1, q2⟩ := forL_run (g := []) (t := tgN 14) (b := fs8b) D.str
    (fun _ es S' => ∃ (J : Store) (v14 v15 : SD), S' = S ++ J ∧ es = E v14 v15) (fun _ _ S' _ => Gd.ok_nil S') ["steerer", "foe"] 0 (E u14 u15) S ⟨[], _, _, by rw [List.append_nil], rfl⟩ fun j' z es S' hj q => by
      obtain ⟨J, v14, v15, rfl, rfl⟩ := q
      have hz : Own z := by
        have := List.mem_of_getElem? hj
        rcases List.mem_cons.mp this with h | h
        · exact .inl h
        · exact .inr (List.mem_singleton.mp h)
      obtain ⟨J2, v, e⟩ := fs8b_eval (S := S ++ J) (w := w) (s3 := s3) (u6 := u6) (u7 := u7) (u8 := u8) (u9 := u9) (u10 := u10) (u11 := u11) (u13 := u13) (u15 := v15) hz t r
      exact ⟨E (.val (.str z)) v15, E (.val (.str z)) v, S ++ J ++ J2, rfl, e, J ++ J2, _, _, by rw [List.append_assoc], rfl⟩
  obtain ⟨J, v14, v15, rfl, rfl⟩ := q2
  refine ⟨J, v14, v15, ?_⟩
  unfold fs8
  show sFor _ _ _ (E u14 u15) S = _
  have it : itSeq (eLst (aCons (eC (.str "steerer")) (aCons (eC (.str "foe")) aNil))) (E u14 u15) S = .ok ((["steerer", "foe"] : List Str).map D.str) [] S := rfl
  rw [sFor_eq, it]
  exact q1
theorem right_eval (t : Tb ps) (tn : Tn ps) (r : Rn L B M0 B0 32 ps h) (hh : ∀ x ∈ h, Nn x) : ∃ J, D__law_from_right [spL ps, tb ps, .lst (h.map fr), .bl w] S = .ok (.bl true) (S ++ J) := by
  have hl := r.w.n.2
  have hlen := r.len
  obtain ⟨k, j, a⟩ := ag_ex (ps := ps) (h := h) hlen hl
  have e1 := fs1_eval (S := S) (h := h) (w := w) (by omega) (rn_q r) (s0 := .val (spL ps)) (s1 := .val (tb ps)) (u4 := .no) (u6 := .no) (u7 := .no) (u8 := .no) (u9 := .no) (u10 := .no) (u11 := .no) (u13 := .no) (u14 := .no) (u15 := .no)
  have e2 := fs2_eval (S := S) (h := h) r.w hlen a (s1 := .val (tb ps)) (s3 := .val (.bl w)) (u4 := .val (.lst (h.map (am w)))) (u6 := .no) (u7 := .no) (u8 := .no) (u9 := .no) (u10 := .no) (u11 := .no) (u13 := .no) (u14 := .no) (u15 := .no)
  obtain ⟨J3, v8, v9, e3⟩ := fs3_eval (S := S) (w := w) t r a (s0 := .val (spL ps)) (s2 := .val (.lst (h.map fr))) (s3 := .val (.bl w)) (u8 := .no) (u9 := .no) (u10 := .no) (u11 := .no) (u13 := .no) (u14 := .no) (u15 := .no)
  have e4 : fs4 (E19 (.val (spL ps)) (.val (tb ps)) (.val (.lst (h.map fr))) (.val (.bl w)) (.val (.lst (h.map (am w)))) (.val (.lst ((FL ps (alv h) k).map fD))) (.val (.int j)) v8 v9 .no .no .no .no .no) (S ++ J3) = .next (E19 (.val (spL ps)) (.val (tb ps)) (.val (.lst (h.map fr))) (.val (.bl w)) (.val (.lst (h.map (am w)))) (.val (.lst ((FL ps (alv h) k).map fD))) (.val (.int j)) v8 v9 (.val (.lst (h.map (am w)))) .no .no .no .no) (S ++ J3) := rfl
  obtain ⟨v10, v11, e5⟩ := fs5_eval (S := S ++ J3) (w := w) tn hh r a.k32 (s2 := .val (.lst (h.map fr))) (s3 := .val (.bl w)) (u7 := .val (.int j)) (u8 := v8) (u9 := v9) (u11 := .no) (u13 := .no) (u14 := .no) (u15 := .no)
  have e6 := fs6_eval (S := S ++ J3) (ps := ps) (k := k) (h := h) (s0 := .val (spL ps)) (s1 := .val (tb ps)) (s2 := .val (.lst (h.map fr))) (s3 := .val (.bl w)) (u4 := .val (.lst (h.map (am w)))) (u7 := .val (.int j)) (u8 := v8) (u9 := v9) (u10 := v10) (u11 := v11) (u13 := .no) (u14 := .no) (u15 := .no)
  obtain ⟨J7, e7⟩ := fs7_eval (S := S ++ J3) (w := w) t r a (s0 := .val (spL ps)) (s2 := .val (.lst (h.map fr))) (s3 := .val (.bl w)) (u6 := .val (.lst ((FL ps (alv h) k).map fD))) (u7 := .val (.int j)) (u8 := v8) (u9 := v9) (u10 := v10) (u11 := v11) (u14 := .no) (u15 := .no)
  obtain ⟨J8, v14, v15, e8⟩ := fs8_eval (S := S ++ J3 ++ J7) (w := w) t r (s3 := .val (.bl w)) (u6 := .val (.lst ((FL ps (alv h) k).map fD))) (u7 := .val (.int j)) (u8 := v8) (u9 := v9) (u10 := v10) (u11 := v11) (u13 := .val (optN (fiN ps (alv h) k))) (u14 := .no) (u15 := .no)
  refine ⟨J3 ++ J7 ++ J8, ?_⟩
  have es : startD 19 [spL ps, tb ps, .lst (h.map fr), .bl w] = E19 (.val (spL ps)) (.val (tb ps)) (.val (.lst (h.map fr))) (.val (.bl w)) .no .no .no .no .no .no .no .no .no .no := rfl
  have main : b__law_from_right (E19 (.val (spL ps)) (.val (tb ps)) (.val (.lst (h.map fr))) (.val (.bl w)) .no .no .no .no .no .no .no .no .no .no) S = .ret (.bl true) (S ++ J3 ++ J7 ++ J8) := by
    rw [b_fr_eq, sSeq_eq, e1, Fl.bind_next, sSeq_eq, e2, Fl.bind_next, sSeq_eq, e3, Fl.bind_next, sSeq_eq, e4, Fl.bind_next, sSeq_eq, e5, Fl.bind_next, sSeq_eq, e6, Fl.bind_next, sSeq_eq, e7, Fl.bind_next, sSeq_eq, e8, Fl.bind_next]
    rfl
  unfold D__law_from_right
  rw [fnD_eq, es, main]
  simp only [List.append_assoc]
/-! ### law -/
noncomputable def st1 : SF := sAsg (tgN 2) (eCall 1 D__law_box (aCons (eCall 2 D__law_cell (aCons (eVar 0) (aCons (eVar 1) aNil))) aNil))
noncomputable def st2 : SF := sAsg (tgN 3) (eCall 2 D__law_thin (aCons (eVar 2) (aCons (eCall 2 D__law_spec (aCons (eVar 2) (aCons (eC (.int 5)) aNil))) aNil)))
noncomputable def st3 : SF := sPar3 4 5 6 (aCons (eCall 1 D__law_table (aCons (eVar 3) aNil)) (aCons (eCall 2 D__law_few (aCons (eVar 2) (aCons (eOp1 gLen (eVar 3)) aNil))) (aCons (eCall 2 D__law_few (aCons (eVar 2) (aCons (eOp1 gLen (eVar 3)) aNil))) aNil)))
noncomputable def st4b : SF := sIf (eNot (eCall 4 D__law_from_right (aCons (eVar 3) (aCons (eVar 4) (aCons (eVar 7) (aCons (eVar 8) aNil)))))) (sRet (eC (.bl false))) sNil
noncomputable def st4 : SF := sFor (itSeq (eLst (aCons (eTup (aCons (eVar 5) (aCons (eC (.bl true)) aNil))) (aCons (eTup (aCons (eVar 6) (aCons (eC (.bl false)) aNil))) (aCons (eTup (aCons (eVar 5) (aCons (eC (.bl false)) aNil))) (aCons (eTup (aCons (eVar 6) (aCons (eC (.bl true)) aNil))) aNil)))))) (tgT 2 (tsCons (tgN 7) (tsCons (tgN 8) tsNil))) st4b
noncomputable def stB : SF := sSeq st1 (sSeq st2 (sSeq st3 st4))
theorem b_law_eq : b_law = sSeq (sFor (itRange1 (aCons (eOp2 gMax (eC (.int 2)) (eOp2 gMin (eC (.int 6)) (eOp1 gLen (eVar 0)))) aNil)) (tgN 1) stB) (sRet (eC (.bl true))) := rfl
abbrev E9 (s0 s1 u2 u3 u4 u5 u6 u7 u8 : SD) : List SD := [s0, s1, u2, u3, u4, u5, u6, u7, u8]
theorem round_eval {ns : List Int} {i : Nat} (hi : i ≤ 1000) {u2 u3 u4 u5 u6 u7 u8 : SD} :
    ∃ (v2 v3 v4 v5 v6 v7 v8 : SD) (S' : Store), stB (E9 (.val (.lst (ns.map .int))) (.val (.int i)) u2 u3 u4 u5 u6 u7 u8) S = .next (E9 (.val (.lst (ns.map .int))) (.val (.int i)) v2 v3 v4 v5 v6 v7 v8) S' := by
  obtain ⟨z, ez⟩ := cell_eval (S := S) (ns := ns) hi
  obtain ⟨a, b, eb, B0⟩ := box_eval (S := S) (z := z)
  obtain ⟨n, nb, ps0, S2, es2, n1, n5, pl0, hnb, sp0, B2⟩ := spec_eval B0 (by decide) (by decide)
  obtain ⟨ps, S3, et, pl, sp, B3⟩ := thin_eval B2 (by decide) (by decide) sp0 pl0 n5 (mxR_ok n1 n5).1
  have w := sp.wz pl n1 n5
  have t := sp.tb (Nat.le_refl _) pl n1 n5 hnb
  have te := table_eval (S := S3) w t
  obtain ⟨x1, S4, f1, l1, z1, B4⟩ := few_eval (n := n) B3 (by omega) (by decide) n5
  obtain ⟨x2, S5, f2, l2, z2, B5⟩ := few_eval (n := n) B4 (by omega) (by omega) n5
  have gl : ∀ S : Store, gLen (spL ps) S = .ok (.int n) S := fun S => by
    have := (Sq.lst (S := S) (ds := ps.map plL)).len
    rw [List.length_map, pl] at this
    exact this
  let N : SD := .val (.lst (ns.map .int))
  let ui : SD := .val (.int i)
  let c : SD := .val (.cell S.length)
  have k1 : st1 (E9 N ui u2 u3 u4 u5 u6 u7 u8) S = .next (E9 N ui c u3 u4 u5 u6 u7 u8) (S ++ [[.int a, .int b, .int 0]]) := by
    unfold st1
    simp only [N, E9]
    generalize D.lst (ns.map .int) = N' at ez ⊢
    simp -implicitDefEqProofs [ez, eb, ui, c]
  have k2 : st2 (E9 N ui c u3 u4 u5 u6 u7 u8) (S ++ [[.int a, .int b, .int 0]]) = .next (E9 N ui c (.val (spL ps)) u4 u5 u6 u7 u8) S3 := by
    unfold st2
    simp only [E9, c]
    generalize S ++ [[.int a, .int b, .int 0]] = Sx at es2 ⊢
    generalize spL ps = s1 at et ⊢
    generalize spL ps0 = s0 at es2 et
    simp -implicitDefEqProofs [es2, et]
  have k3 : st3 (E9 N ui c (.val (spL ps)) u4 u5 u6 u7 u8) S3 = .next (E9 N ui c (.val (spL ps)) (.val (tb ps)) (.val (.lst (x1.map fr))) (.val (.lst (x2.map fr))) u7 u8) S5 := by
    have ea : (aCons (eCall 1 D__law_table (aCons (eVar 3) aNil)) (aCons (eCall 2 D__law_few (aCons (eVar 2) (aCons (eOp1 gLen (eVar 3)) aNil))) (aCons (eCall 2 D__law_few (aCons (eVar 2) (aCons (eOp1 gLen (eVar 3)) aNil))) aNil))) (E9 N ui c (.val (spL ps)) u4 u5 u6 u7 u8) S3 = .ok [tb ps, .lst (x1.map fr), .lst (x2.map fr)] S5 := by
      have g3 := gl S3
      have g4 := gl S4
      simp only [E9, c]
      generalize spL ps = s1 at te g3 g4 ⊢
      generalize tb ps = T at te ⊢
      simp -implicitDefEqProofs [te, g3, g4, f1, f2]
    unfold st3 sPar3
    rw [ea]
    rfl
  have tn : Tn ps := ⟨fun p hp => (sp.rows p hp).1, fun p hp r hr => ⟨by rw [((sp.rows p hp).2.2 r hr).1, pl], fun x hx => ⟨(((sp.rows p hp).2.2 r hr).2 x hx).sz.pos, (((sp.rows p hp).2.2 r hr).2 x hx).nn⟩⟩⟩
  have rn : ∀ xs : List Q2, xs.length = n → (∀ x ∈ xs, Nu x) → Rn 84 BN 84 BN 32 ps xs := fun xs hl hz => ⟨w, by rw [hl, pl], fun x hx => (hz x hx).sz, fun x hx => (hz x hx).nn, fit_all⟩
  have nn : ∀ xs : List Q2, (∀ x ∈ xs, Nu x) → ∀ x ∈ xs, Nn x := fun xs hz x hx => ⟨(hz x hx).sz.pos, (hz x hx).nn⟩
  let E := fun (v7 v8 : SD) => E9 N ui c (.val (spL ps)) (.val (tb ps)) (.val (.lst (x1.map fr))) (.val (.lst (x2.map fr))) v7 v8
  obtain ⟨es', S', q1, q2⟩ := forL_run (g := []) (t := tgT 2 (tsCons (tgN 7) (tsCons (tgN 8) tsNil))) (b := st4b) (fun p : List Q2 × Bool => D.tup [.lst (p.1.map fr), .bl p.2])
    (fun _ es S' => ∃ (v7 v8 : SD), es = E v7 v8) (fun _ _ S' _ => Gd.ok_nil S') [(x1, true), (x2, false), (x1, false), (x2, true)] 0 (E u7 u8) S5 ⟨_, _, rfl⟩ fun j' p es S' hj q => by
      obtain ⟨v7, v8, rfl⟩ := q
      have hp : p.1.length = n ∧ ∀ x ∈ p.1, Nu x := by
        have := List.mem_of_getElem? hj
        rcases List.mem_cons.mp this with rfl | h
        · exact ⟨l1, z1⟩
        rcases List.mem_cons.mp h with rfl | h
        · exact ⟨l2, z2⟩
        rcases List.mem_cons.mp h with rfl | h
        · exact ⟨l1, z1⟩
        rcases List.mem_singleton.mp h with rfl
        exact ⟨l2, z2⟩
      obtain ⟨J, er⟩ := right_eval (S := S') (w := p.2) t tn (rn _ hp.1 hp.2) (nn _ hp.2)
      refine ⟨E (.val (.lst (p.1.map fr))) (.val (.bl p.2)), E (.val (.lst (p.1.map fr))) (.val (.bl p.2)), S' ++ J, rfl, ?_, _, _, rfl⟩
      unfold st4b
      simp only [E, E9]
      generalize D.lst (p.1.map fr) = H at er ⊢
      generalize spL ps = s1 at er ⊢
      generalize tb ps = T at er ⊢
      simp -implicitDefEqProofs [er, sNil]
  obtain ⟨v7, v8, rfl⟩ := q2
  have k4 : st4 (E u7 u8) S5 = .next (E v7 v8) S' := by
    unfold st4
    have it : itSeq (eLst (aCons (eTup (aCons (eVar 5) (aCons (eC (.bl true)) aNil))) (aCons (eTup (aCons (eVar 6) (aCons (eC (.bl false)) aNil))) (aCons (eTup (aCons (eVar 5) (aCons (eC (.bl false)) aNil))) (aCons (eTup (aCons (eVar 6) (aCons (eC (.bl true)) aNil))) aNil))))) (E u7 u8) S5 = .ok (([(x1, true), (x2, false), (x1, false), (x2, true)] : List (List Q2 × Bool)).map fun p : List Q2 × Bool => D.tup [.lst (p.1.map fr), .bl p.2]) [] S5 := rfl
    rw [sFor_eq, it]
    exact q1
  refine ⟨c, .val (spL ps), .val (tb ps), .val (.lst (x1.map fr)), .val (.lst (x2.map fr)), v7, v8, S', ?_⟩
  unfold stB
  rw [sSeq_eq, show st1 (E9 (.val (.lst (ns.map .int))) (.val (.int i)) u2 u3 u4 u5 u6 u7 u8) S = _ from k1, Fl.bind_next, sSeq_eq, k2, Fl.bind_next, sSeq_eq, k3, Fl.bind_next]
  exact k4
end
theorem plain (ns : List Int) (hn : ns.length ≤ 63) (hz : ∀ z ∈ ns, PySem.Builtin.Int.intBits z ≤ 1048576) : ∃ S, D_law [.lst (ns.map DL.D.int)] [] = .ok (.bl true) S := by
  let E := fun (u1 u2 u3 u4 u5 u6 u7 u8 : SD) => E9 (.val (.lst (ns.map .int))) u1 u2 u3 u4 u5 u6 u7 u8
  obtain ⟨m, hm, m6⟩ : ∃ m : Nat, (if (if (ns.length : Int) < 6 then (ns.length : Int) else 6) > 2 then (if (ns.length : Int) < 6 then (ns.length : Int) else 6) else 2) = (m : Int) ∧ m ≤ 6 := by
    by_cases h6 : (ns.length : Int) < 6
    · rw [if_pos h6]
      by_cases h2 : (ns.length : Int) > 2
      · exact ⟨ns.length, by rw [if_pos h2], by omega⟩
      · exact ⟨2, by rw [if_neg h2]; rfl, by decide⟩
    · rw [if_neg h6]
      exact ⟨6, rfl, Nat.le_refl _⟩
  obtain ⟨es', S', q1, q2⟩ := forL_run (g := []) (t := tgN 1) (b := stB) (fun (i : Nat) => D.int i)
    (fun _ es S' => ∃ u1 u2 u3 u4 u5 u6 u7 u8, es = E u1 u2 u3 u4 u5 u6 u7 u8) (fun _ _ S' _ => Gd.ok_nil S') (List.range m) 0 (E .no .no .no .no .no .no .no .no) [] ⟨_, _, _, _, _, _, _, _, rfl⟩ fun j x es S hj q => by
      obtain ⟨u1, u2, u3, u4, u5, u6, u7, u8, rfl⟩ := q
      have hx : x < m := by
        have := List.mem_of_getElem? hj
        simpa using this
      obtain ⟨v2, v3, v4, v5, v6, v7, v8, S', e⟩ := round_eval (S := S) (ns := ns) (i := x) (by omega) (u2 := u2) (u3 := u3) (u4 := u4) (u5 := u5) (u6 := u6) (u7 := u7) (u8 := u8)
      exact ⟨E (.val (.int x)) u2 u3 u4 u5 u6 u7 u8, _, S', by simp [tgN_eq, E], e, _, _, _, _, _, _, _, _, rfl⟩
  obtain ⟨u1, u2, u3, u4, u5, u6, u7, u8, rfl⟩ := q2
  refine ⟨S', ?_⟩
  have it : itRange1 (aCons (eOp2 gMax (eC (.int 2)) (eOp2 gMin (eC (.int 6)) (eOp1 gLen (eVar 0)))) aNil) (E .no .no .no .no .no .no .no .no) [] = .ok ((List.range m).map fun (i : Nat) => D.int i) [] [] := range1_eval (by omega) (by
    rw [← hm]
    simp only [E, E9]
    have gl : gLen (.lst (ns.map .int)) ([] : Store) = .ok (.int ns.length) [] := by
      rw [gLen_lst, List.length_map]
    generalize D.lst (ns.map .int) = N at gl ⊢
    simp -implicitDefEqProofs [gl])
  have st : startD 9 [D.lst (ns.map .int)] = E .no .no .no .no .no .no .no .no := rfl
  have main : b_law (E .no .no .no .no .no .no .no .no) [] = .ret (.bl true) S' := by
    rw [b_law_eq, sSeq_eq, sFor_eq, it]
    simp only
    rw [q1, Fl.bind_next]
    simp -implicitDefEqProofs
  unfold D_law
  rw [fnD_eq, st, main]
end K40
set_option Elab.async false
set_option linter.all false
set_option maxRecDepth 100000
set_option maxHeartbeats 2000000
set_option autoImplicit false
namespace K40
open PySem PySem.Spec PyProof.Rows L2 He DL
section
abbrev RR : PySem.W.OpenRow := PySem.W.OpenLaw.row PySem.Challenge.rw_rowpicks_k40_fronts_and_deaths
def exK (K : PySem.W.Frag) : Bool := (cks K).all fun b => b
abbrev hk : PySem.W.Hook := hookE fns exK
def ob (s : PySem.W.SharedT) : AlA := obsEG fns exK (HandSHeadRun.getT s)
theorem ob_eq (s : PySem.W.SharedT) : ob s = hk.obs s.abs := obsEG_eq (HandSHeadRun.getT_eq s)
def nms0 : List PySem.Str := ["_wall", "PickError", "InvalidNumber", "InvalidText", "InvalidName", "InvalidOwner", "InvalidRows", "InvalidTable", "InvalidAmounts", "InvalidPick", "InvalidCount", "UnknownPlace", "Duplicate", "TooMany", "ByZero", "MOST_SIGNS", "DIGITS", "is_integer", "common_divisor", "parts", "number_in", "Ratio", "is_number", "is_amount", "as_ratio", "dot", "is_list", "are_amounts", "MOST_PLACES", "MOST_ROWS"]
def nms1 : List PySem.Str := ["MOST_PICKS", "LONGEST_NAME", "LETTERS", "FIGURES", "STEERER", "FOE", "OWNERS", "is_name", "need_owner", "are_rows", "told_place", "count_picks", "Table", "rows_text", "need_table", "told_amounts", "made", "best_row", "best_of", "best_step", "alive_in", "meets", "best_front", "fronts", "death", "_law_cell", "_law_box", "_law_take", "_law_frac", "_law_plus"]
def nms2 : List PySem.Str := ["_law_times", "_law_less", "_law_pairs", "_law_given", "_law_number", "_law_spec", "_law_handed", "_law_table", "_law_dot", "_law_alive", "_law_meets", "_law_each", "_law_all_picks", "_law_led", "_law_closed", "_law_thin", "_law_few", "_law_best_front", "_law_fronts", "_law_from_right"]
def nms : List PySem.Str := nms0 ++ nms1 ++ nms2
theorem run (w : World) : HandSHeadRun.RunEq RR (PySem.W.view RR.prog [86]) hk ob 9000 nms w := by
  intro os
  kernel_rfl
theorem says {P : Program} {w : World} {K : PySem.W.Frag} {h : Heap} {mg : Str → Option Value} {fa : Addr} (X : K.In h) (G : h.Ns mainGlobals mg) (hfa : mg ("law" : Str) = some (.ref fa)) (c : SaysA fns exK K) :
    ∃ fd : FuncData, (∀ (s : Shared) (v : Value), BindsTo s fd ⟨[v], []⟩ [("_law_script", v)]) ∧ ∀ base : Heap, K.In base → base.Ns mainGlobals mg → FnOk P w K mg base (L2.CX P w) 12 fa fd ["_law_script"] (spD ⟨K, clf K, atf⟩ 1 D_law) := by
  have B : BB K mg := ⟨fun b hb => List.all_eq_true.mp c.more b hb, c.def_, ⟨h, X, G⟩⟩
  obtain ⟨fd, F⟩ := B.def_ d_law (List.mem_of_getElem? (i := 0) rfl)
  have ef : fa = ga K "law" := by
    have e := hfa.symm.trans (B.glo (k121 B))
    cases e
    rfl
  subst ef
  have F' : FunD K d_law.name d_law.qual d_law.params d_law.body d_law.scope [] [] (d_law.at_ K) fd := F
  have b := FunD.bindsA (ps := ["_law_script"]) F' fun _ _ _ _ _ _ us hl => match us, hl with | [_], _ => rfl
  exact ⟨fd, fun s v => b s [v] rfl, fun base _ _ => fnk_of (Γ := GG K) (d := d_law) (ξ := ⟨0, .none, none⟩) F sc_law rfl rfl (p_law B)⟩
end
end K40
open PySem PySem.W PySem.Calls PyProof.Rows
set_option maxHeartbeats 0 in
theorem PySem.Challenge.cw_rowpicks_k40_fronts_and_deaths_holds : PySem.Challenge.rw_rowpicks_k40_fronts_and_deaths.Holds := by
  w_on; o_law
  refine HandSHeadRun.head_any (r := OpenLaw.row PySem.Challenge.rw_rowpicks_k40_fronts_and_deaths) (q := view (OpenLaw.row PySem.Challenge.rw_rowpicks_k40_fronts_and_deaths).prog [86]) (H := K40.hk) (ob := K40.ob) (M := 9000) (loose := K40.nms) (d := HandSHeadRun.topDef (OpenLaw.row PySem.Challenge.rw_rowpicks_k40_fronts_and_deaths).prog 86) (kwd := []) K40.ob_eq
    (by kernel_rfl) (fun s => by kernel_rfl) K40.run (by kernel_rfl) (by kernel_rfl) (by kernel_rfl) (by rfl) (by first | assumption | decide +kernel) (by decide +kernel) ⟨rfl, rfl, rfl, rfl, rfl, by decide +kernel⟩ ?hw ?hc
  case hw => w_witness2
  case hc =>
    refine DL.walk_dl (l := PySem.Challenge.rw_rowpicks_k40_fronts_and_deaths) (n := 63) (k := 12) (x := "_law_script") rfl (by decide) (by kernel_rfl) ⟨rfl, by decide, by decide⟩ ?F
    intro w mg fa h Y G hmg0
    obtain ⟨K, KX, c⟩ := Y
    have hmg : mg ("law" : PySem.Str) = some (.ref fa) := by
      have e : (HandSHeadRun.topDef (OpenLaw.row PySem.Challenge.rw_rowpicks_k40_fronts_and_deaths).prog 86).name = ("law" : PySem.Str) := by kernel_rfl
      rw [← e]
      exact hmg0
    obtain ⟨fd, hb, hF⟩ := K40.says (P := (PySem.Challenge.rw_rowpicks_k40_fronts_and_deaths).prog) (w := w) KX G hmg c
    exact ⟨K, fd, K40.clf K, K40.atf, K40.D_law, KX, hb, fun ns hl hz => K40.plain ns hl hz, hF⟩
