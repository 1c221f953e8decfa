import PyProof.Rows.All
import Wide.All
import OpenK.AllK
import Wide.FinOn
import HandS.ForMost
import HandS.ForExc
import HandS.Wide
import HandS.Slots
import HandS.SlotsOwn
import HandS.ClsMeth
import HandS.CallSlots
import HandS.ExcInit
import HandS.IsInst
import HandS.Zip
import HandS.Style
import HandS.Property
import KE.KOpsOwn
import HandS.Defaults
import HandS.MakeKw
import HandS.MakeKwOnly
import HandS.TryMany
import HandS.ExcField
import HandS.TupLe
import HandS.Base
import HandS.Call
import HandS.Dict
import HandS.DictEq
import KE.KStateDown
import HandS.Ends
import HandS.Head0
import HandS.Head1
import HandS.Head2
import HandS.HeadEnd
import HandS.HeadHook1
import HandS.HeadHook2
import HandS.EndBits
import PySem.Challenge.RW_rowpicks_k02_ratios_reckoned
set_option Elab.async false
set_option linter.all false
set_option maxRecDepth 100000
set_option maxHeartbeats 2000000
set_option autoImplicit false
/-! The data layer: values as trees, worlds, readings by plain functions. -/
namespace DL
open PySem L2

/-- plain data; cell i: a list that may be changed, the i-th of the store -/
inductive D where
  | non | bl (b : Bool) | int (i : Int) | str (x : Str) | ty (n : String) | cls (k : Nat) | cell (i : Nat)
  | lst (ds : List D) | tup (ds : List D) | obj (k : Nat) (ds : List D) | dct (ks : List Key) (ds : List D)
  deriving Inhabited

/-- what a store's cell holds -/
abbrev Store := List (List D)

inductive Res where
  | ok (d : D) (S : Store)
  | exc (k : Nat) (fs : List (Str × D)) (S : Store)
  | bad
inductive ResA where
  | ok (ds : List D) (S : Store)
  | exc (k : Nat) (fs : List (Str × D)) (S : Store)
  | bad
def Res.bind (r : Res) (k : D → Store → Res) : Res := match r with
  | .ok d S => k d S
  | .exc c fs S => .exc c fs S
  | .bad => .bad
def Res.bindA (r : Res) (k : D → Store → ResA) : ResA := match r with
  | .ok d S => k d S
  | .exc c fs S => .exc c fs S
  | .bad => .bad
def ResA.bind (r : ResA) (k : List D → Store → Res) : Res := match r with
  | .ok d S => k d S
  | .exc c fs S => .exc c fs S
  | .bad => .bad
/-- nothing may be raised here -/
def Res.nox (r : Res) : Res := match r with
  | .ok d S => .ok d S
  | _ => .bad

structure Wd where
  F : Hp
  P : Hp
  m : List Addr

/-- what is fixed for a program: its written part, its classes -/
structure Pg where
  K : PySem.W.Frag
  cl : Nat → Addr

section
variable (Γ : Pg)
mutual
def Rep (W : Wd) : D → V → Prop
  | .non, v => v = .non
  | .bl b, v => v = .bl b
  | .int i, v => v = .int i
  | .str x, v => v = .str x
  | .ty n, v => v = .ty n
  | .cls k, v => v = .ref (Γ.cl k)
  | .cell i, v => ∃ a, v = .ref a ∧ W.m[i]? = some a
  | .lst ds, v => ∃ a vs, v = .ref a ∧ SqL Γ.K W.F a vs ∧ Reps W ds vs
  | .tup ds, v => ∃ a vs, v = .ref a ∧ SqT Γ.K W.F a vs ∧ Reps W ds vs
  | .obj k ds, v => ∃ a dx vs, v = .ref a ∧ SlX.Slt W.F a (Γ.cl k) dx (vs.map some) ∧ Reps W ds vs
  | .dct ks ds, v => ∃ a kvs vs, v = .ref a ∧ W.F a = some (.dK kvs) ∧ kvs.map (·.1) = ks ∧ kvs.map (·.2) = vs ∧ Reps W ds vs
def Reps (W : Wd) : List D → List V → Prop
  | [], vs => vs = []
  | d :: ds, vs => ∃ v vs', vs = v :: vs' ∧ Rep W d v ∧ Reps W ds vs'
end
end

/-- the world has grown -/
structure Le (W W' : Wd) : Prop where
  f : ∀ a o, W.F a = some o → W'.F a = some o
  p : W'.P = W.P
  m : ∀ (i : Nat) (a : Addr), W.m[i]? = some a → W'.m[i]? = some a
theorem Le.refl (W : Wd) : Le W W := ⟨fun _ _ h => h, rfl, fun _ _ h => h⟩
theorem Le.trans {W W1 W2 : Wd} (a : Le W W1) (b : Le W1 W2) : Le W W2 := ⟨fun x o h => b.f x o (a.f x o h), b.p.trans a.p, fun i x h => b.m i x (a.m i x h)⟩
/-- the world has grown, but for what belongs to a frame -/
structure LeS (W W' : Wd) : Prop where
  f : ∀ a o, W.F a = some o → W'.F a = some o
  m : ∀ (i : Nat) (a : Addr), W.m[i]? = some a → W'.m[i]? = some a
theorem LeS.refl (W : Wd) : LeS W W := ⟨fun _ _ h => h, fun _ _ h => h⟩
theorem LeS.trans {W W1 W2 : Wd} (a : LeS W W1) (b : LeS W1 W2) : LeS W W2 := ⟨fun x o h => b.f x o (a.f x o h), fun i x h => b.m i x (a.m i x h)⟩
theorem Le.s {W W' : Wd} (a : Le W W') : LeS W W' := ⟨a.f, a.m⟩

theorem rd_le {W W' : Wd} (e : LeS W W') {a : Addr} {u : HO} (h : Rd W.F a u) : Rd W'.F a u := by
  rcases h with h | ⟨o, h⟩
  · exact .inl (e.f _ _ h)
  · exact .inr ⟨o, e.f _ _ h⟩
theorem sqL_le {K : PySem.W.Frag} {W W' : Wd} (e : LeS W W') {a : Addr} {vs : List V} (h : SqL K W.F a vs) : SqL K W'.F a vs := by
  rcases h with h | h
  · exact .inl (rd_le e h)
  · exact .inr h
theorem sqT_le {K : PySem.W.Frag} {W W' : Wd} (e : LeS W W') {a : Addr} {vs : List V} (h : SqT K W.F a vs) : SqT K W'.F a vs := by
  rcases h with h | h
  · exact .inl (rd_le e h)
  · exact .inr h
theorem slt_le {W W' : Wd} (e : LeS W W') {a C dx : Addr} {vs : List (Option V)} (h : SlX.Slt W.F a C dx vs) : SlX.Slt W'.F a C dx vs := by
  rcases h with ⟨h, z⟩ | ⟨h, z⟩
  · exact .inl ⟨e.f _ _ h, z⟩
  · exact .inr ⟨e.f _ _ h, e.f _ _ z⟩
section
variable {Γ : Pg}
mutual
theorem Rep.mono {W W' : Wd} (e : LeS W W') : ∀ {d : D} {v : V}, Rep Γ W d v → Rep Γ W' d v
  | .non, v, h => by simpa only [Rep] using h
  | .bl b, v, h => by simpa only [Rep] using h
  | .int i, v, h => by simpa only [Rep] using h
  | .str x, v, h => by simpa only [Rep] using h
  | .ty n, v, h => by simpa only [Rep] using h
  | .cls k, v, h => by simpa only [Rep] using h
  | .cell i, v, h => by
    simp only [Rep] at h ⊢
    obtain ⟨a, h1, h2⟩ := h
    exact ⟨a, h1, e.m _ _ h2⟩
  | .lst ds, v, h => by
    simp only [Rep] at h ⊢
    obtain ⟨a, vs, h1, h2, h3⟩ := h
    exact ⟨a, vs, h1, sqL_le e h2, Reps.mono e h3⟩
  | .tup ds, v, h => by
    simp only [Rep] at h ⊢
    obtain ⟨a, vs, h1, h2, h3⟩ := h
    exact ⟨a, vs, h1, sqT_le e h2, Reps.mono e h3⟩
  | .obj k ds, v, h => by
    simp only [Rep] at h ⊢
    obtain ⟨a, dx, vs, h1, h2, h3⟩ := h
    exact ⟨a, dx, vs, h1, slt_le e h2, Reps.mono e h3⟩
  | .dct ks ds, v, h => by
    simp only [Rep] at h ⊢
    obtain ⟨a, kvs, vs, h1, h2, h3, h4, h5⟩ := h
    exact ⟨a, kvs, vs, h1, e.f _ _ h2, h3, h4, Reps.mono e h5⟩
theorem Reps.mono {W W' : Wd} (e : LeS W W') : ∀ {ds : List D} {vs : List V}, Reps Γ W ds vs → Reps Γ W' ds vs
  | [], vs, h => by simpa only [Reps] using h
  | d :: ds, vs, h => by
    simp only [Reps] at h ⊢
    obtain ⟨v, vs', h1, h2, h3⟩ := h
    exact ⟨v, vs', h1, Rep.mono e h2, Reps.mono e h3⟩
end
theorem Reps.length {W : Wd} : ∀ {ds : List D} {vs : List V}, Reps Γ W ds vs → vs.length = ds.length
  | [], vs, h => by simp only [Reps] at h; subst h; rfl
  | d :: ds, vs, h => by
    simp only [Reps] at h
    obtain ⟨v, vs', rfl, _, h3⟩ := h
    simp [Reps.length h3]
theorem Reps.nil {W : Wd} : Reps Γ W [] [] := by simp only [Reps]
theorem Reps.cons {W : Wd} {d : D} {ds : List D} {v : V} {vs : List V} (h : Rep Γ W d v) (t : Reps Γ W ds vs) : Reps Γ W (d :: ds) (v :: vs) := by
  simp only [Reps]; exact ⟨v, vs, rfl, h, t⟩
theorem Reps.append {W : Wd} : ∀ {ds es : List D} {vs us : List V}, Reps Γ W ds vs → Reps Γ W es us → Reps Γ W (ds ++ es) (vs ++ us)
  | [], es, vs, us, h, h2 => by simp only [Reps] at h; subst h; exact h2
  | d :: ds, es, vs, us, h, h2 => by
    simp only [Reps] at h
    obtain ⟨v, vs', rfl, h1, h3⟩ := h
    exact Reps.cons h1 (Reps.append h3 h2)
theorem Reps.get {W : Wd} : ∀ {ds : List D} {vs : List V} {i : Nat} {d : D}, Reps Γ W ds vs → ds[i]? = some d → ∃ v, vs[i]? = some v ∧ Rep Γ W d v
  | [], _, _, _, _, h => by simp at h
  | d0 :: ds, vs, i, d, h, hi => by
    simp only [Reps] at h
    obtain ⟨v, vs', rfl, h1, h3⟩ := h
    cases i with
    | zero => simp at hi; subst hi; exact ⟨v, rfl, h1⟩
    | succ i => simpa using Reps.get h3 (by simpa using hi)
end

/-! ### the store and the heap -/
section
variable (Γ : Pg)
def CellOk (W : Wd) (ds : List D) (a : Addr) (H : Hp) : Prop := ∃ vs, H a = some (.lst vs) ∧ Reps Γ W ds vs
structure Ok (W : Wd) (S : Store) (H : Hp) : Prop where
  f : ∀ a o, W.F a = some o → H a = some o
  p : ∀ a o, W.P a = some o → H a = some o ∧ W.F a = none
  m : ∀ (i : Nat) (a : Addr), W.m[i]? = some a → W.F a = none ∧ W.P a = none
  nd : W.m.Nodup
  len : W.m.length = S.length
  c : ∀ (i : Nat) (a : Addr) (ds : List D), W.m[i]? = some a → S[i]? = some ds → CellOk Γ W ds a H
end

/-- a slot: nothing, a value, a list of the frame's own that is being built, the exception that a suite holds -/
inductive SD where
  | no | val (d : D) | acc (ds : List D) | exn (k : Nat) (fs : List (Str × D)) | slf
  deriving Inhabited
/-- the exception that a suite holds: where it stands, its class, its own dict -/
structure Xx where
  a : Addr
  c : Value
  d : Option Addr
section
variable {Γ : Pg}
def RepX (W : Wd) (fs : List (Str × D)) (d : Option Addr) : Prop := fs = [] ∨ ∃ dx vfs, d = some dx ∧ W.F dx = some (.xd vfs) ∧ vfs.map (·.1) = fs.map (·.1) ∧ Reps Γ W (fs.map (·.2)) (vfs.map (·.2))
end
section
variable (Γ : Pg) (ξ : Xx)
def SlotsR (W : Wd) : List SD → L2.St → List (Addr × HO) → Prop
  | [], σ, own => σ = [] ∧ own = []
  | .no :: es, σ, own => ∃ o σ', σ = o :: σ' ∧ SlotsR W es σ' own
  | .val d :: es, σ, own => ∃ v σ', σ = some v :: σ' ∧ Rep Γ W d v ∧ SlotsR W es σ' own
  | .acc ds :: es, σ, own => ∃ a vs σ' own', σ = some (.ref a) :: σ' ∧ own = (a, .lst vs) :: own' ∧ Reps Γ W ds vs ∧ SlotsR W es σ' own'
  | .exn k fs :: es, σ, own => ∃ σ', σ = some (.ref ξ.a) :: σ' ∧ ξ.c = .ref (Γ.cl k) ∧ RepX (Γ := Γ) W fs ξ.d ∧ SlotsR W es σ' own
  | .slf :: es, σ, own => ∃ σ', σ = some (.ref ξ.a) :: σ' ∧ SlotsR W es σ' own
structure OwnP (W : Wd) (own : List (Addr × HO)) (P0 : Hp) : Prop where
  nd : (own.map (·.1)).Nodup
  at_ : ∀ p ∈ own, P0 p.1 = none ∧ W.P p.1 = some p.2
  rest : ∀ a, a ∉ own.map (·.1) → W.P a = P0 a
def Frame (W : Wd) (es : List SD) (σ : L2.St) (P0 : Hp) : Prop := ∃ own, SlotsR Γ ξ W es σ own ∧ OwnP W own P0
end
section
variable {Γ : Pg} {ξ : Xx}
theorem repX_le {W W' : Wd} {fs : List (Str × D)} {d : Option Addr} (h : RepX (Γ := Γ) W fs d) (e : LeS W W') : RepX (Γ := Γ) W' fs d := by
  rcases h with h | ⟨dx, vfs, h1, h2, h3, h4⟩
  · exact .inl h
  · exact .inr ⟨dx, vfs, h1, e.f _ _ h2, h3, h4.mono e⟩
theorem SlotsR.mono {W W' : Wd} (e : LeS W W') : ∀ {es : List SD} {σ : L2.St} {own : List (Addr × HO)}, SlotsR Γ ξ W es σ own → SlotsR Γ ξ W' es σ own
  | [], σ, own, h => h
  | .no :: es, σ, own, h => by
    obtain ⟨o, σ', h1, h2⟩ := h
    exact ⟨o, σ', h1, SlotsR.mono e h2⟩
  | .val d :: es, σ, own, h => by
    obtain ⟨v, σ', h1, h2, h3⟩ := h
    exact ⟨v, σ', h1, h2.mono e, SlotsR.mono e h3⟩
  | .acc ds :: es, σ, own, h => by
    obtain ⟨a, vs, σ', own', h1, h2, h3, h4⟩ := h
    exact ⟨a, vs, σ', own', h1, h2, h3.mono e, SlotsR.mono e h4⟩
  | .exn k fs :: es, σ, own, h => by
    obtain ⟨σ', h1, h2, h3, h4⟩ := h
    exact ⟨σ', h1, h2, repX_le h3 e, SlotsR.mono e h4⟩
  | .slf :: es, σ, own, h => by
    obtain ⟨σ', h1, h4⟩ := h
    exact ⟨σ', h1, SlotsR.mono e h4⟩
theorem Frame.le {W W' : Wd} {es : List SD} {σ : L2.St} {P0 : Hp} (h : Frame Γ ξ W es σ P0) (e : Le W W') : Frame Γ ξ W' es σ P0 := by
  obtain ⟨own, h1, h2⟩ := h
  exact ⟨own, h1.mono e.s, h2.nd, fun p hp => by rw [e.p]; exact h2.at_ p hp, fun a ha => by rw [e.p]; exact h2.rest a ha⟩
theorem SlotsR.length {W : Wd} : ∀ {es : List SD} {σ : L2.St} {own : List (Addr × HO)}, SlotsR Γ ξ W es σ own → σ.length = es.length
  | [], σ, own, h => by rw [h.1]; rfl
  | .no :: es, σ, own, h => by
    obtain ⟨o, σ', rfl, h2⟩ := h
    simp [SlotsR.length h2]
  | .val d :: es, σ, own, h => by
    obtain ⟨v, σ', rfl, h2, h3⟩ := h
    simp [SlotsR.length h3]
  | .acc ds :: es, σ, own, h => by
    obtain ⟨a, vs, σ', own', rfl, h2, h3, h4⟩ := h
    simp [SlotsR.length h4]
  | .exn k fs :: es, σ, own, h => by
    obtain ⟨σ', rfl, h2, h3, h4⟩ := h
    simp [SlotsR.length h4]
  | .slf :: es, σ, own, h => by
    obtain ⟨σ', rfl, h4⟩ := h
    simp [SlotsR.length h4]
theorem SlotsR.val {W : Wd} : ∀ {es : List SD} {σ : L2.St} {own : List (Addr × HO)} {i : Nat} {d : D}, SlotsR Γ ξ W es σ own → es[i]? = some (.val d) → ∃ v, σ[i]? = some (some v) ∧ Rep Γ W d v
  | [], σ, own, i, d, h, hi => by simp at hi
  | .no :: es, σ, own, i, d, h, hi => by
    obtain ⟨o, σ', rfl, h2⟩ := h
    cases i with
    | zero => simp at hi
    | succ i => simpa using SlotsR.val h2 (by simpa using hi)
  | .val d0 :: es, σ, own, i, d, h, hi => by
    obtain ⟨v, σ', rfl, h2, h3⟩ := h
    cases i with
    | zero => simp at hi; subst hi; exact ⟨v, rfl, h2⟩
    | succ i => simpa using SlotsR.val h3 (by simpa using hi)
  | .acc ds :: es, σ, own, i, d, h, hi => by
    obtain ⟨a, vs, σ', own', rfl, h2, h3, h4⟩ := h
    cases i with
    | zero => simp at hi
    | succ i => simpa using SlotsR.val h4 (by simpa using hi)
  | .exn k fs :: es, σ, own, i, d, h, hi => by
    obtain ⟨σ', rfl, h2, h3, h4⟩ := h
    cases i with
    | zero => simp at hi
    | succ i => simpa using SlotsR.val h4 (by simpa using hi)
  | .slf :: es, σ, own, i, d, h, hi => by
    obtain ⟨σ', rfl, h4⟩ := h
    cases i with
    | zero => simp at hi
    | succ i => simpa using SlotsR.val h4 (by simpa using hi)
theorem SlotsR.acc {W : Wd} : ∀ {es : List SD} {σ : L2.St} {own : List (Addr × HO)} {i : Nat} {ds : List D}, SlotsR Γ ξ W es σ own → es[i]? = some (.acc ds) → ∃ a vs, σ[i]? = some (some (.ref a)) ∧ Reps Γ W ds vs ∧ (a, HO.lst vs) ∈ own
  | [], σ, own, i, d, h, hi => by simp at hi
  | .no :: es, σ, own, i, d, h, hi => by
    obtain ⟨o, σ', rfl, h2⟩ := h
    cases i with
    | zero => simp at hi
    | succ i => simpa using SlotsR.acc h2 (by simpa using hi)
  | .val d0 :: es, σ, own, i, d, h, hi => by
    obtain ⟨v, σ', rfl, h2, h3⟩ := h
    cases i with
    | zero => simp at hi
    | succ i => simpa using SlotsR.acc h3 (by simpa using hi)
  | .acc ds :: es, σ, own, i, d, h, hi => by
    obtain ⟨a, vs, σ', own', rfl, rfl, h3, h4⟩ := h
    cases i with
    | zero => simp at hi; subst hi; exact ⟨a, vs, rfl, h3, List.mem_cons_self⟩
    | succ i =>
      obtain ⟨a', vs', h5, h6, h7⟩ := SlotsR.acc h4 (by simpa using hi)
      exact ⟨a', vs', by simpa using h5, h6, List.mem_cons_of_mem _ h7⟩
  | .exn k fs :: es, σ, own, i, d, h, hi => by
    obtain ⟨σ', rfl, h2, h3, h4⟩ := h
    cases i with
    | zero => simp at hi
    | succ i => simpa using SlotsR.acc h4 (by simpa using hi)
  | .slf :: es, σ, own, i, d, h, hi => by
    obtain ⟨σ', rfl, h4⟩ := h
    cases i with
    | zero => simp at hi
    | succ i => simpa using SlotsR.acc h4 (by simpa using hi)
theorem SlotsR.exn {W : Wd} : ∀ {es : List SD} {σ : L2.St} {own : List (Addr × HO)} {i k : Nat} {fs : List (Str × D)}, SlotsR Γ ξ W es σ own → es[i]? = some (.exn k fs) → σ[i]? = some (some (.ref ξ.a)) ∧ ξ.c = .ref (Γ.cl k) ∧ RepX (Γ := Γ) W fs ξ.d
  | [], σ, own, i, _, _, h, hi => by simp at hi
  | .no :: es, σ, own, i, _, _, h, hi => by
    obtain ⟨o, σ', rfl, h2⟩ := h
    cases i with
    | zero => simp at hi
    | succ i => simpa using SlotsR.exn h2 (by simpa using hi)
  | .val d0 :: es, σ, own, i, _, _, h, hi => by
    obtain ⟨v, σ', rfl, h2, h3⟩ := h
    cases i with
    | zero => simp at hi
    | succ i => simpa using SlotsR.exn h3 (by simpa using hi)
  | .acc ds :: es, σ, own, i, _, _, h, hi => by
    obtain ⟨a, vs, σ', own', rfl, rfl, h3, h4⟩ := h
    cases i with
    | zero => simp at hi
    | succ i => simpa using SlotsR.exn h4 (by simpa using hi)
  | .exn k0 fs0 :: es, σ, own, i, k, fs, h, hi => by
    obtain ⟨σ', rfl, h2, h3, h4⟩ := h
    cases i with
    | zero => simp at hi; obtain ⟨rfl, rfl⟩ := hi; exact ⟨rfl, h2, h3⟩
    | succ i => simpa using SlotsR.exn h4 (by simpa using hi)
  | .slf :: es, σ, own, i, _, _, h, hi => by
    obtain ⟨σ', rfl, h4⟩ := h
    cases i with
    | zero => simp at hi
    | succ i => simpa using SlotsR.exn h4 (by simpa using hi)
theorem SlotsR.slf {W : Wd} : ∀ {es : List SD} {σ : L2.St} {own : List (Addr × HO)} {i : Nat}, SlotsR Γ ξ W es σ own → es[i]? = some .slf → σ[i]? = some (some (.ref ξ.a))
  | [], σ, own, i, h, hi => by simp at hi
  | .no :: es, σ, own, i, h, hi => by
    obtain ⟨o, σ', rfl, h2⟩ := h
    cases i with
    | zero => simp at hi
    | succ i => simpa using SlotsR.slf h2 (by simpa using hi)
  | .val d0 :: es, σ, own, i, h, hi => by
    obtain ⟨v, σ', rfl, h2, h3⟩ := h
    cases i with
    | zero => simp at hi
    | succ i => simpa using SlotsR.slf h3 (by simpa using hi)
  | .acc ds :: es, σ, own, i, h, hi => by
    obtain ⟨a, vs, σ', own', rfl, rfl, h3, h4⟩ := h
    cases i with
    | zero => simp at hi
    | succ i => simpa using SlotsR.slf h4 (by simpa using hi)
  | .exn k0 fs0 :: es, σ, own, i, h, hi => by
    obtain ⟨σ', rfl, h2, h3, h4⟩ := h
    cases i with
    | zero => simp at hi
    | succ i => simpa using SlotsR.slf h4 (by simpa using hi)
  | .slf :: es, σ, own, i, h, hi => by
    obtain ⟨σ', rfl, h4⟩ := h
    cases i with
    | zero => rfl
    | succ i => simpa using SlotsR.slf h4 (by simpa using hi)

/-! ### what follows a result -/
def Cont (Γ : Pg) (r : Res) (W : Wd) (Q : VK) (E : XK) : Prop := match r with
  | .ok d S => ∀ W' v H', Le W W' → Ok Γ W' S H' → Rep Γ W' d v → Q v H'
  | .exc k fs S => ∀ W' d H', Le W W' → Ok Γ W' S H' → RepX (Γ := Γ) W' fs d → E (.ref (Γ.cl k)) d H'
  | .bad => False
def ContA (Γ : Pg) (r : ResA) (W : Wd) (Q : List V → Hp → Prop) (E : XK) : Prop := match r with
  | .ok ds S => ∀ W' vs H', Le W W' → Ok Γ W' S H' → Reps Γ W' ds vs → Q vs H'
  | .exc k fs S => ∀ W' d H', Le W W' → Ok Γ W' S H' → RepX (Γ := Γ) W' fs d → E (.ref (Γ.cl k)) d H'
  | .bad => False
theorem Cont.le {r : Res} {W W' : Wd} {Q : VK} {E : XK} (h : Cont Γ r W Q E) (e : Le W W') : Cont Γ r W' Q E := by
  cases r with
  | ok d S => exact fun W2 v H2 l => h W2 v H2 (e.trans l)
  | exc k fs S => exact fun W2 v H2 l => h W2 v H2 (e.trans l)
  | bad => exact h
theorem ContA.le {r : ResA} {W W' : Wd} {Q : List V → Hp → Prop} {E : XK} (h : ContA Γ r W Q E) (e : Le W W') : ContA Γ r W' Q E := by
  cases r with
  | ok d S => exact fun W2 v H2 l => h W2 v H2 (e.trans l)
  | exc k fs S => exact fun W2 v H2 l => h W2 v H2 (e.trans l)
  | bad => exact h
theorem Cont.bind {r : Res} {k : D → Store → Res} {W : Wd} {Q Q1 : VK} {E : XK} (h : Cont Γ (r.bind k) W Q E)
    (q : ∀ d S1 W1 v H1, Le W W1 → Ok Γ W1 S1 H1 → Rep Γ W1 d v → Cont Γ (k d S1) W1 Q E → Q1 v H1) : Cont Γ r W Q1 E := by
  cases r with
  | ok d S => exact fun W1 v H1 l o r => q d S W1 v H1 l o r (Cont.le h l)
  | exc c fs S => exact h
  | bad => exact h
theorem Cont.bindA {r : Res} {k : D → Store → ResA} {W : Wd} {Q : List V → Hp → Prop} {Q1 : VK} {E : XK} (h : ContA Γ (r.bindA k) W Q E)
    (q : ∀ d S1 W1 v H1, Le W W1 → Ok Γ W1 S1 H1 → Rep Γ W1 d v → ContA Γ (k d S1) W1 Q E → Q1 v H1) : Cont Γ r W Q1 E := by
  cases r with
  | ok d S => exact fun W1 v H1 l o r => q d S W1 v H1 l o r (ContA.le h l)
  | exc c fs S => exact h
  | bad => exact h
theorem ContA.bind {r : ResA} {k : List D → Store → Res} {W : Wd} {Q : VK} {Q1 : List V → Hp → Prop} {E : XK} (h : Cont Γ (r.bind k) W Q E)
    (q : ∀ ds S1 W1 vs H1, Le W W1 → Ok Γ W1 S1 H1 → Reps Γ W1 ds vs → Cont Γ (k ds S1) W1 Q E → Q1 vs H1) : ContA Γ r W Q1 E := by
  cases r with
  | ok d S => exact fun W1 v H1 l o r => q d S W1 v H1 l o r (Cont.le h l)
  | exc c fs S => exact h
  | bad => exact h
theorem Cont.nox {r : Res} {W : Wd} {Q : VK} {E E' : XK} (h : Cont Γ r.nox W Q E) : Cont Γ r W Q E' := by
  cases r with
  | ok d S => exact h
  | exc c fs S => exact h.elim
  | bad => exact h
theorem Cont.imp {r : Res} {W : Wd} {Q Q' : VK} {E : XK} (h : Cont Γ r W Q E) (q : ∀ v H, Q v H → Q' v H) : Cont Γ r W Q' E := by
  cases r with
  | ok d S => exact fun W1 v H1 l o r => q _ _ (h W1 v H1 l o r)
  | exc c fs S => exact h
  | bad => exact h

/-! ### readings -/
abbrev EF := List SD → Store → Res
abbrev AF := List SD → Store → ResA
/-- an exception's wish by slots -/
abbrev WX := Value → Option Addr → L2.St → Hp → Prop
def at_ (E : WX) (σ : L2.St) : XK := fun c d H => E c d σ H
def dE (Γ : Pg) (ξ : Xx) (f : EF) (E : WX) : TE := fun σ H Q => ∃ W es S P0, Ok Γ W S H ∧ Frame Γ ξ W es σ P0 ∧ Cont Γ (f es S) W Q (at_ E σ)
def dA (Γ : Pg) (ξ : Xx) (f : AF) (E : WX) : TA := fun σ H Q => ∃ W es S P0, Ok Γ W S H ∧ Frame Γ ξ W es σ P0 ∧ ContA Γ (f es S) W Q (at_ E σ)
theorem _root_.L2.PE.imp {X : Cx} {e : Expr} {t t' : TE} (h : PE X e t) (q : ∀ σ H Q, t' σ H Q → t σ H Q) : PE X e t' := ⟨fun pins s σ H Q I z => h.run pins s σ H Q I (q σ H Q z)⟩
theorem _root_.L2.PA.imp {X : Cx} {es : List Expr} {t t' : TA} (h : PA X es t) (q : ∀ σ H Q, t' σ H Q → t σ H Q) : PA X es t' := ⟨fun p pins s σ H Q I z => h.run p pins s σ H Q I (q σ H Q z)⟩
theorem _root_.L2.PT.imp {X : Cx} {e : Expr} {t t' : TT} (h : PT X e t) (q : ∀ σ H Q, t' σ H Q → t σ H Q) : PT X e t' := ⟨fun pins s σ H Q I z => h.run pins s σ H Q I (q σ H Q z)⟩
theorem _root_.L2.PS.imp {X : Cx} {e : Stmt} {t t' : TS} (h : PS X e t) (q : ∀ D σ H, t' D σ H → t D σ H) : PS X e t' := ⟨fun pins s σ H D I z => h.run pins s σ H D I (q D σ H z)⟩
theorem _root_.L2.PSs.imp {X : Cx} {e : List Stmt} {t t' : TS} (h : PSs X e t) (q : ∀ D σ H, t' D σ H → t D σ H) : PSs X e t' := ⟨fun pins s σ H D I z => h.run pins s σ H D I (q D σ H z)⟩

/-! ### names, constants -/
def eVar (i : Nat) : EF := fun es S => match es[i]? with
  | some (.val d) => .ok d S
  | _ => .bad
def eC (d : D) : EF := fun _ S => .ok d S
section
variable {X : Cx} {E : WX}
theorem de_var (i : Nat) {x : Str} {pos : Pos} (hN : X.N[i]? = some x := by rfl) (hv : Vis X.env.scope x := by first | exact Or.inl rfl | exact Or.inr (Or.inl rfl) | exact Or.inr (Or.inr rfl)) (hd : (x == ("__debug__" : Str)) = false := by decide)
    (hcd : (x == ("__classdict__" : Str)) = false := by decide) : PE X (.Name x pos) (dE Γ ξ (eVar i) E) := (pe_var hN hv hd hcd).imp fun σ H Q ⟨W, es, S, P0, ok, ⟨own, fr, _⟩, h⟩ => by
  unfold eVar at h
  cases hi : es[i]? with
  | none => rw [hi] at h; exact h.elim
  | some sd =>
    rw [hi] at h
    cases sd with
    | no => exact h.elim
    | acc ds => exact h.elim
    | exn k fs => exact h.elim
    | slf => exact h.elim
    | val d =>
      obtain ⟨v, h1, h2⟩ := fr.val hi
      exact ⟨v, h1, h W v H (Le.refl W) ok h2⟩
theorem de_c {e : Expr} {d : D} {v : V} (h : PE X e (tC v)) (r : ∀ W, Rep Γ W d v) : PE X e (dE Γ ξ (eC d) E) := h.imp fun σ H Q ⟨W, es, S, P0, ok, fr, h⟩ => h W v H (Le.refl W) ok (r W)
theorem de_int {i j pos} : PE X (.Constant (.int i) j pos) (dE Γ ξ (eC (.int i)) E) := de_c pe_int fun W => by simp only [Rep]
theorem de_bl {b j pos} : PE X (.Constant (.bool b) j pos) (dE Γ ξ (eC (.bl b)) E) := de_c pe_bl fun W => by simp only [Rep]
theorem de_non {j pos} : PE X (.Constant .none j pos) (dE Γ ξ (eC .non) E) := de_c pe_non fun W => by simp only [Rep]
theorem de_str {x j pos} : PE X (.Constant (.str x) j pos) (dE Γ ξ (eC (.str x)) E) := de_c pe_str fun W => by simp only [Rep]

/-! ### operations of two values -/
def eOp2 (g : D → D → Store → Res) (a b : EF) : EF := fun es S => (a es S).bind fun x S1 => (b es S1).bind fun y S2 => (g x y S2).nox
def rD (Γ : Pg) (g : D → D → Store → Res) : R2 := fun x y H Q => ∃ W S a b, Ok Γ W S H ∧ Rep Γ W a x ∧ Rep Γ W b y ∧ Cont Γ (g a b S) W Q (fun _ _ _ => False)
theorem tOp_of {g : D → D → Store → Res} {fa fb : EF} {σ : L2.St} {H : Hp} {Q : VK} (h : dE Γ ξ (eOp2 g fa fb) E σ H Q) : tOp (rD Γ g) (dE Γ ξ fa E) (dE Γ ξ fb E) σ H Q := by
  obtain ⟨W, es, S, P0, ok, fr, h⟩ := h
  refine ⟨W, es, S, P0, ok, fr, h.bind fun d S1 W1 v H1 le ok1 rv h1 => ?_⟩
  refine ⟨W1, es, S1, P0, ok1, fr.le le, h1.bind fun d2 S2 W2 v2 H2 le2 ok2 rv2 h2 => ?_⟩
  exact ⟨W2, S2, d, d2, ok2, rv.mono le2.s, rv2, h2.nox⟩
theorem de_op {op : Operator} {a b : Expr} {fa fb : EF} {g : D → D → Store → Res} {pos : Pos} (ho : OpR X (binaryOp op) (rD Γ g)) (ha : PE X a (dE Γ ξ fa E)) (hb : PE X b (dE Γ ξ fb E)) : PE X (.BinOp a op b pos) (dE Γ ξ (eOp2 g fa fb) E) :=
  (pe_op ho ha hb).imp fun σ H Q h => tOp_of h
theorem de_cmp {op : CmpOp} {a b : Expr} {fa fb : EF} {g : D → D → Store → Res} {pos : Pos} (ho : OpR X (compareOp op) (rD Γ g)) (ha : PE X a (dE Γ ξ fa E)) (hb : PE X b (dE Γ ξ fb E)) (hm : behindInMarks op b = false := by rfl) : PE X (.Compare a [op] [b] pos) (dE Γ ξ (eOp2 g fa fb) E) :=
  (pe_cmpR ho ha hb hm).imp fun σ H Q h => tOp_of h
/-- what is laid of an operation on the values, without a change of the heap -/
def gI (f : Int → Int → D) (C : Int → Int → Bool) : D → D → Store → Res := fun x y S => match x, y with
  | .int i, .int j => if C i j then .ok (f i j) S else .bad
  | _, _ => .bad
theorem op_gI {F : Value → Value → Sem Value} {r : R2} (ho : OpR X F r) {f : Int → Int → D} {C : Int → Int → Bool} {fv : Int → Int → V} (hr : ∀ i j H (Q : VK), C i j = true → Q (fv i j) H → r (.int i) (.int j) H Q) (hv : ∀ W i j, Rep Γ W (f i j) (fv i j)) : OpR X F (rD Γ (gI f C)) := by
  intro pins s σ H x y v u Q I rx ry ⟨W, S, a, b, ok, ra, rb, h⟩
  unfold gI at h
  split at h
  · rename_i i j
    simp only [Rep] at ra rb
    subst ra rb
    split at h
    · rename_i hc
      exact ho pins s σ H _ _ v u Q I rx ry (hr i j H Q hc (h W _ H (Le.refl W) ok (hv W i j)))
    · exact h.elim
  · exact h.elim
end
end
end DL
set_option Elab.async false
set_option linter.all false
set_option maxRecDepth 100000
set_option maxHeartbeats 2000000
set_option autoImplicit false
/-! The data layer, 2: operators, tests, calls, displays. -/
namespace DL
open PySem L2

/-! ### a further way for what is bad -/
def gOr (g1 g2 : D → D → Store → Res) : D → D → Store → Res := fun x y S => match g1 x y S with
  | .bad => g2 x y S
  | r => r
section
variable {Γ : Pg} {ξ : Xx} {X : Cx} {E : WX}
theorem op_or {F : Value → Value → Sem Value} {g1 g2 : D → D → Store → Res} (h1 : OpR X F (rD Γ g1)) (h2 : OpR X F (rD Γ g2)) : OpR X F (rD Γ (gOr g1 g2)) := by
  intro pins s σ H x y v u Q I rx ry ⟨W, S, a, b, ok, ra, rb, h⟩
  unfold gOr at h
  cases e : g1 a b S with
  | bad =>
    rw [e] at h
    exact h2 pins s σ H x y v u Q I rx ry ⟨W, S, a, b, ok, ra, rb, h⟩
  | ok d S' =>
    rw [e] at h
    exact h1 pins s σ H x y v u Q I rx ry ⟨W, S, a, b, ok, ra, rb, by rw [e]; exact h⟩
  | exc k fs S' =>
    rw [e] at h
    exact h1 pins s σ H x y v u Q I rx ry ⟨W, S, a, b, ok, ra, rb, by rw [e]; exact h⟩

/-! ### ints -/
def yes2 : Int → Int → Bool := fun _ _ => true
def bits (i : Int) : Nat := i.natAbs.log2
def iAdd : D → D → Store → Res := gI (fun i j => .int (i + j)) yes2
def iSub : D → D → Store → Res := gI (fun i j => .int (i - j)) yes2
def iMul : D → D → Store → Res := gI (fun i j => .int (i * j)) fun i j => decide (bits i + bits j < 1000000)
def iDiv : D → D → Store → Res := gI (fun i j => .int (i / j)) fun _ j => decide (0 < j) && decide (bits j < 9000)
def iMod : D → D → Store → Res := gI (fun i j => .int (i % j)) fun _ j => decide (0 < j)
def iPow : D → D → Store → Res := gI (fun i j => .int (i ^ j.toNat)) fun i j => decide (0 ≤ j) && decide (j ≤ 1000000) && decide (i.natAbs < 2 ^ 64)
def iLt : D → D → Store → Res := gI (fun i j => .bl (decide (i < j))) yes2
def iLe : D → D → Store → Res := gI (fun i j => .bl (decide (i ≤ j))) yes2
def iGt : D → D → Store → Res := gI (fun i j => .bl (decide (j < i))) yes2
def iGe : D → D → Store → Res := gI (fun i j => .bl (decide (j ≤ i))) yes2
theorem op_iAdd : OpR X (binaryOp .Add) (rD Γ iAdd) := op_gI op_add (fun i j H Q _ q => ⟨i, j, rfl, rfl, q⟩) fun W i j => by simp only [Rep]
theorem op_iSub : OpR X (binaryOp .Sub) (rD Γ iSub) := op_gI op_sub (fun i j H Q _ q => ⟨i, j, rfl, rfl, q⟩) fun W i j => by simp only [Rep]
theorem op_iMul : OpR X (binaryOp .Mult) (rD Γ iMul) := op_gI op_mulW (fun i j H Q c q => ⟨i, j, rfl, rfl, (of_decide_eq_true c : bits i + bits j < 1000000), q⟩) fun W i j => by simp only [Rep]
theorem op_iDiv : OpR X (binaryOp .FloorDiv) (rD Γ iDiv) := op_gI op_fdivW (fun i j H Q c q => ⟨i, j, rfl, rfl, ⟨of_decide_eq_true (Bool.and_eq_true_iff.mp c).1, of_decide_eq_true (Bool.and_eq_true_iff.mp c).2⟩, q⟩) fun W i j => by simp only [Rep]
theorem op_iMod : OpR X (binaryOp .Mod) (rD Γ iMod) := op_gI op_mod (fun i j H Q c q => ⟨i, j, rfl, rfl, of_decide_eq_true c, q⟩) fun W i j => by simp only [Rep]
theorem op_iPow : OpR X (binaryOp .Pow) (rD Γ iPow) := op_gI op_pow (fun i j H Q c q => ⟨i, j, rfl, rfl, ⟨of_decide_eq_true (Bool.and_eq_true_iff.mp (Bool.and_eq_true_iff.mp c).1).1, of_decide_eq_true (Bool.and_eq_true_iff.mp (Bool.and_eq_true_iff.mp c).1).2, of_decide_eq_true (Bool.and_eq_true_iff.mp c).2⟩, q⟩) fun W i j => by simp only [Rep]
theorem op_iLt : OpR X (compareOp .Lt) (rD Γ iLt) := op_gI op_lt (fun i j H Q _ q => ⟨i, j, rfl, rfl, q⟩) fun W i j => by simp only [Rep]
theorem op_iLe : OpR X (compareOp .LtE) (rD Γ iLe) := op_gI op_le (fun i j H Q _ q => ⟨i, j, rfl, rfl, q⟩) fun W i j => by simp only [Rep]
theorem op_iGt : OpR X (compareOp .Gt) (rD Γ iGt) := op_gI op_gt (fun i j H Q _ q => ⟨i, j, rfl, rfl, q⟩) fun W i j => by simp only [Rep]
theorem op_iGe : OpR X (compareOp .GtE) (rD Γ iGe) := op_gI op_ge (fun i j H Q _ q => ⟨i, j, rfl, rfl, q⟩) fun W i j => by simp only [Rep]

/-! ### == and != of nested data without objects -/
mutual
def toP : D → Option PyData
  | .non => some .none
  | .bl b => some (.bool b)
  | .int i => some (.int i)
  | .str x => some (.str x)
  | .lst ds => (toPs ds).map .list
  | .tup ds => (toPs ds).map .tuple
  | .ty _ => none
  | .cls _ => none
  | .cell _ => none
  | .obj _ _ => none
  | .dct _ _ => none
def toPs : List D → Option (List PyData)
  | [] => some []
  | d :: ds => (toP d).bind fun p => (toPs ds).map fun ps => p :: ps
end
/-- a cell's list is looked up -/
def deref (S : Store) : D → D
  | .cell i => match S[i]? with
    | some ds => .lst ds
    | none => .cell i
  | d => d
def eqB (S : Store) (a b : D) : Option Bool := match toP (deref S a), toP (deref S b) with
  | some p, some q => if SeqAt.shaped p && SeqAt.shaped q then some (PyData.eqv p q) else none
  | _, _ => none
def gEq : D → D → Store → Res := fun x y S => match eqB S x y with
  | some b => .ok (.bl b) S
  | none => .bad
def gNe : D → D → Store → Res := fun x y S => match eqB S x y with
  | some b => .ok (.bl (!b)) S
  | none => .bad
theorem sqL_H {K : PySem.W.Frag} {F H : Hp} (e : ∀ a o, F a = some o → H a = some o) {a : Addr} {vs : List V} (h : SqL K F a vs) : SqL K H a vs := by
  rcases h with (h | ⟨o, h⟩) | h
  · exact .inl (.inl (e _ _ h))
  · exact .inl (.inr ⟨o, e _ _ h⟩)
  · exact .inr h
theorem sqT_H {K : PySem.W.Frag} {F H : Hp} (e : ∀ a o, F a = some o → H a = some o) {a : Addr} {vs : List V} (h : SqT K F a vs) : SqT K H a vs := by
  rcases h with (h | ⟨o, h⟩) | h
  · exact .inl (.inl (e _ _ h))
  · exact .inl (.inr ⟨o, e _ _ h⟩)
  · exact .inr h
mutual
theorem dp_of {W : Wd} {H : Hp} (e : ∀ a o, W.F a = some o → H a = some o) : ∀ {d : D} {v : V} {p : PyData}, Rep Γ W d v → toP d = some p → Dp Γ.K H v p
  | .non, v, p, h, t => by simp only [Rep] at h; simp only [toP, Option.some.injEq] at t; subst h t; exact .non
  | .bl b, v, p, h, t => by simp only [Rep] at h; simp only [toP, Option.some.injEq] at t; subst h t; exact .bl b
  | .int b, v, p, h, t => by simp only [Rep] at h; simp only [toP, Option.some.injEq] at t; subst h t; exact .int b
  | .str b, v, p, h, t => by simp only [Rep] at h; simp only [toP, Option.some.injEq] at t; subst h t; exact .str b
  | .lst ds, v, p, h, t => by
    simp only [Rep] at h
    obtain ⟨a, vs, rfl, h2, h3⟩ := h
    simp only [toP, Option.map_eq_some_iff] at t
    obtain ⟨ps, t1, rfl⟩ := t
    exact .lst (sqL_H e h2) (dps_of e h3 t1)
  | .tup ds, v, p, h, t => by
    simp only [Rep] at h
    obtain ⟨a, vs, rfl, h2, h3⟩ := h
    simp only [toP, Option.map_eq_some_iff] at t
    obtain ⟨ps, t1, rfl⟩ := t
    exact .tup (sqT_H e h2) (dps_of e h3 t1)
  | .ty _, v, p, h, t => by simp [toP] at t
  | .cls _, v, p, h, t => by simp [toP] at t
  | .cell _, v, p, h, t => by simp [toP] at t
  | .obj _ _, v, p, h, t => by simp [toP] at t
  | .dct _ _, v, p, h, t => by simp [toP] at t
theorem dps_of {W : Wd} {H : Hp} (e : ∀ a o, W.F a = some o → H a = some o) : ∀ {ds : List D} {vs : List V} {ps : List PyData}, Reps Γ W ds vs → toPs ds = some ps → DpAll Γ.K H vs ps
  | [], vs, ps, h, t => by simp only [Reps] at h; simp only [toPs, Option.some.injEq] at t; subst h t; exact .nil
  | d :: ds, vs, ps, h, t => by
    simp only [Reps] at h
    obtain ⟨v, vs', rfl, h2, h3⟩ := h
    simp only [toPs, Option.bind_eq_some_iff, Option.map_eq_some_iff] at t
    obtain ⟨p, t1, ps', t2, rfl⟩ := t
    exact .cons (dp_of e h2 t1) (dps_of e h3 t2)
end
theorem Ok.cell {W : Wd} {S : Store} {H : Hp} (ok : Ok Γ W S H) {i : Nat} {a : Addr} (h : W.m[i]? = some a) : ∃ ds vs, S[i]? = some ds ∧ H a = some (.lst vs) ∧ Reps Γ W ds vs := by
  have hl : i < W.m.length := (List.getElem?_eq_some_iff.mp h).1
  have hs : i < S.length := by rw [← ok.len]; exact hl
  obtain ⟨vs, h1, h2⟩ := ok.c i a S[i] h (List.getElem?_eq_getElem hs)
  exact ⟨S[i], vs, List.getElem?_eq_getElem hs, h1, h2⟩
theorem dp_deref {W : Wd} {S : Store} {H : Hp} (ok : Ok Γ W S H) {d : D} {v : V} {p : PyData} (h : Rep Γ W d v) (t : toP (deref S d) = some p) : Dp Γ.K H v p := by
  cases d with
  | cell i =>
    simp only [Rep] at h
    obtain ⟨a, rfl, h2⟩ := h
    obtain ⟨ds, vs, h3, h4, h5⟩ := ok.cell h2
    simp only [deref, h3, toP, Option.map_eq_some_iff] at t
    obtain ⟨ps, t1, rfl⟩ := t
    exact .lst (.inl (.inl h4)) (dps_of ok.f h5 t1)
  | _ => exact dp_of ok.f h t
theorem op_gEq (hK : X.K = Γ.K) (hu : X.A.units + 64 < cLine) : OpR X (compareOp .Eq) (rD Γ gEq) := by
  intro pins s σ H x y v u Q I rx ry ⟨W, S, a, b, ok, ra, rb, h⟩
  unfold gEq eqB at h
  split at h
  · rename_i r hr
    split at hr
    · rename_i p q hp hq
      split at hr
      · rename_i hs
        cases hr
        have hs := Bool.and_eq_true_iff.mp hs
        exact op_eqD hu pins s σ H x y v u Q I rx ry ⟨p, q, by rw [hK]; exact dp_deref ok ra hp, by rw [hK]; exact dp_deref ok rb hq, hs.1, hs.2, h W _ H (Le.refl W) ok (by simp only [Rep])⟩
      · cases hr
    · cases hr
  · exact h.elim
theorem op_gNe (hK : X.K = Γ.K) (hu : X.A.units + 64 < cLine) : OpR X (compareOp .NotEq) (rD Γ gNe) := by
  intro pins s σ H x y v u Q I rx ry ⟨W, S, a, b, ok, ra, rb, h⟩
  unfold gNe eqB at h
  split at h
  · rename_i r hr
    split at hr
    · rename_i p q hp hq
      split at hr
      · rename_i hs
        cases hr
        have hs := Bool.and_eq_true_iff.mp hs
        exact op_neD hu pins s σ H x y v u Q I rx ry ⟨p, q, by rw [hK]; exact dp_deref ok ra hp, by rw [hK]; exact dp_deref ok rb hq, hs.1, hs.2, h W _ H (Le.refl W) ok (by simp only [Rep])⟩
      · cases hr
    · cases hr
  · exact h.elim

/-! ### one operand -/
def eOp1 (g : D → Store → Res) (a : EF) : EF := fun es S => (a es S).bind fun x S1 => (g x S1).nox
def rU1 (Γ : Pg) (g : D → Store → Res) : V → Hp → VK → Prop := fun x H Q => ∃ W S a, Ok Γ W S H ∧ Rep Γ W a x ∧ Cont Γ (g a S) W Q (fun _ _ _ => False)
theorem de_un {op : UnaryOp} {a : Expr} {fa : EF} {g : D → Store → Res} {pos : Pos} (ho : UnR X (unaryOp op) (rU1 Γ g)) (ha : PE X a (dE Γ ξ fa E)) : PE X (.UnaryOp op a pos) (dE Γ ξ (eOp1 g fa) E) :=
  (pe_un ho ha).imp fun σ H Q ⟨W, es, S, P0, ok, fr, h⟩ => ⟨W, es, S, P0, ok, fr, h.bind fun d S1 W1 v H1 le ok1 rv h1 => ⟨W1, S1, d, ok1, rv, h1.nox⟩⟩
def iNeg : D → Store → Res := fun x S => match x with
  | .int i => .ok (.int (-i)) S
  | _ => .bad
theorem un_iNeg : UnR X (unaryOp .USub) (rU1 Γ iNeg) := by
  intro pins s σ H x v Q I rx ⟨W, S, a, ok, ra, h⟩
  unfold iNeg at h
  split at h
  · simp only [Rep] at ra
    subst ra
    exact un_neg pins s σ H _ v Q I rx ⟨_, rfl, h W _ H (Le.refl W) ok (by simp only [Rep])⟩
  · exact h.elim
def gOr1 (g1 g2 : D → Store → Res) : D → Store → Res := fun x S => match g1 x S with
  | .bad => g2 x S
  | r => r
theorem un_or {F : Value → Sem Value} {g1 g2 : D → Store → Res} (h1 : UnR X F (rU1 Γ g1)) (h2 : UnR X F (rU1 Γ g2)) : UnR X F (rU1 Γ (gOr1 g1 g2)) := by
  intro pins s σ H x v Q I rx ⟨W, S, a, ok, ra, h⟩
  unfold gOr1 at h
  cases e : g1 a S with
  | bad =>
    rw [e] at h
    exact h2 pins s σ H x v Q I rx ⟨W, S, a, ok, ra, h⟩
  | ok d S' =>
    rw [e] at h
    exact h1 pins s σ H x v Q I rx ⟨W, S, a, ok, ra, by rw [e]; exact h⟩
  | exc k fs S' =>
    rw [e] at h
    exact h1 pins s σ H x v Q I rx ⟨W, S, a, ok, ra, by rw [e]; exact h⟩

/-! ### tests -/
def ContB (Γ : Pg) (r : Res) (W : Wd) (Q : Bool → Hp → Prop) (E : XK) : Prop := match r with
  | .ok (.bl b) S => ∀ W' H', Le W W' → Ok Γ W' S H' → Q b H'
  | .exc k fs S => ∀ W' d H', Le W W' → Ok Γ W' S H' → RepX (Γ := Γ) W' fs d → E (.ref (Γ.cl k)) d H'
  | _ => False
theorem ContB.le {r : Res} {W W' : Wd} {Q : Bool → Hp → Prop} {E : XK} (h : ContB Γ r W Q E) (e : Le W W') : ContB Γ r W' Q E := by
  unfold ContB at h ⊢
  split at h
  · exact fun W2 H2 l => h W2 H2 (e.trans l)
  · exact fun W2 d H2 l => h W2 d H2 (e.trans l)
  · exact h
def dT (Γ : Pg) (ξ : Xx) (f : EF) (E : WX) : TT := fun σ H Q => ∃ W es S P0, Ok Γ W S H ∧ Frame Γ ξ W es σ P0 ∧ ContB Γ (f es S) W Q (at_ E σ)
/-- from a test's end to a value's -/
theorem ContB.val {r : Res} {W : Wd} {Q : Bool → Hp → Prop} {E : XK} (h : ContB Γ r W Q E) : Cont Γ r W (fun x H1 => ∃ c, x = .bl c ∧ Q c H1) E := by
  unfold ContB at h
  split at h
  · rename_i b S
    intro W' v H' l o r
    simp only [Rep] at r
    exact ⟨b, r, h W' H' l o⟩
  · exact h
  · exact h.elim
theorem dt_val {e : Expr} {f : EF} (h : PE X e (dE Γ ξ f E)) (he : ∀ whole, isTrue e X.env whole = (do let v ← whole; standAt e.pos; holding [v] (truthy v)) := by intro _; rfl) : PT X e (dT Γ ξ f E) :=
  (pt_val h he).imp fun σ H Q ⟨W, es, S, P0, ok, fr, h⟩ => ⟨W, es, S, P0, ok, fr, h.val⟩
theorem dt_cmp {op : CmpOp} {a b : Expr} {fa fb : EF} {g : D → D → Store → Res} {pos : Pos} (ho : OpR X (compareOp op) (rD Γ g)) (ha : PE X a (dE Γ ξ fa E)) (hb : PE X b (dE Γ ξ fb E)) (hm : behindInMarks op b = false := by rfl) : PT X (.Compare a [op] [b] pos) (dT Γ ξ (eOp2 g fa fb) E) :=
  (pt_cmpR ho ha hb hm).imp fun σ H Q ⟨W, es, S, P0, ok, fr, h⟩ => tOp_of ⟨W, es, S, P0, ok, fr, h.val⟩
def nB : D → Store → Res := fun d S => match d with
  | .bl b => .ok (.bl (!b)) S
  | _ => .bad
def eNot (f : EF) : EF := fun es S => (f es S).bind nB
theorem dt_not {a : Expr} {f : EF} {pos : Pos} (h : PT X a (dT Γ ξ f E)) : PT X (.UnaryOp .Not a pos) (dT Γ ξ (eNot f) E) := (pt_not h).imp fun σ H Q ⟨W, es, S, P0, ok, fr, h⟩ => ⟨W, es, S, P0, ok, fr, by
  unfold eNot at h
  cases e : f es S with
  | bad => rw [e] at h; exact h.elim
  | exc k fs S' => rw [e] at h; exact h
  | ok d S' =>
    rw [e] at h
    cases d with
    | bl b => exact h
    | _ => exact h.elim⟩
def eAnd (a b : EF) : EF := fun es S => (a es S).bind fun d S1 => match d with
  | .bl true => b es S1
  | .bl false => .ok (.bl false) S1
  | _ => .bad
def eOr (a b : EF) : EF := fun es S => (a es S).bind fun d S1 => match d with
  | .bl false => b es S1
  | .bl true => .ok (.bl true) S1
  | _ => .bad
theorem _root_.L2.PW.imp {X : Cx} {e : Expr} {t t' : TT} (h : PW X e t) (q : ∀ σ H Q, t' σ H Q → t σ H Q) : PW X e t' := ⟨fun wh pins s σ H Q I z => h.run wh pins s σ H Q I (q σ H Q z)⟩
theorem tAnd_of {fa fb : EF} {σ : L2.St} {H : Hp} {Q : Bool → Hp → Prop} (h : dT Γ ξ (eAnd fa fb) E σ H Q) : tAnd (dT Γ ξ fa E) (dT Γ ξ fb E) σ H Q := by
  obtain ⟨W, es, S, P0, ok, fr, h⟩ := h
  refine ⟨W, es, S, P0, ok, fr, ?_⟩
  unfold eAnd at h
  cases e : fa es S with
  | bad => rw [e] at h; exact h.elim
  | exc k fs S' => rw [e] at h; exact h
  | ok d S' =>
    rw [e] at h
    cases d with
    | bl b =>
      intro W1 H1 l o
      cases b with
      | true => exact ⟨W1, es, S', P0, o, fr.le l, h.le l⟩
      | false => exact h W1 H1 l o
    | _ => exact h.elim
theorem tOr_of {fa fb : EF} {σ : L2.St} {H : Hp} {Q : Bool → Hp → Prop} (h : dT Γ ξ (eOr fa fb) E σ H Q) : tOr (dT Γ ξ fa E) (dT Γ ξ fb E) σ H Q := by
  obtain ⟨W, es, S, P0, ok, fr, h⟩ := h
  refine ⟨W, es, S, P0, ok, fr, ?_⟩
  unfold eOr at h
  cases e : fa es S with
  | bad => rw [e] at h; exact h.elim
  | exc k fs S' => rw [e] at h; exact h
  | ok d S' =>
    rw [e] at h
    cases d with
    | bl b =>
      intro W1 H1 l o
      cases b with
      | false => exact ⟨W1, es, S', P0, o, fr.le l, h.le l⟩
      | true => exact h W1 H1 l o
    | _ => exact h.elim
section
variable {a b c : Expr} {rest : List Expr} {fa fb fc : EF} {pos : Pos}
theorem dw_and (ha : PT X a (dT Γ ξ fa E)) (hb : PW X (.BoolOp .And (b :: rest) pos) (dT Γ ξ fb E)) : PW X (.BoolOp .And (a :: b :: rest) pos) (dT Γ ξ (eAnd fa fb) E) := (pw_and ha hb).imp fun σ H Q h => tAnd_of h
theorem dw_or (ha : PT X a (dT Γ ξ fa E)) (hb : PW X (.BoolOp .Or (b :: rest) pos) (dT Γ ξ fb E)) : PW X (.BoolOp .Or (a :: b :: rest) pos) (dT Γ ξ (eOr fa fb) E) := (pw_or ha hb).imp fun σ H Q h => tOr_of h
theorem dw_and1 (ha : PT X a (dT Γ ξ fa E)) : PW X (.BoolOp .And [a] pos) (dT Γ ξ fa E) := pw_and1 ha
theorem dw_or1 (ha : PT X a (dT Γ ξ fa E)) : PW X (.BoolOp .Or [a] pos) (dT Γ ξ fa E) := pw_or1 ha
/-- truths as values -/
theorem Cont.bl {r : Res} {k : D → Store → Res} {W : Wd} {Q Q1 : VK} {E : XK} (h : Cont Γ (r.bind k) W Q E) (hk : ∀ d S, (∀ b, d ≠ .bl b) → k d S = .bad)
    (q : ∀ b S1 W1 H1, Le W W1 → Ok Γ W1 S1 H1 → Cont Γ (k (.bl b) S1) W1 Q E → Q1 (.bl b) H1) : Cont Γ r W Q1 E := h.bind fun d S1 W1 v H1 le ok1 rv h1 => by
  cases d with
  | bl b => simp only [Rep] at rv; subst rv; exact q b S1 W1 H1 le ok1 h1
  | _ => rw [hk _ _ (fun b => by simp)] at h1; exact h1.elim
theorem de_and (ha : PE X a (dE Γ ξ fa E)) (hb : PE X (.BoolOp .And (b :: rest) pos) (dE Γ ξ fb E)) : PE X (.BoolOp .And (a :: b :: rest) pos) (dE Γ ξ (eAnd fa fb) E) := (pe_and ha hb).imp fun σ H Q ⟨W, es, S, P0, ok, fr, h⟩ =>
  ⟨W, es, S, P0, ok, fr, Cont.bl h (fun d S hd => by cases d <;> first | rfl | exact absurd rfl (hd _)) fun b S1 W1 H1 le ok1 h1 => ⟨b, rfl, by
    cases b with
    | true => rw [if_pos rfl]; exact ⟨W1, es, S1, P0, ok1, fr.le le, h1⟩
    | false => rw [if_neg Bool.false_ne_true]; exact h1 W1 _ H1 (Le.refl W1) ok1 (by simp only [Rep])⟩⟩
theorem de_or (ha : PE X a (dE Γ ξ fa E)) (hb : PE X (.BoolOp .Or (b :: rest) pos) (dE Γ ξ fb E)) : PE X (.BoolOp .Or (a :: b :: rest) pos) (dE Γ ξ (eOr fa fb) E) := (pe_or ha hb).imp fun σ H Q ⟨W, es, S, P0, ok, fr, h⟩ =>
  ⟨W, es, S, P0, ok, fr, Cont.bl h (fun d S hd => by cases d <;> first | rfl | exact absurd rfl (hd _)) fun b S1 W1 H1 le ok1 h1 => ⟨b, rfl, by
    cases b with
    | false => rw [if_neg Bool.false_ne_true]; exact ⟨W1, es, S1, P0, ok1, fr.le le, h1⟩
    | true => rw [if_pos rfl]; exact h1 W1 _ H1 (Le.refl W1) ok1 (by simp only [Rep])⟩⟩
theorem de_not (ha : PE X a (dE Γ ξ fa E)) : PE X (.UnaryOp .Not a pos) (dE Γ ξ (eNot fa) E) := (pe_not ha).imp fun σ H Q ⟨W, es, S, P0, ok, fr, h⟩ =>
  ⟨W, es, S, P0, ok, fr, Cont.bl h (fun d S hd => by cases d <;> first | rfl | exact absurd rfl (hd _)) fun b S1 W1 H1 le ok1 h1 => ⟨b, rfl, h1 W1 _ H1 (Le.refl W1) ok1 (by simp only [Rep])⟩⟩
theorem de_one {op : BoolOp} (ha : PE X a (dE Γ ξ fa E)) : PE X (.BoolOp op [a] pos) (dE Γ ξ fa E) := pe_one ha
def eIf (c a b : EF) : EF := fun es S => (c es S).bind fun d S1 => match d with
  | .bl true => a es S1
  | .bl false => b es S1
  | _ => .bad
theorem de_if (hc : PT X c (dT Γ ξ fc E)) (ha : PE X a (dE Γ ξ fa E)) (hb : PE X b (dE Γ ξ fb E)) : PE X (.IfExp c a b pos) (dE Γ ξ (eIf fc fa fb) E) := (pe_ifExp hc ha hb).imp fun σ H Q ⟨W, es, S, P0, ok, fr, h⟩ => by
  refine ⟨W, es, S, P0, ok, fr, ?_⟩
  unfold eIf at h
  cases e : fc es S with
  | bad => rw [e] at h; exact h.elim
  | exc k fs S' => rw [e] at h; exact h
  | ok d S' =>
    rw [e] at h
    cases d with
    | bl b =>
      intro W1 H1 l o
      cases b with
      | true => rw [if_pos rfl]; exact ⟨W1, es, S', P0, o, fr.le l, Cont.le h l⟩
      | false => rw [if_neg Bool.false_ne_true]; exact ⟨W1, es, S', P0, o, fr.le l, Cont.le h l⟩
    | _ => exact h.elim
end

/-! ### arguments and calls -/
def ResA.bindL (r : ResA) (k : List D → Store → ResA) : ResA := match r with
  | .ok d S => k d S
  | .exc c fs S => .exc c fs S
  | .bad => .bad
def aNil : AF := fun _ S => .ok [] S
def aCons (f : EF) (g : AF) : AF := fun es S => (f es S).bindA fun d S1 => (g es S1).bindL fun ds S2 => .ok (d :: ds) S2
theorem da_nil : PA X [] (dA Γ ξ aNil E) := pa_nil.imp fun σ H Q ⟨W, es, S, P0, ok, fr, h⟩ => h W _ H (Le.refl W) ok Reps.nil
theorem da_cons {e : Expr} {es : List Expr} {f : EF} {g : AF} (he : PE X e (dE Γ ξ f E)) (hr : PA X es (dA Γ ξ g E)) (hs : starEach (e :: es) X.env = (false, eval e X.env) :: starEach es X.env := by rfl) : PA X (e :: es) (dA Γ ξ (aCons f g) E) :=
  (pa_cons he hr hs).imp fun σ H Q ⟨W, es, S, P0, ok, fr, h⟩ => ⟨W, es, S, P0, ok, fr, Cont.bindA h fun d S1 W1 v H1 le ok1 rv h1 => ⟨W1, es, S1, P0, ok1, fr.le le, by
    cases e : g es S1 with
    | bad => rw [e] at h1; exact h1.elim
    | exc k fs S' => rw [e] at h1; exact h1
    | ok ds S' =>
      rw [e] at h1
      intro W2 vs H2 l2 ok2 rs
      exact h1 W2 _ H2 l2 ok2 (Reps.cons (rv.mono l2.s) rs)⟩⟩
/-- a def's promise by its plain function -/
def spD (Γ : Pg) (n : Nat) (f : List D → Store → Res) : Sp := fun vs H Q E => ∃ W S ds, Ok Γ W S H ∧ Reps Γ W ds vs ∧ ds.length = n ∧ Cont Γ (f ds S) W Q E
theorem spD_len {n : Nat} {f : List D → Store → Res} {ps : List Str} (hn : ps.length = n) : ∀ vs H Q E, spD Γ n f vs H Q E → vs.length = ps.length := fun vs H Q E ⟨W, S, ds, ok, r, hl, _⟩ => by rw [r.length, hl, hn]
def chk (n : Nat) (f : List D → Store → Res) : List D → Store → Res := fun ds S => if ds.length = n then f ds S else .bad
def eCall (n : Nat) (den : List D → Store → Res) (a : AF) : EF := fun es S => (a es S).bind (chk n den)
theorem spD_of {n : Nat} {f : List D → Store → Res} {W : Wd} {S : Store} {ds : List D} {vs : List V} {H : Hp} {Q : VK} {E : XK} (ok : Ok Γ W S H) (r : Reps Γ W ds vs) (h : Cont Γ (chk n f ds S) W Q E) : spD Γ n f vs H Q E := by
  unfold chk at h
  split at h
  · rename_i hl
    exact ⟨W, S, ds, ok, r, hl, h⟩
  · exact h.elim
/-- what a caller wants of a def -/
structure Cal (Γ : Pg) (P : Program) (w : World) (mg : Str → Option Value) (base : Heap) (k : Nat) (x : Str) (n : Nat) (den : List D → Store → Res) : Prop where
  ex : ∃ (fa : Addr) (fd : FuncData) (ps : List Str), FnOk P w Γ.K mg base (L2.CX P w) k fa fd ps (spD Γ n den) ∧ mg x = some (.ref fa) ∧ PySem.W.keepIn Γ.K (.ref fa) = true ∧ Binds Γ.K fd ps []
theorem Cal.mono {P : Program} {w : World} {mg : Str → Option Value} {base : Heap} {j k : Nat} {x : Str} {n : Nat} {den : List D → Store → Res} (c : Cal Γ P w mg base j x n den) (h : j ≤ k) : Cal Γ P w mg base k x n den := by
  obtain ⟨fa, fd, ps, F, h1, h2, h3⟩ := c.ex
  exact ⟨fa, fd, ps, F.mono h, h1, h2, h3⟩
/-- the context of a body stands for the program -/
structure Here (Γ : Pg) (P : Program) (w : World) (mg : Str → Option Value) (base : Heap) (k : Nat) (X : Cx) (E : WX) : Prop where
  p : X.prog = P
  w : X.w = w
  K : X.K = Γ.K
  mg : X.mg = mg
  base : X.base = base
  room : Room k X.A
  tk : Takes X E
theorem pass_of (tk : Takes X E) (σ : L2.St) : PassesAt (L2.CX X.prog X.w) X σ (at_ E σ) := L2.passAt tk σ
section
variable {P : Program} {w : World} {mg : Str → Option Value} {base : Heap} {k j n : Nat} {x : Str} {den : List D → Store → Res} {p pos : Pos} {e : Expr} {es : List Expr} {fs : AF}
theorem de_call (hh : Here Γ P w mg base k X E) (c : Cal Γ P w mg base j x n den) (ha : PA X (e :: es) (dA Γ ξ fs E)) (hj : j ≤ k := by decide) (hg : Gl X x := by rfl) (hdb : (x == ("__debug__" : Str)) = false := by decide) (he : starEach (e :: es) X.env = (false, eval e X.env) :: starEach es X.env := by rfl)
    (hpl : (backTo pos (starEach es X.env)).any (·.1) = false := by rfl) : PE X (.Call (.Name x p) (e :: es) [] pos) (dE Γ ξ (eCall n den fs) E) := by
  obtain ⟨h1, h2, h3, h4, h5, h6, h7⟩ := hh
  subst h1 h2 h4 h5
  obtain ⟨fa, fd, ps, F, hm, hk, hb⟩ := c.ex
  refine (pe_callSD (E := fun σ => at_ E σ) (dvs := []) (ds := []) (by rw [h3]; exact F) (h6.mono hj) hg hm (by rw [h3]; exact hk) (by rw [h3]; exact hb) .nil (fun σ => pass_of h7 σ) ha hdb he hpl).imp fun σ H Q ⟨W, es, S, P0, ok, fr, h⟩ => ?_
  refine ⟨W, es, S, P0, ok, fr, ContA.bind h fun ds S1 W1 vs H1 le ok1 rs h1 => ?_⟩
  rw [List.append_nil]
  exact spD_of ok1 rs h1
end

/-! ### a def's body -/
inductive Fl where
  | next (es : List SD) (S : Store)
  | ret (d : D) (S : Store)
  | brk (es : List SD) (S : Store)
  | ct (es : List SD) (S : Store)
  | exc (k : Nat) (fs : List (Str × D)) (es : List SD) (S : Store)
  | bad
abbrev SF := List SD → Store → Fl
def Fl.bind (r : Fl) (k : SF) : Fl := match r with
  | .next es S => k es S
  | r => r
def ContS (Γ : Pg) (ξ : Xx) (r : Fl) (W : Wd) (P0 : Hp) (Dn : Ends) (E : WX) : Prop := match r with
  | .next es S => ∀ W' σ' H', LeS W W' → Ok Γ W' S H' → Frame Γ ξ W' es σ' P0 → Dn.nx σ' H'
  | .brk es S => ∀ W' σ' H', LeS W W' → Ok Γ W' S H' → Frame Γ ξ W' es σ' P0 → Dn.bk σ' H'
  | .ct es S => ∀ W' σ' H', LeS W W' → Ok Γ W' S H' → Frame Γ ξ W' es σ' P0 → Dn.ct σ' H'
  | .ret d S => ∀ W' v H', LeS W W' → W'.P = P0 → Ok Γ W' S H' → Rep Γ W' d v → Dn.rt v H'
  | .exc k fs es S => ∀ W' σ' d H', LeS W W' → Ok Γ W' S H' → Frame Γ ξ W' es σ' P0 → RepX (Γ := Γ) W' fs d → E (.ref (Γ.cl k)) d σ' H'
  | .bad => False
theorem ContS.le {r : Fl} {W W' : Wd} {P0 : Hp} {Dn : Ends} {E : WX} (h : ContS Γ ξ r W P0 Dn E) (e : LeS W W') : ContS Γ ξ r W' P0 Dn E := by
  cases r with
  | next es S => exact fun W2 a b l => h W2 a b (e.trans l)
  | brk es S => exact fun W2 a b l => h W2 a b (e.trans l)
  | ct es S => exact fun W2 a b l => h W2 a b (e.trans l)
  | ret d S => exact fun W2 a b l => h W2 a b (e.trans l)
  | exc k fs es S => exact fun W2 a b c l => h W2 a b c (e.trans l)
  | bad => exact h
def dS (Γ : Pg) (ξ : Xx) (f : SF) (E : WX) : TS := fun Dn σ H => ∃ W es S P0, Ok Γ W S H ∧ Frame Γ ξ W es σ P0 ∧ ContS Γ ξ (f es S) W P0 Dn E
/-- a def's function, of its body's; N: how many names -/
def startD (N : Nat) (ds : List D) : List SD := ds.map .val ++ List.replicate (N - ds.length) .no
def fnD (N : Nat) (body : SF) : List D → Store → Res := fun ds S => match body (startD N ds) S with
  | .next _ S' => .ok .non S'
  | .ret d S' => .ok d S'
  | .exc k fs _ S' => .exc k fs S'
  | _ => .bad
theorem slots_start {W : Wd} : ∀ {ds : List D} {vs : List V} (m : Nat), Reps Γ W ds vs → SlotsR Γ ξ W (ds.map .val ++ List.replicate m .no) (vs.map some ++ List.replicate m none) []
  | [], vs, m, h => by
    simp only [Reps] at h
    subst h
    simp only [List.map_nil, List.nil_append]
    induction m with
    | zero => exact ⟨rfl, rfl⟩
    | succ m ih => exact ⟨none, _, rfl, ih⟩
  | d :: ds, vs, m, h => by
    simp only [Reps] at h
    obtain ⟨v, vs', rfl, h1, h2⟩ := h
    exact ⟨v, _, rfl, h1, slots_start m h2⟩
/-- the frame's own lists are let go -/
theorem Ok.leave {W : Wd} {S : Store} {H : Hp} {own : List (Addr × HO)} {P0 : Hp} (ok : Ok Γ W S H) (o : OwnP W own P0) : Ok Γ { W with P := P0 } S H where
  f := ok.f
  p := fun a u e => by
    refine ok.p a u ?_
    rw [o.rest a ?_]
    · exact e
    · intro ha
      obtain ⟨p, hp, rfl⟩ := List.mem_map.mp ha
      exact absurd ((o.at_ p hp).1.symm.trans e) (by simp)
  m := fun i a h => by
    refine ⟨(ok.m i a h).1, ?_⟩
    show P0 a = none
    by_cases ha : a ∈ own.map (·.1)
    · obtain ⟨p, hp, rfl⟩ := List.mem_map.mp ha
      exact (o.at_ p hp).1
    · rw [← o.rest a ha]
      exact (ok.m i a h).2
  nd := ok.nd
  len := ok.len
  c := fun i a ds h1 h2 => by
    obtain ⟨vs, h3, h4⟩ := ok.c i a ds h1 h2
    exact ⟨vs, h3, Reps.mono (W := W) (W' := { W with P := P0 }) ⟨fun _ _ h => h, fun _ _ h => h⟩ h4⟩
theorem enter {N : Nat} {body : SF} {vs : List V} {H : Hp} {Q : VK} {E : XK} {names : List Str} {n : Nat} (hN : names.length = N) (h : spD Γ n (fnD N body) vs H Q E) :
    dS Γ ξ body (fun c d _ H => E c d H) { nx := fun _ H' => Q .non H', rt := Q } (L2.start names vs) H := by
  obtain ⟨W, S, ds, ok, r, hl, h⟩ := h
  refine ⟨W, startD N ds, S, W.P, ok, ⟨[], ?_, ⟨List.nodup_nil, fun p hp => absurd hp (by simp), fun a _ => rfl⟩⟩, ?_⟩
  · unfold startD L2.start
    rw [r.length, hN]
    exact slots_start _ r
  · unfold fnD at h
    have back : ∀ {W' : Wd} {H' : Hp} {S' : Store} {es' : List SD} {σ' : L2.St}, LeS W W' → Ok Γ W' S' H' → Frame Γ ξ W' es' σ' W.P → Le W { W' with P := W.P } ∧ Ok Γ { W' with P := W.P } S' H' := fun l o ⟨own, _, p⟩ =>
      ⟨⟨l.f, rfl, l.m⟩, o.leave p⟩
    cases e : body (startD N ds) S with
    | next es S' =>
      rw [e] at h
      intro W' σ' H' l o fr
      obtain ⟨l2, o2⟩ := back l o fr
      exact h _ _ H' l2 o2 (by simp only [Rep])
    | ret d S' =>
      rw [e] at h
      intro W' v H' l hp o r
      exact h W' v H' ⟨l.f, hp, l.m⟩ o r
    | exc k fs es S' =>
      rw [e] at h
      intro W' σ' d H' l o fr rx
      obtain ⟨l2, o2⟩ := back l o fr
      exact h _ d H' l2 o2 (repX_le rx ⟨fun _ _ h => h, fun _ _ h => h⟩)
    | brk es S' => rw [e] at h; exact h.elim
    | ct es S' => rw [e] at h; exact h.elim
    | bad => rw [e] at h; exact h.elim

/-! ### statements -/
theorem dss_nil : PSs X [] (dS Γ ξ (fun es S => .next es S) E) := pss_nil.imp fun Dn σ H ⟨W, es, S, P0, ok, fr, h⟩ => h W σ H (LeS.refl W) ok fr
def sSeq (f g : SF) : SF := fun es S => (f es S).bind g
theorem tSeq_of {f g : SF} {Dn : Ends} {σ : L2.St} {H : Hp} (h : dS Γ ξ (sSeq f g) E Dn σ H) : tSeq (dS Γ ξ f E) (dS Γ ξ g E) Dn σ H := by
  obtain ⟨W, es, S, P0, ok, fr, h⟩ := h
  refine ⟨W, es, S, P0, ok, fr, ?_⟩
  unfold sSeq at h
  cases e : f es S with
  | next es' S' =>
    rw [e] at h
    exact fun W' σ' H' l o fr' => ⟨W', es', S', P0, o, fr', ContS.le h l⟩
  | brk es' S' => rw [e] at h; exact h
  | ct es' S' => rw [e] at h; exact h
  | ret d S' => rw [e] at h; exact h
  | exc k fs es' S' => rw [e] at h; exact h
  | bad => rw [e] at h; exact h.elim
theorem dss_cons {st : Stmt} {rest : List Stmt} {f g : SF} (h1 : PS X st (dS Γ ξ f E)) (h2 : PSs X rest (dS Γ ξ g E)) : PSs X (st :: rest) (dS Γ ξ (sSeq f g) E) := (pss_cons h1 h2).imp fun Dn σ H h => tSeq_of h
theorem dss_one {st : Stmt} {f : SF} (h1 : PS X st (dS Γ ξ f E)) : PSs X [st] (dS Γ ξ f E) := pss_one h1
def sPass : SF := fun es S => .next es S
theorem ds_pass {pos : Pos} : PS X (.Pass pos) (dS Γ ξ sPass E) := ps_pass.imp fun Dn σ H ⟨W, es, S, P0, ok, fr, h⟩ => h W σ H (LeS.refl W) ok fr
def sBrk : SF := fun es S => .brk es S
theorem ds_break {pos : Pos} : PS X (.Break pos) (dS Γ ξ sBrk E) := ps_break.imp fun Dn σ H ⟨W, es, S, P0, ok, fr, h⟩ => h W σ H (LeS.refl W) ok fr
/-- an expression's result goes on as a statement's -/
def Res.toS (r : Res) (es : List SD) (k : D → Store → Fl) : Fl := match r with
  | .ok d S => k d S
  | .exc c fs S => .exc c fs es S
  | .bad => .bad
theorem ContS.toS {r : Res} {es : List SD} {σ : L2.St} {k : D → Store → Fl} {W : Wd} {P0 : Hp} {Dn : Ends} {Q : VK} (fr : Frame Γ ξ W es σ P0) (h : ContS Γ ξ (r.toS es k) W P0 Dn E)
    (q : ∀ d S1 W1 v H1, Le W W1 → Ok Γ W1 S1 H1 → Rep Γ W1 d v → ContS Γ ξ (k d S1) W1 P0 Dn E → Q v H1) : Cont Γ r W Q (at_ E σ) := by
  cases r with
  | ok d S => exact fun W1 v H1 l o r => q d S W1 v H1 l o r (ContS.le h l.s)
  | exc c fs S => exact fun W1 d H1 l o rx => h W1 σ d H1 l.s o (fr.le l) rx
  | bad => exact h.elim
def sExpr (f : EF) : SF := fun es S => (f es S).toS es fun _ S' => .next es S'
theorem ds_expr {e : Expr} {f : EF} {pos : Pos} (he : PE X e (dE Γ ξ f E)) (hs : swapsWith e none pos.line X.env = pure false := by rfl) : PS X (.Expr e pos) (dS Γ ξ (sExpr f) E) := (ps_expr he hs).imp fun Dn σ H ⟨W, es, S, P0, ok, fr, h⟩ =>
  ⟨W, es, S, P0, ok, fr, ContS.toS fr h fun d S1 W1 v H1 le ok1 rv h1 => h1 W1 σ H1 (LeS.refl W1) ok1 (fr.le le)⟩
def sIf (c : EF) (a b : SF) : SF := fun es S => (c es S).toS es fun d S1 => match d with
  | .bl true => a es S1
  | .bl false => b es S1
  | _ => .bad
theorem ds_if {c : Expr} {a b : List Stmt} {fc : EF} {fa fb : SF} {pos : Pos} (hc : PT X c (dT Γ ξ fc E)) (ha : PSs X a (dS Γ ξ fa E)) (hb : PSs X b (dS Γ ξ fb E)) : PS X (.If c a b pos) (dS Γ ξ (sIf fc fa fb) E) := (ps_if hc ha hb).imp fun Dn σ H ⟨W, es, S, P0, ok, fr, h⟩ => by
  refine ⟨W, es, S, P0, ok, fr, ?_⟩
  unfold sIf at h
  cases e : fc es S with
  | bad => rw [e] at h; exact h.elim
  | exc k fs S' => rw [e] at h; exact fun W1 d H1 l o rx => h W1 σ d H1 l.s o (fr.le l) rx
  | ok d S' =>
    rw [e] at h
    cases d with
    | bl b =>
      intro W1 H1 l o
      cases b with
      | true => rw [if_pos rfl]; exact ⟨W1, es, S', P0, o, fr.le l, ContS.le h l.s⟩
      | false => rw [if_neg Bool.false_ne_true]; exact ⟨W1, es, S', P0, o, fr.le l, ContS.le h l.s⟩
    | _ => exact h.elim
end
end DL
set_option Elab.async false
set_option linter.all false
set_option maxRecDepth 100000
set_option maxHeartbeats 2000000
set_option autoImplicit false
/-! The data layer, 3: displays, stores to names, loops. -/
namespace DL
open PySem L2

section
variable {Γ : Pg} {ξ : Xx} {X : Cx} {E : WX}
/-! ### a new object -/
theorem Ok.fresh {W : Wd} {S : Store} {H : Hp} (ok : Ok Γ W S H) {p : Addr} (hp : H p = none) : W.F p = none ∧ W.P p = none ∧ ∀ (i : Nat) (a : Addr), W.m[i]? = some a → a ≠ p := by
  refine ⟨?_, ?_, fun i a h z => ?_⟩
  · cases e : W.F p with
    | none => rfl
    | some o => rw [ok.f p o e] at hp; cases hp
  · cases e : W.P p with
    | none => rfl
    | some o => rw [(ok.p p o e).1] at hp; cases hp
  · obtain ⟨ds, vs, _, h4, _⟩ := ok.cell h
    rw [z, hp] at h4
    cases h4
abbrev Wd.lay (W : Wd) (p : Addr) (o : HO) : Wd := { W with F := upd W.F p o }
theorem Le.lay {W : Wd} {p : Addr} {o : HO} (hp : W.F p = none) : Le W (W.lay p o) := ⟨fun a u e => by
  show upd W.F p o a = some u
  rw [upd_ne (ne_of_none e hp)]
  exact e, rfl, fun _ _ h => h⟩
theorem Ok.lay {W : Wd} {S : Store} {H : Hp} (ok : Ok Γ W S H) {p : Addr} (hp : H p = none) (o : HO) : Ok Γ (W.lay p o) S (upd H p o) := by
  obtain ⟨hF, hP, hm⟩ := ok.fresh hp
  refine ⟨fun a u e => ?_, fun a u e => ?_, fun i a h => ?_, ok.nd, ok.len, fun i a ds h1 h2 => ?_⟩
  · by_cases z : a = p
    · subst z
      have e : upd W.F a o a = some u := e
      rw [upd_same] at e ⊢
      exact e
    · have e : upd W.F p o a = some u := e
      rw [upd_ne z] at e ⊢
      exact ok.f a u e
  · have n : a ≠ p := ne_of_none (show W.P a = some u from e) hP
    refine ⟨by rw [upd_ne n]; exact (ok.p a u e).1, ?_⟩
    show upd W.F p o a = none
    rw [upd_ne n]
    exact (ok.p a u e).2
  · have n := hm i a h
    refine ⟨?_, (ok.m i a h).2⟩
    show upd W.F p o a = none
    rw [upd_ne n]
    exact (ok.m i a h).1
  · obtain ⟨vs, h3, h4⟩ := ok.c i a ds h1 h2
    exact ⟨vs, by rw [upd_ne (hm i a h1)]; exact h3, h4.mono (Le.lay hF).s⟩
theorem rep_tup {W : Wd} {p : Addr} {vs : List V} {ds : List D} (h : Reps Γ (W.lay p (.tup vs)) ds vs) : Rep Γ (W.lay p (.tup vs)) (.tup ds) (.ref p) := by
  simp only [Rep]
  exact ⟨p, vs, rfl, .inl (.inl upd_same), h⟩
theorem rep_lst {W : Wd} {p : Addr} {vs : List V} {ds : List D} (h : Reps Γ (W.lay p (.lst vs)) ds vs) : Rep Γ (W.lay p (.lst vs)) (.lst ds) (.ref p) := by
  simp only [Rep]
  exact ⟨p, vs, rfl, .inl (.inl upd_same), h⟩

/-! ### displays -/
def eTup (a : AF) : EF := fun es S => (a es S).bind fun ds S1 => if ds.length ≤ 16777216 then .ok (.tup ds) S1 else .bad
def eLst (a : AF) : EF := fun es S => (a es S).bind fun ds S1 => if ds.length ≤ 16777216 then .ok (.lst ds) S1 else .bad
theorem de_tup {es : List Expr} {a : AF} {x1} {pos : Pos} (h : PA X es (dA Γ ξ a E)) : PE X (.Tuple es x1 pos) (dE Γ ξ (eTup a) E) := (pe_tup h).imp fun σ H Q ⟨W, es, S, P0, ok, fr, h⟩ =>
  ⟨W, es, S, P0, ok, fr, ContA.bind h fun ds S1 W1 vs H1 le ok1 rs h1 => by
    split at h1
    · rename_i hz
      refine ⟨by rw [rs.length, sizeLine_eq]; exact hz, fun p hp => ?_⟩
      have l := Le.lay (o := .tup vs) (ok1.fresh hp).1
      exact h1 _ _ _ l (ok1.lay hp _) (rep_tup (rs.mono l.s))
    · exact h1.elim⟩
theorem de_lst {es : List Expr} {a : AF} {pos : Pos} (h : PA X es (dA Γ ξ a E)) : PE X (.List es pos) (dE Γ ξ (eLst a) E) := (pe_lst h).imp fun σ H Q ⟨W, es, S, P0, ok, fr, h⟩ =>
  ⟨W, es, S, P0, ok, fr, ContA.bind h fun ds S1 W1 vs H1 le ok1 rs h1 => by
    split at h1
    · rename_i hz
      refine ⟨by rw [rs.length, sizeLine_eq]; exact hz, fun p hp => ?_⟩
      have l := Le.lay (o := .lst vs) (ok1.fresh hp).1
      exact h1 _ _ _ l (ok1.lay hp _) (rep_lst (rs.mono l.s))
    · exact h1.elim⟩
/-- a list that may be changed later -/
def eCell (a : AF) : EF := fun es S => (a es S).bind fun ds S1 => if ds.length ≤ 16777216 then .ok (.cell S1.length) (S1 ++ [ds]) else .bad
abbrev Wd.cell (W : Wd) (p : Addr) : Wd := { W with m := W.m ++ [p] }
theorem Le.cell {W : Wd} {p : Addr} : Le W (W.cell p) := ⟨fun _ _ e => e, rfl, fun i a h => by
  show (W.m ++ [p])[i]? = some a
  rw [List.getElem?_append_left (List.getElem?_eq_some_iff.mp h).1]
  exact h⟩
theorem Ok.cellNew {W : Wd} {S : Store} {H : Hp} (ok : Ok Γ W S H) {p : Addr} (hp : H p = none) {vs : List V} {ds : List D} (r : Reps Γ W ds vs) : Ok Γ (W.cell p) (S ++ [ds]) (upd H p (.lst vs)) := by
  obtain ⟨hF, hP, hm⟩ := ok.fresh hp
  have at1 : ∀ (i : Nat) (a : Addr), (W.m ++ [p])[i]? = some a → (W.m[i]? = some a) ∨ (i = W.m.length ∧ a = p) := fun i a h => by
    by_cases hi : i < W.m.length
    · rw [List.getElem?_append_left hi] at h
      exact .inl h
    · rw [List.getElem?_append_right (Nat.le_of_not_lt hi)] at h
      have e : i - W.m.length = 0 := by
        have := (List.getElem?_eq_some_iff.mp h).1
        simp at this
        omega
      rw [e] at h
      simp at h
      exact .inr ⟨by omega, h.symm⟩
  refine ⟨fun a u e => ?_, fun a u e => ?_, fun i a h => ?_, ?_, ?_, fun i a es h1 h2 => ?_⟩
  · rw [upd_ne (ne_of_none (show W.F a = some u from e) hF)]
    exact ok.f a u e
  · rw [upd_ne (ne_of_none (show W.P a = some u from e) hP)]
    exact ok.p a u e
  · rcases at1 i a h with h | ⟨_, rfl⟩
    · exact ok.m i a h
    · exact ⟨hF, hP⟩
  · show (W.m ++ [p]).Nodup
    refine List.nodup_append.mpr ⟨ok.nd, by simp, fun a ha b hb => ?_⟩
    have hb : b = p := by simpa using hb
    subst hb
    obtain ⟨i, hi⟩ := List.getElem?_of_mem ha
    exact hm i a hi
  · show (W.m ++ [p]).length = _
    simp [ok.len]
  · rcases at1 i a h1 with h | ⟨hi, rfl⟩
    · have hl : i < S.length := by rw [← ok.len]; exact (List.getElem?_eq_some_iff.mp h).1
      rw [List.getElem?_append_left hl] at h2
      obtain ⟨us, h3, h4⟩ := ok.c i a es h h2
      exact ⟨us, by rw [upd_ne (hm i a h)]; exact h3, h4.mono Le.cell.s⟩
    · rw [List.getElem?_append_right (by rw [← ok.len, hi]; exact Nat.le_refl _)] at h2
      have e0 : i - S.length = 0 := by rw [← ok.len, hi]; exact Nat.sub_self _
      rw [e0] at h2
      simp at h2
      subst h2
      exact ⟨vs, upd_same, r.mono Le.cell.s⟩
theorem de_cell {es : List Expr} {a : AF} {pos : Pos} (h : PA X es (dA Γ ξ a E)) : PE X (.List es pos) (dE Γ ξ (eCell a) E) := (pe_lst h).imp fun σ H Q ⟨W, es, S, P0, ok, fr, h⟩ =>
  ⟨W, es, S, P0, ok, fr, ContA.bind h fun ds S1 W1 vs H1 le ok1 rs h1 => by
    split at h1
    · rename_i hz
      refine ⟨by rw [rs.length, sizeLine_eq]; exact hz, fun p hp => ?_⟩
      refine h1 _ _ _ Le.cell (ok1.cellNew hp rs) ?_
      simp only [Rep]
      refine ⟨p, rfl, ?_⟩
      show (W1.m ++ [p])[S1.length]? = some p
      rw [← ok1.len, List.getElem?_append_right (Nat.le_refl _)]
      simp
    · exact h1.elim⟩

/-! ### slots are set -/
theorem SlotsR.set {W : Wd} {d : D} {v : V} (r : Rep Γ W d v) : ∀ {es : List SD} {σ : L2.St} {own : List (Addr × HO)} (i : Nat), SlotsR Γ ξ W es σ own → ∃ own', SlotsR Γ ξ W (es.set i (.val d)) (σ.set i (some v)) own' ∧ own'.Sublist own
  | [], σ, own, i, h => ⟨own, by obtain ⟨rfl, rfl⟩ := h; exact ⟨rfl, rfl⟩, List.Sublist.refl _⟩
  | .no :: es, σ, own, i, h => by
    obtain ⟨o, σ', rfl, h2⟩ := h
    cases i with
    | zero => exact ⟨own, ⟨v, σ', rfl, r, h2⟩, List.Sublist.refl _⟩
    | succ i =>
      obtain ⟨own', h3, h4⟩ := SlotsR.set r i h2
      exact ⟨own', ⟨o, _, rfl, h3⟩, h4⟩
  | .val d0 :: es, σ, own, i, h => by
    obtain ⟨v0, σ', rfl, h2, h3⟩ := h
    cases i with
    | zero => exact ⟨own, ⟨v, σ', rfl, r, h3⟩, List.Sublist.refl _⟩
    | succ i =>
      obtain ⟨own', h4, h5⟩ := SlotsR.set r i h3
      exact ⟨own', ⟨v0, _, rfl, h2, h4⟩, h5⟩
  | .acc ds :: es, σ, own, i, h => by
    obtain ⟨a, vs, σ', own0, rfl, rfl, h3, h4⟩ := h
    cases i with
    | zero => exact ⟨own0, ⟨v, σ', rfl, r, h4⟩, List.sublist_cons_self _ _⟩
    | succ i =>
      obtain ⟨own', h5, h6⟩ := SlotsR.set r i h4
      exact ⟨(a, .lst vs) :: own', ⟨a, vs, _, own', rfl, rfl, h3, h5⟩, h6.cons_cons _⟩
  | .exn k fs :: es, σ, own, i, h => by
    obtain ⟨σ', rfl, h2, h3, h4⟩ := h
    cases i with
    | zero => exact ⟨own, ⟨v, σ', rfl, r, h4⟩, List.Sublist.refl _⟩
    | succ i =>
      obtain ⟨own', h5, h6⟩ := SlotsR.set r i h4
      exact ⟨own', ⟨_, rfl, h2, h3, h5⟩, h6⟩
  | .slf :: es, σ, own, i, h => by
    obtain ⟨σ', rfl, h4⟩ := h
    cases i with
    | zero => exact ⟨own, ⟨v, σ', rfl, r, h4⟩, List.Sublist.refl _⟩
    | succ i =>
      obtain ⟨own', h5, h6⟩ := SlotsR.set r i h4
      exact ⟨own', ⟨_, rfl, h5⟩, h6⟩
/-- some of the frame's own lists are let go -/
noncomputable def Wd.shrink (W : Wd) (own : List (Addr × HO)) (P0 : Hp) : Wd := { W with P := fun a => open Classical in if a ∈ own.map (·.1) then W.P a else P0 a }
theorem Wd.shrink_le {W : Wd} {own : List (Addr × HO)} {P0 : Hp} : LeS W (W.shrink own P0) := ⟨fun _ _ h => h, fun _ _ h => h⟩
theorem Ok.shrink {W : Wd} {S : Store} {H : Hp} {own own' : List (Addr × HO)} {P0 : Hp} (ok : Ok Γ W S H) (o : OwnP W own P0) (sb : own'.Sublist own) : Ok Γ (W.shrink own' P0) S H ∧ OwnP (W.shrink own' P0) own' P0 := by
  have out : ∀ a, a ∈ own.map (·.1) → P0 a = none := fun a ha => by
    obtain ⟨p, hp, rfl⟩ := List.mem_map.mp ha
    exact (o.at_ p hp).1
  have get : ∀ a u, (W.shrink own' P0).P a = some u → W.P a = some u := fun a u e => by
    unfold Wd.shrink at e
    simp only at e
    split at e
    · exact e
    · rw [o.rest a ?_]
      · exact e
      · intro ha
        rw [out a ha] at e
        cases e
  refine ⟨⟨ok.f, fun a u e => ok.p a u (get a u e), fun i a h => ⟨(ok.m i a h).1, ?_⟩, ok.nd, ok.len, fun i a ds h1 h2 => ?_⟩, ⟨o.nd.sublist (sb.map _), fun p hp => ⟨(o.at_ p (sb.subset hp)).1, ?_⟩, fun a ha => ?_⟩⟩
  · cases e : (W.shrink own' P0).P a with
    | none => rfl
    | some u =>
      have := get a u e
      rw [(ok.m i a h).2] at this
      cases this
  · obtain ⟨vs, h3, h4⟩ := ok.c i a ds h1 h2
    exact ⟨vs, h3, h4.mono Wd.shrink_le⟩
  · unfold Wd.shrink
    simp only
    rw [if_pos (List.mem_map.mpr ⟨p, hp, rfl⟩)]
    exact (o.at_ p (sb.subset hp)).2
  · unfold Wd.shrink
    simp only
    rw [if_neg ha]
/-- same but for the frame's own -/
structure Eqv (W W' : Wd) : Prop where
  f : W'.F = W.F
  m : W'.m = W.m
theorem Eqv.le {W W' : Wd} (e : Eqv W W') : LeS W W' := ⟨fun a o h => by rw [e.f]; exact h, fun i a h => by rw [e.m]; exact h⟩
theorem Eqv.refl (W : Wd) : Eqv W W := ⟨rfl, rfl⟩
theorem Eqv.trans {W W1 W2 : Wd} (a : Eqv W W1) (b : Eqv W1 W2) : Eqv W W2 := ⟨b.f.trans a.f, b.m.trans a.m⟩
theorem Frame.set {W : Wd} {S : Store} {H : Hp} {es : List SD} {σ : L2.St} {P0 : Hp} {d : D} {v : V} (ok : Ok Γ W S H) (fr : Frame Γ ξ W es σ P0) (r : Rep Γ W d v) (i : Nat) :
    ∃ W', Eqv W W' ∧ Ok Γ W' S H ∧ Frame Γ ξ W' (es.set i (.val d)) (σ.set i (some v)) P0 := by
  obtain ⟨own, h1, h2⟩ := fr
  obtain ⟨own', h3, sb⟩ := h1.set r i
  obtain ⟨o1, o2⟩ := ok.shrink h2 sb
  exact ⟨W.shrink own' P0, ⟨rfl, rfl⟩, o1, own', h3.mono Wd.shrink_le, o2⟩

/-! ### targets -/
def noAcc (es : List SD) (ix : List Nat) : Bool := ix.all fun j => match es[j]? with
  | some (.acc _) => false
  | _ => true
theorem noAcc_at {es : List SD} {ix : List Nat} (h : noAcc es ix = true) {j : Nat} (hj : j ∈ ix) (ds : List D) : es[j]? ≠ some (.acc ds) := fun e => by
  have := List.all_eq_true.mp h j hj
  rw [e] at this
  cases this
theorem noAcc_of {es : List SD} {ix : List Nat} (h : ∀ j ∈ ix, ∀ ds, es[j]? ≠ some (.acc ds)) : noAcc es ix = true := List.all_eq_true.mpr fun j hj => by
  split
  · rename_i ds e
    exact absurd e (h j hj ds)
  · rfl
/-- what a target's store does: ix: the slots that it may set -/
structure Step (ix : List Nat) (W W' : Wd) (es es' : List SD) (σ σ' : L2.St) : Prop where
  eqv : Eqv W W'
  len : σ'.length = σ.length
  out : ∀ j, j ∉ ix → σ'[j]? = σ[j]?
  acc : ∀ (j : Nat) (ds : List D), es'[j]? = some (.acc ds) → es[j]? = some (.acc ds)
  same : noAcc es ix = true → W' = W
theorem Step.refl (W : Wd) (es : List SD) (σ : L2.St) : Step [] W W es es σ σ := ⟨Eqv.refl W, rfl, fun _ _ => rfl, fun _ _ h => h, fun _ => rfl⟩
theorem Step.trans {ix iy : List Nat} {W W1 W2 : Wd} {es es1 es2 : List SD} {σ σ1 σ2 : L2.St} (a : Step ix W W1 es es1 σ σ1) (b : Step iy W1 W2 es1 es2 σ1 σ2) : Step (ix ++ iy) W W2 es es2 σ σ2 where
  eqv := a.eqv.trans b.eqv
  len := b.len.trans a.len
  out := fun j hj => (b.out j fun h => hj (List.mem_append_right _ h)).trans (a.out j fun h => hj (List.mem_append_left _ h))
  acc := fun j ds h => a.acc j ds (b.acc j ds h)
  same := fun h => by
    have h1 : noAcc es ix = true := noAcc_of fun j hj => noAcc_at h (List.mem_append_left _ hj)
    have h2 : noAcc es1 iy = true := noAcc_of fun j hj ds e => noAcc_at h (List.mem_append_right _ hj) ds (a.acc j ds e)
    exact (b.same h2).trans (a.same h1)
theorem SlotsR.setVal {W : Wd} {d : D} {v : V} (r : Rep Γ W d v) : ∀ {es : List SD} {σ : L2.St} {own : List (Addr × HO)} (i : Nat), SlotsR Γ ξ W es σ own → (∀ ds, es[i]? ≠ some (.acc ds)) → SlotsR Γ ξ W (es.set i (.val d)) (σ.set i (some v)) own
  | [], σ, own, i, h, _ => by obtain ⟨rfl, rfl⟩ := h; exact ⟨rfl, rfl⟩
  | .no :: es, σ, own, i, h, hn => by
    obtain ⟨o, σ', rfl, h2⟩ := h
    cases i with
    | zero => exact ⟨v, σ', rfl, r, h2⟩
    | succ i => exact ⟨o, _, rfl, SlotsR.setVal r i h2 (by simpa using hn)⟩
  | .val d0 :: es, σ, own, i, h, hn => by
    obtain ⟨v0, σ', rfl, h2, h3⟩ := h
    cases i with
    | zero => exact ⟨v, σ', rfl, r, h3⟩
    | succ i => exact ⟨v0, _, rfl, h2, SlotsR.setVal r i h3 (by simpa using hn)⟩
  | .acc ds :: es, σ, own, i, h, hn => by
    obtain ⟨a, vs, σ', own0, rfl, rfl, h3, h4⟩ := h
    cases i with
    | zero => exact absurd rfl (hn ds)
    | succ i => exact ⟨a, vs, _, own0, rfl, rfl, h3, SlotsR.setVal r i h4 (by simpa using hn)⟩
  | .exn k fs :: es, σ, own, i, h, hn => by
    obtain ⟨σ', rfl, h2, h3, h4⟩ := h
    cases i with
    | zero => exact ⟨v, σ', rfl, r, h4⟩
    | succ i => exact ⟨_, rfl, h2, h3, SlotsR.setVal r i h4 (by simpa using hn)⟩
  | .slf :: es, σ, own, i, h, hn => by
    obtain ⟨σ', rfl, h4⟩ := h
    cases i with
    | zero => exact ⟨v, σ', rfl, r, h4⟩
    | succ i => exact ⟨_, rfl, SlotsR.setVal r i h4 (by simpa using hn)⟩
theorem get_set_acc {es : List SD} {i j : Nat} {d : D} {ds : List D} (h : (es.set i (.val d))[j]? = some (.acc ds)) : es[j]? = some (.acc ds) := by
  by_cases e : i = j
  · subst e
    rw [List.getElem?_set] at h
    simp at h
  · rwa [List.getElem?_set_ne e] at h
theorem Frame.step {W : Wd} {S : Store} {H : Hp} {es : List SD} {σ : L2.St} {P0 : Hp} {d : D} {v : V} (ok : Ok Γ W S H) (fr : Frame Γ ξ W es σ P0) (r : Rep Γ W d v) (i : Nat) :
    ∃ W', Step [i] W W' es (es.set i (.val d)) σ (σ.set i (some v)) ∧ Ok Γ W' S H ∧ Frame Γ ξ W' (es.set i (.val d)) (σ.set i (some v)) P0 := by
  have out : ∀ j, j ∉ [i] → (σ.set i (some v))[j]? = σ[j]? := fun j hj => List.getElem?_set_ne fun e => hj (by simp [e])
  by_cases hn : noAcc es [i] = true
  · obtain ⟨own, h1, h2⟩ := fr
    exact ⟨W, ⟨Eqv.refl W, by simp, out, fun j ds h => get_set_acc h, fun _ => rfl⟩, ok, own, h1.setVal r i (noAcc_at hn (by simp)), h2⟩
  · obtain ⟨W', e, o, f⟩ := Frame.set ok fr r i
    exact ⟨W', ⟨e, by simp, out, fun j ds h => get_set_acc h, fun h => absurd h hn⟩, o, f⟩
abbrev TF := D → List SD → Option (List SD)
abbrev TFs := List D → List SD → Option (List SD)
def dG (Γ : Pg) (ξ : Xx) (t : TF) (ix : List Nat) : TG := fun v σ H Q => ∃ W es S P0 d es', Ok Γ W S H ∧ Frame Γ ξ W es σ P0 ∧ Rep Γ W d v ∧ t d es = some es' ∧ ∀ W' σ', Step ix W W' es es' σ σ' → Ok Γ W' S H → Frame Γ ξ W' es' σ' P0 → Q σ' H
def dGs (Γ : Pg) (ξ : Xx) (t : TFs) (ix : List Nat) : TGs := fun vs σ H Q => ∃ W es S P0 ds es', Ok Γ W S H ∧ Frame Γ ξ W es σ P0 ∧ Reps Γ W ds vs ∧ t ds es = some es' ∧ ∀ W' σ', Step ix W W' es es' σ σ' → Ok Γ W' S H → Frame Γ ξ W' es' σ' P0 → Q σ' H
theorem _root_.L2.PG.imp {X : Cx} {e : Expr} {t t' : TG} (h : PG X e t) (q : ∀ v σ H Q, t' v σ H Q → t v σ H Q) : PG X e t' := ⟨fun pins s σ H v u Q I r z => h.run pins s σ H v u Q I r (q v σ H Q z)⟩
theorem _root_.L2.PGs.imp {X : Cx} {es : List Expr} {t t' : TGs} (h : PGs X es t) (q : ∀ v σ H Q, t' v σ H Q → t v σ H Q) : PGs X es t' := ⟨fun pins s σ H v u Q I r z => h.run pins s σ H v u Q I r (q v σ H Q z)⟩
def tgN (i : Nat) : TF := fun d es => some (es.set i (.val d))
theorem dg_name {i : Nat} {x : Str} {pos : Pos} (hN : X.N.Nodup) (hi : X.N[i]? = some x := by rfl) (hx : Loc X.env.scope x := by first | exact Or.inl rfl | exact Or.inr rfl) (hf : X.fn x = true ∨ X.env.scope.names.lookup x = some .local := by first | exact .inl rfl | exact .inr rfl | assumption) : PG X (.Name x pos) (dG Γ ξ (tgN i) [i]) :=
  (pg_name hN hi hx hf).imp fun v σ H Q ⟨W, es, S, P0, d, es', ok, fr, r, ht, q⟩ => by
    obtain rfl : es.set i (.val d) = es' := Option.some.inj ht
    obtain ⟨W', e, ok', fr'⟩ := Frame.step ok fr r i
    exact q W' _ e ok' fr'
def tsNil : TFs := fun ds es => match ds with
  | [] => some es
  | _ => none
def tsCons (t : TF) (u : TFs) : TFs := fun ds es => match ds with
  | d :: ds => (t d es).bind (u ds)
  | [] => none
theorem dgs_nil : PGs X [] (dGs Γ ξ tsNil []) := pgs_nil.imp fun vs σ H Q ⟨W, es, S, P0, ds, es', ok, fr, r, ht, q⟩ => by
  cases ds with
  | nil =>
    simp only [Reps] at r
    subst r
    obtain rfl : es = es' := Option.some.inj ht
    exact ⟨rfl, q W σ (Step.refl W es σ) ok fr⟩
  | cons d ds => cases ht
theorem dgs_cons {e : Expr} {es : List Expr} {t : TF} {u : TFs} {ix iy : List Nat} (h1 : PG X e (dG Γ ξ t ix)) (h2 : PGs X es (dGs Γ ξ u iy)) (hs : (assignEach (e :: es) X.env).map (·.2) = assign e X.env :: (assignEach es X.env).map (·.2) := by rfl) : PGs X (e :: es) (dGs Γ ξ (tsCons t u) (ix ++ iy)) :=
  (pgs_cons h1 h2 hs).imp fun vs σ H Q ⟨W, es, S, P0, ds, es', ok, fr, r, ht, q⟩ => by
    cases ds with
    | nil => cases ht
    | cons d ds =>
      simp only [Reps] at r
      obtain ⟨v, vs', rfl, r1, r2⟩ := r
      simp only [tsCons, Option.bind_eq_some_iff] at ht
      obtain ⟨es1, ht1, ht2⟩ := ht
      refine ⟨v, vs', rfl, W, es, S, P0, d, es1, ok, fr, r1, ht1, fun W1 σ1 e1 ok1 fr1 => ?_⟩
      exact ⟨W1, es1, S, P0, ds, es', ok1, fr1, r2.mono e1.eqv.le, ht2, fun W2 σ2 e2 => q W2 σ2 (e1.trans e2)⟩
def tgT (n : Nat) (t : TFs) : TF := fun d es => match d with
  | .tup ds => if ds.length = n then t ds es else none
  | _ => none
theorem dg_tup {es : List Expr} {k : Nat} {t : TFs} {ix : List Nat} {n : Nat} {pos : Pos} (hK : X.K = Γ.K) (hc : X.calm = true) (h : PGs X es (dGs Γ ξ t ix)) (hn : (assignEach es X.env).length = n := by rfl) (hst : (assignEach es X.env).findIdx? (·.1) = none := by rfl) : PG X (.Tuple es k pos) (dG Γ ξ (tgT n t) ix) :=
  (pg_tup hc h hn hst).imp fun v σ H Q ⟨W, es, S, P0, d, es', ok, fr, r, ht, q⟩ => by
    cases d with
    | tup ds =>
      simp only [tgT] at ht
      split at ht
      · rename_i hl
        simp only [Rep] at r
        obtain ⟨a, vs, rfl, r1, r2⟩ := r
        exact ⟨a, vs, rfl, by rw [hK]; exact sqT_H ok.f r1, by rw [r2.length, hl], W, es, S, P0, ds, es', ok, fr, r2, ht, q⟩
      · cases ht
    | _ => cases ht

/-! ### assignments -/
def sAsg (t : TF) (f : EF) : SF := fun es S => (f es S).toS es fun d S1 => match t d es with
  | some es' => .next es' S1
  | none => .bad
theorem tAsg_of {t : TF} {ix : List Nat} {f : EF} {Dn : Ends} {σ : L2.St} {H : Hp} (h : dS Γ ξ (sAsg t f) E Dn σ H) : tAsg (dE Γ ξ f E) (dG Γ ξ t ix) Dn σ H := by
  obtain ⟨W, es, S, P0, ok, fr, h⟩ := h
  refine ⟨W, es, S, P0, ok, fr, ContS.toS fr h fun d S1 W1 v H1 le ok1 rv h1 => ?_⟩
  split at h1
  · rename_i es' ht
    exact ⟨W1, es, S1, P0, d, es', ok1, fr.le le, rv, ht, fun W2 σ2 e2 ok2 fr2 => h1 W2 σ2 H1 e2.eqv.le ok2 fr2⟩
  · exact h1.elim
theorem ds_asg {tg e : Expr} {f : EF} {t : TF} {ix : List Nat} {pos : Pos} (he : PE X e (dE Γ ξ f E)) (hg : PG X tg (dG Γ ξ t ix)) (hs : swapsWithSole [tg] e pos.line X.env = pure false := by rfl) (hw : swappedStores [tg] e X.env = pure none := by rfl)
    (h1 : (assignEach [tg] X.env).map (·.2) = [assign tg X.env] := by rfl) : PS X (.Assign [tg] e pos) (dS Γ ξ (sAsg t f) E) := (ps_asg he hg hs hw h1).imp fun Dn σ H h => tAsg_of h
theorem ds_set {i : Nat} {x : Str} {e : Expr} {f : EF} {pos pos' : Pos} (hN : X.N.Nodup) (he : PE X e (dE Γ ξ f E)) (hi : X.N[i]? = some x := by rfl) (hx : Loc X.env.scope x := by first | exact Or.inl rfl | exact Or.inr rfl) (hs : swapsWith e (some (.Name x pos')) pos.line X.env = pure false := by rfl)
    (hf : X.fn x = true ∨ X.env.scope.names.lookup x = some .local := by first | exact .inl rfl | exact .inr rfl | assumption) : PS X (.Assign [.Name x pos'] e pos) (dS Γ ξ (sAsg (tgN i) f) E) :=
  (ps_set hN hi hx he hs hf).imp fun Dn σ H ⟨W, es, S, P0, ok, fr, h⟩ => ⟨W, es, S, P0, ok, fr, ContS.toS fr h fun d S1 W1 v H1 le ok1 rv h1 => by
    obtain ⟨W', e, ok', fr'⟩ := Frame.set ok1 (fr.le le) rv i
    exact h1 W' _ H1 e.le ok' fr'⟩
def sPar (i j : Nat) (a : AF) : SF := fun es S => match a es S with
  | .ok [d1, d2] S1 => .next ((es.set i (.val d1)).set j (.val d2)) S1
  | .exc k fs S1 => .exc k fs es S1
  | _ => .bad
theorem ds_par {i j : Nat} {x y : Str} {a b : Expr} {f : AF} {px py pt pos : Pos} {kt k2 pt2} (hc : X.calm = true) (hN : X.N.Nodup) (ha : PA X [a, b] (dA Γ ξ f E)) (hi : X.N[i]? = some x := by rfl) (hj : X.N[j]? = some y := by rfl) (hij : i ≠ j := by decide)
    (hx : X.env.scope.names.lookup x = some .local := by rfl) (hy : X.env.scope.names.lookup y = some .local := by rfl)
    (hw : swappedStores [.Tuple [.Name x px, .Name y py] kt pt] (.Tuple [a, b] k2 pt2) X.env = pure (some [x, y]) := by rfl)
    (hs : swapsWithSole [.Tuple [.Name x px, .Name y py] kt pt] (.Tuple [a, b] k2 pt2) pos.line X.env = pure false := by rfl) : PS X (.Assign [.Tuple [.Name x px, .Name y py] kt pt] (.Tuple [a, b] k2 pt2) pos) (dS Γ ξ (sPar i j f) E) :=
  (ps_par hc hN hi hj hij hx hy ha hw hs).imp fun Dn σ H ⟨W, es, S, P0, ok, fr, h⟩ => by
    refine ⟨W, es, S, P0, ok, fr, ?_⟩
    unfold sPar at h
    split at h
    · rename_i d1 d2 S1 e
      rw [e]
      intro W1 vs H1 le ok1 rs
      simp only [Reps] at rs
      obtain ⟨v1, _, rfl, r1, v2, _, rfl, r2, rfl⟩ := rs
      obtain ⟨W2, e2, ok2, fr2⟩ := Frame.set ok1 (fr.le le) r1 i
      obtain ⟨W3, e3, ok3, fr3⟩ := Frame.set ok2 fr2 (r2.mono e2.le) j
      exact ⟨v1, v2, rfl, h W3 _ H1 (le.s.trans (e2.le.trans e3.le)) ok3 fr3⟩
    · rename_i k fs S1 e
      rw [e]
      exact fun W1 d H1 l o rx => h W1 σ d H1 l.s o (fr.le l) rx
    · exact h.elim

/-! ### return: the frame's own lists become data -/
def frz1 : SD → SD
  | .acc ds => .val (.lst ds)
  | d => d
noncomputable def Wd.keep (W : Wd) (own : List (Addr × HO)) (P0 : Hp) : Wd := { W with F := fun a => open Classical in if a ∈ own.map (·.1) then W.P a else W.F a, P := P0 }
theorem keep_le {W : Wd} {S : Store} {H : Hp} {own : List (Addr × HO)} {P0 : Hp} (ok : Ok Γ W S H) (o : OwnP W own P0) : LeS W (W.keep own P0) := by
  refine ⟨fun a u h => ?_, fun _ _ h => h⟩
  unfold Wd.keep
  simp only
  rw [if_neg]
  · exact h
  · intro ha
    obtain ⟨p, hp, rfl⟩ := List.mem_map.mp ha
    exact absurd ((ok.p _ _ (o.at_ p hp).2).2.symm.trans h) (by simp)
theorem slots_frz {W W' : Wd} (l : LeS W W') : ∀ {es : List SD} {σ : L2.St} {own : List (Addr × HO)}, SlotsR Γ ξ W es σ own → (∀ p ∈ own, W'.F p.1 = some p.2) → SlotsR Γ ξ W' (es.map frz1) σ []
  | [], σ, own, h, _ => ⟨h.1, rfl⟩
  | .no :: es, σ, own, h, hp => by
    obtain ⟨o, σ', rfl, h2⟩ := h
    exact ⟨o, σ', rfl, slots_frz l h2 hp⟩
  | .val d :: es, σ, own, h, hp => by
    obtain ⟨v, σ', rfl, h2, h3⟩ := h
    exact ⟨v, σ', rfl, h2.mono l, slots_frz l h3 hp⟩
  | .acc ds :: es, σ, own, h, hp => by
    obtain ⟨a, vs, σ', own', rfl, rfl, h3, h4⟩ := h
    refine ⟨.ref a, σ', rfl, ?_, slots_frz l h4 fun p h => hp p (List.mem_cons_of_mem _ h)⟩
    simp only [Rep]
    exact ⟨a, vs, rfl, .inl (.inl (hp _ List.mem_cons_self)), h3.mono l⟩
  | .exn k fs :: es, σ, own, h, hp => by
    obtain ⟨σ', rfl, h2, h3, h4⟩ := h
    exact ⟨σ', rfl, h2, repX_le h3 l, slots_frz l h4 hp⟩
  | .slf :: es, σ, own, h, hp => by
    obtain ⟨σ', rfl, h4⟩ := h
    exact ⟨σ', rfl, slots_frz l h4 hp⟩
theorem Frame.frz {W : Wd} {S : Store} {H : Hp} {es : List SD} {σ : L2.St} {P0 : Hp} (ok : Ok Γ W S H) (fr : Frame Γ ξ W es σ P0) : ∃ W', LeS W W' ∧ W'.P = P0 ∧ Ok Γ W' S H ∧ Frame Γ ξ W' (es.map frz1) σ P0 := by
  obtain ⟨own, h1, o⟩ := fr
  have l := keep_le ok o
  have hP : ∀ a u, P0 a = some u → W.P a = some u ∧ a ∉ own.map (·.1) := fun a u e => by
    have na : a ∉ own.map (·.1) := fun ha => by
      obtain ⟨p, hp, rfl⟩ := List.mem_map.mp ha
      rw [(o.at_ p hp).1] at e
      cases e
    exact ⟨by rw [o.rest a na]; exact e, na⟩
  refine ⟨W.keep own P0, l, rfl, ⟨fun a u e => ?_, fun a u e => ?_, fun i a h => ?_, ok.nd, ok.len, fun i a ds h3 h4 => ?_⟩, [], slots_frz l h1 fun p hp => ?_, ⟨List.nodup_nil, fun p hp => absurd hp (by simp), fun a _ => rfl⟩⟩
  · unfold Wd.keep at e
    simp only at e
    split at e
    · exact (ok.p a u e).1
    · exact ok.f a u e
  · obtain ⟨e1, na⟩ := hP a u e
    refine ⟨(ok.p a u e1).1, ?_⟩
    unfold Wd.keep
    simp only
    rw [if_neg na]
    exact (ok.p a u e1).2
  · have hm := ok.m i a h
    have na : a ∉ own.map (·.1) := fun ha => by
      obtain ⟨p, hp, rfl⟩ := List.mem_map.mp ha
      rw [(o.at_ p hp).2] at hm
      cases hm.2
    refine ⟨?_, ?_⟩
    · unfold Wd.keep
      simp only
      rw [if_neg na]
      exact hm.1
    · show P0 a = none
      rw [← o.rest a na]
      exact hm.2
  · obtain ⟨vs, h5, h6⟩ := ok.c i a ds h3 h4
    exact ⟨vs, h5, h6.mono l⟩
  · unfold Wd.keep
    simp only
    rw [if_pos (List.mem_map.mpr ⟨p, hp, rfl⟩)]
    exact (o.at_ p hp).2
def sRet (f : EF) : SF := fun es S => match f (es.map frz1) S with
  | .ok d S1 => .ret d S1
  | .exc k fs S1 => .exc k fs (es.map frz1) S1
  | .bad => .bad
theorem ds_ret {e : Expr} {f : EF} {pos : Pos} (he : PE X e (dE Γ ξ f E)) : PS X (.Return (some e) pos) (dS Γ ξ (sRet f) E) := (ps_ret he).imp fun Dn σ H ⟨W, es, S, P0, ok, fr, h⟩ => by
  obtain ⟨W', l, hp, ok', fr'⟩ := fr.frz ok
  refine ⟨W', es.map frz1, S, P0, ok', fr', ?_⟩
  unfold sRet at h
  cases e : f (es.map frz1) S with
  | ok d S1 =>
    rw [e] at h
    exact fun W2 v H2 l2 ok2 r => h W2 v H2 (l.trans l2.s) (l2.p.trans hp) ok2 r
  | exc k fs S1 =>
    rw [e] at h
    exact fun W2 d H2 l2 ok2 rx => h W2 σ d H2 (l.trans l2.s) ok2 (fr'.le l2) rx
  | bad => rw [e] at h; exact h.elim
def sRetN : SF := fun es S => .ret .non S
theorem ds_retN {pos : Pos} : PS X (.Return none pos) (dS Γ ξ sRetN E) := ps_retN.imp fun Dn σ H ⟨W, es, S, P0, ok, fr, h⟩ => by
  obtain ⟨W', l, hp, ok', fr'⟩ := fr.frz ok
  exact h W' _ H l hp ok' (by simp only [Rep])

/-! ### while -/
def whileN (c : EF) (b : SF) : Nat → List SD → Store → Option Fl
  | 0, _, _ => none
  | n + 1, es, S => match c es S with
    | .ok (.bl true) S1 => match b es S1 with
      | .next es2 S2 => whileN c b n es2 S2
      | .ct es2 S2 => whileN c b n es2 S2
      | .brk es2 S2 => some (.next es2 S2)
      | r => some r
    | .ok (.bl false) S1 => some (.next es S1)
    | .exc k fs S1 => some (.exc k fs es S1)
    | _ => some .bad
theorem whileN_succ {c : EF} {b : SF} : ∀ {n : Nat} {es : List SD} {S : Store} {r : Fl}, whileN c b n es S = some r → whileN c b (n + 1) es S = some r
  | 0, es, S, r, h => by simp [whileN] at h
  | n + 1, es, S, r, h => by
    rw [whileN] at h ⊢
    cases hc : c es S with
    | bad => rw [hc] at h; exact h
    | exc k fs S1 => rw [hc] at h; exact h
    | ok d S1 =>
      rw [hc] at h
      cases d with
      | bl t =>
        cases t with
        | false => exact h
        | true =>
          simp only at h ⊢
          cases hb : b es S1 with
          | next es2 S2 => rw [hb] at h; exact whileN_succ h
          | ct es2 S2 => rw [hb] at h; exact whileN_succ h
          | brk es2 S2 => rw [hb] at h; exact h
          | ret d2 S2 => rw [hb] at h; exact h
          | exc k fs es2 S2 => rw [hb] at h; exact h
          | bad => rw [hb] at h; exact h
      | _ => exact h
theorem whileN_le {c : EF} {b : SF} {n m : Nat} {es : List SD} {S : Store} {r : Fl} (h : whileN c b n es S = some r) (hm : n ≤ m) : whileN c b m es S = some r := by
  induction hm with
  | refl => exact h
  | step _ ih => exact whileN_succ ih
open Classical in
noncomputable def sWhile (c : EF) (b : SF) : SF := fun es S => if h : ∃ n r, whileN c b n es S = some r then h.choose_spec.choose else .bad
theorem sWhile_eq {c : EF} {b : SF} {n : Nat} {es : List SD} {S : Store} {r : Fl} (h : whileN c b n es S = some r) : sWhile c b es S = r := by
  have hx : ∃ n r, whileN c b n es S = some r := ⟨n, r, h⟩
  unfold sWhile
  rw [dif_pos hx]
  have h2 := hx.choose_spec.choose_spec
  have h3 := whileN_le h (Nat.le_max_left n hx.choose)
  have h4 := whileN_le h2 (Nat.le_max_right n hx.choose)
  rw [h3] at h4
  exact (Option.some.inj h4).symm
theorem ds_while {c : Expr} {body : List Stmt} {fc : EF} {fb : SF} {pos : Pos} (hp : PassesOwn (model X.prog X.w) X.A X.env X.xe) (hc : PT X c (dT Γ ξ fc E)) (hb : PSs X body (dS Γ ξ fb E)) : PS X (.While c body [] pos) (dS Γ ξ (sWhile fc fb) E) :=
  (ps_while hp hc hb).imp fun Dn σ H ⟨W, es, S, P0, ok, fr, h⟩ => by
    by_cases hx : ∃ n r, whileN fc fb n es S = some r
    · obtain ⟨n, r, hr⟩ := hx
      rw [sWhile_eq hr] at h
      refine ⟨fun m σ H => ∃ W es S r, Ok Γ W S H ∧ Frame Γ ξ W es σ P0 ∧ whileN fc fb m es S = some r ∧ ContS Γ ξ r W P0 Dn E, ⟨n, W, es, S, r, ok, fr, hr, h⟩, ?_⟩
      rintro m σ H ⟨W, es, S, r, ok, fr, hr, h⟩
      refine ⟨W, es, S, P0, ok, fr, ?_⟩
      cases m with
      | zero => simp [whileN] at hr
      | succ m =>
        rw [whileN] at hr
        cases e : fc es S with
        | bad =>
          rw [e] at hr
          obtain rfl := Option.some.inj hr
          exact h.elim
        | exc k fs S1 =>
          rw [e] at hr
          obtain rfl := Option.some.inj hr
          exact fun W1 d H1 l o rx => h W1 σ d H1 l.s o (fr.le l) rx
        | ok d S1 =>
          rw [e] at hr
          cases d with
          | bl t =>
            intro W1 H1 l ok1
            cases t with
            | false =>
              obtain rfl := Option.some.inj hr
              rw [if_neg Bool.false_ne_true]
              exact h W1 σ H1 l.s ok1 (fr.le l)
            | true =>
              rw [if_pos rfl]
              refine ⟨fun σ' H' => ∃ W es S r, Ok Γ W S H' ∧ Frame Γ ξ W es σ' P0 ∧ whileN fc fb m es S = some r ∧ ContS Γ ξ r W P0 Dn E, fun σ' H' q => ⟨m, Nat.lt_succ_self m, q⟩, W1, es, S1, P0, ok1, fr.le l, ?_⟩
              simp only at hr
              cases eb : fb es S1 with
              | next es2 S2 =>
                rw [eb] at hr
                exact fun W2 σ2 H2 l2 ok2 fr2 => ⟨W2, es2, S2, r, ok2, fr2, hr, ContS.le h (l.s.trans l2)⟩
              | ct es2 S2 =>
                rw [eb] at hr
                exact fun W2 σ2 H2 l2 ok2 fr2 => ⟨W2, es2, S2, r, ok2, fr2, hr, ContS.le h (l.s.trans l2)⟩
              | brk es2 S2 =>
                rw [eb] at hr
                obtain rfl := Option.some.inj hr
                exact fun W2 σ2 H2 l2 ok2 fr2 => h W2 σ2 H2 (l.s.trans l2) ok2 fr2
              | ret d2 S2 =>
                rw [eb] at hr
                obtain rfl := Option.some.inj hr
                exact fun W2 v2 H2 l2 => h W2 v2 H2 (l.s.trans l2)
              | exc k fs es2 S2 =>
                rw [eb] at hr
                obtain rfl := Option.some.inj hr
                exact fun W2 σ2 d2 H2 l2 => h W2 σ2 d2 H2 (l.s.trans l2)
              | bad =>
                rw [eb] at hr
                obtain rfl := Option.some.inj hr
                exact h.elim
          | _ =>
            obtain rfl := Option.some.inj hr
            exact h.elim
    · unfold sWhile at h
      rw [dif_neg hx] at h
      exact h.elim

/-! ### what is walked -/
/-- the iterator J yields the data ds, one after the other, whatever else happens -/
def Yld (Γ : Pg) (W : Wd) (J : It) (ds : List D) : Prop := ∀ W' S H, LeS W W' → Ok Γ W' S H → J.stop ds.length H ∧ ∀ i d, ds[i]? = some d → J.go i H ∧ ∀ x H', J.yld i H x H' → ∃ W'', Le W' W'' ∧ Ok Γ W'' S H' ∧ Rep Γ W'' d x
theorem Yld.le {W W' : Wd} {J : It} {ds : List D} (y : Yld Γ W J ds) (l : LeS W W') : Yld Γ W' J ds := fun W2 S H l2 => y W2 S H (l.trans l2)
def ContI (Γ : Pg) (r : ResA) (W : Wd) (R : It → Hp → Prop) (E : XK) : Prop := match r with
  | .ok ds S => ∀ W' J H', Le W W' → Ok Γ W' S H' → Yld Γ W' J ds → R J H'
  | .exc k fs S => ∀ W' d H', Le W W' → Ok Γ W' S H' → RepX (Γ := Γ) W' fs d → E (.ref (Γ.cl k)) d H'
  | .bad => False
def dI (Γ : Pg) (ξ : Xx) (f : AF) (E : WX) : TI := fun σ H R => ∃ W es S P0, Ok Γ W S H ∧ Frame Γ ξ W es σ P0 ∧ ContI Γ (f es S) W R (at_ E σ)
theorem _root_.L2.PI.imp {X : Cx} {tg e : Expr} {t t' : TI} (h : PI X tg e t) (q : ∀ σ H R, t' σ H R → t σ H R) : PI X tg e t' := ⟨fun pins s σ H R I z => h.run pins s σ H R I (q σ H R z)⟩
def forL (t : TF) (b : SF) : List D → SF
  | [], es, S => .next es S
  | d :: ds, es, S => match t d es with
    | none => .bad
    | some es1 => match b es1 S with
      | .next es2 S2 => forL t b ds es2 S2
      | .ct es2 S2 => forL t b ds es2 S2
      | .brk es2 S2 => .next es2 S2
      | r => r
def sFor (it : AF) (t : TF) (b : SF) : SF := fun es S => match it es S with
  | .ok ds S1 => forL t b ds es S1
  | .exc k fs S1 => .exc k fs es S1
  | .bad => .bad
theorem ds_for {tg iter : Expr} {body : List Stmt} {fi : AF} {t : TF} {ix : List Nat} {fb : SF} {pos : Pos} (hp : PassesOwn (model X.prog X.w) X.A X.env X.xe) (hc : X.calm = true) (hi : PI X tg iter (dI Γ ξ fi E)) (hg : PG X tg (dG Γ ξ t ix)) (hb : PSs X body (dS Γ ξ fb E))
    (hs : ∀ x, foldedSetIterable iter X.env x = pure x := by intro _; rfl) : PS X (.For tg iter body [] pos) (dS Γ ξ (sFor fi t fb) E) := (ps_for hp hc hi hg hb hs).imp fun Dn σ H ⟨W, es, S, P0, ok, fr, h⟩ => by
  refine ⟨W, es, S, P0, ok, fr, ?_⟩
  unfold sFor at h
  cases e : fi es S with
  | bad => rw [e] at h; exact h.elim
  | exc k fs S1 =>
    rw [e] at h
    exact fun W1 d H1 l o rx => h W1 σ d H1 l.s o (fr.le l) rx
  | ok ds S1 =>
    rw [e] at h
    intro W1 J H1 l1 ok1 y
    refine ⟨fun i m σ H => m = ds.length - i ∧ i ≤ ds.length ∧ ∃ W es S, LeS W1 W ∧ Ok Γ W S H ∧ Frame Γ ξ W es σ P0 ∧ ContS Γ ξ (forL t fb (ds.drop i) es S) W P0 Dn E,
      ⟨ds.length, by simp, Nat.zero_le _, W1, es, S1, LeS.refl _, ok1, fr.le l1, by rw [List.drop_zero]; exact ContS.le h l1.s⟩, ?_⟩
    rintro i m σ H ⟨rfl, hi, W2, es2, S2, l2, ok2, fr2, h2⟩
    obtain ⟨y1, y2⟩ := y W2 S2 H l2 ok2
    by_cases hlt : i < ds.length
    · right
      obtain ⟨g1, g2⟩ := y2 i ds[i] (List.getElem?_eq_getElem hlt)
      refine ⟨g1, fun σ' H' => i + 1 ≤ ds.length ∧ ∃ W es S, LeS W1 W ∧ Ok Γ W S H' ∧ Frame Γ ξ W es σ' P0 ∧ ContS Γ ξ (forL t fb (ds.drop (i + 1)) es S) W P0 Dn E, fun σ' H' q => ⟨ds.length - (i + 1), by omega, rfl, q⟩, fun x H' yl => ?_⟩
      obtain ⟨W3, l3, ok3, r3⟩ := g2 x H' yl
      rw [List.drop_eq_getElem_cons hlt, forL] at h2
      cases ht : t ds[i] es2 with
      | none => rw [ht] at h2; exact h2.elim
      | some es3 =>
        rw [ht] at h2
        simp only at h2
        refine ⟨W3, es2, S2, P0, ds[i], es3, ok3, fr2.le l3, r3, ht, fun W4 σ4 e4 ok4 fr4 => ?_⟩
        refine ⟨W4, es3, S2, P0, ok4, fr4, ?_⟩
        have l4 : LeS W2 W4 := l3.s.trans e4.eqv.le
        cases eb : fb es3 S2 with
        | next es5 S5 =>
          rw [eb] at h2
          exact fun W5 σ5 H5 l5 ok5 fr5 => ⟨hlt, W5, es5, S5, l2.trans (l4.trans l5), ok5, fr5, ContS.le h2 (l4.trans l5)⟩
        | ct es5 S5 =>
          rw [eb] at h2
          exact fun W5 σ5 H5 l5 ok5 fr5 => ⟨hlt, W5, es5, S5, l2.trans (l4.trans l5), ok5, fr5, ContS.le h2 (l4.trans l5)⟩
        | brk es5 S5 =>
          rw [eb] at h2
          exact fun W5 σ5 H5 l5 => h2 W5 σ5 H5 (l4.trans l5)
        | ret d5 S5 =>
          rw [eb] at h2
          exact fun W5 σ5 H5 l5 => h2 W5 σ5 H5 (l4.trans l5)
        | exc k fs es5 S5 =>
          rw [eb] at h2
          exact fun W5 σ5 d5 H5 l5 => h2 W5 σ5 d5 H5 (l4.trans l5)
        | bad => rw [eb] at h2; exact h2.elim
    · left
      have e2 : i = ds.length := by omega
      subst e2
      rw [List.drop_length, forL] at h2
      exact ⟨y1, h2 W2 σ H (LeS.refl _) ok2 fr2⟩
/-- range -/
theorem yld_range {W : Wd} {lo : Int} {n : Nat} : Yld Γ W (Itr lo n) ((List.range n).map fun (i : Nat) => D.int (lo + i)) := fun W' S H l ok => by
  refine ⟨by simp [Itr], fun i d hd => ?_⟩
  rw [List.getElem?_map] at hd
  by_cases hi : i < n
  · rw [List.getElem?_range hi] at hd
    obtain rfl := Option.some.inj hd
    exact ⟨hi, fun x H' ⟨e1, e2⟩ => ⟨W', Le.refl _, by rw [e1]; exact ok, by simp only [Rep]; exact e2⟩⟩
  · rw [List.getElem?_eq_none (by simp; omega)] at hd
    cases hd
theorem yld_list {W : Wd} {a : Addr} {vs : List V} {ds : List D} (h : SqL Γ.K W.F a vs) (r : Reps Γ W ds vs) : Yld Γ W (Itl Γ.K a) ds := fun W' S H l ok => by
  have q : SqL Γ.K H a vs := sqL_H ok.f (sqL_le l h)
  refine ⟨⟨vs, q, by rw [r.length]; exact Nat.le_refl _⟩, fun i d hd => ?_⟩
  obtain ⟨v, hv, rv⟩ := r.get hd
  exact ⟨⟨vs, v, q, hv⟩, fun x H' ⟨e1, e2⟩ => ⟨W', Le.refl _, by rw [e1]; exact ok, by
    have := e2 vs q
    rw [hv] at this
    obtain rfl := Option.some.inj this
    exact rv.mono l⟩⟩
theorem yld_tup {W : Wd} {a : Addr} {vs : List V} {ds : List D} (h : SqT Γ.K W.F a vs) (r : Reps Γ W ds vs) : Yld Γ W (Itt Γ.K a) ds := fun W' S H l ok => by
  have q : SqT Γ.K H a vs := sqT_H ok.f (sqT_le l h)
  refine ⟨⟨vs, q, by rw [r.length]; exact Nat.le_refl _⟩, fun i d hd => ?_⟩
  obtain ⟨v, hv, rv⟩ := r.get hd
  exact ⟨⟨vs, v, q, hv⟩, fun x H' ⟨e1, e2⟩ => ⟨W', Le.refl _, by rw [e1]; exact ok, by
    have := e2 vs q
    rw [hv] at this
    obtain rfl := Option.some.inj this
    exact rv.mono l⟩⟩
def itRange1 (a : AF) : AF := fun es S => (a es S).bindL fun ds S1 => match ds with
  | [.int n] => if -(2 ^ 62) ≤ n ∧ n < 2 ^ 62 then .ok ((List.range n.toNat).map fun (i : Nat) => D.int i) S1 else .bad
  | _ => .bad
def itRange2 (a : AF) : AF := fun es S => (a es S).bindL fun ds S1 => match ds with
  | [.int m, .int n] => if (-(2 ^ 62) ≤ m ∧ m < 2 ^ 62) ∧ -(2 ^ 62) ≤ n ∧ n < 2 ^ 62 then .ok ((List.range (n - m).toNat).map fun (i : Nat) => D.int (m + i)) S1 else .bad
  | _ => .bad
theorem ContI.bindL {r : ResA} {k : List D → Store → ResA} {W : Wd} {R : It → Hp → Prop} {Q : List V → Hp → Prop} {E : XK} (h : ContI Γ (r.bindL k) W R E)
    (q : ∀ ds S1 W1 vs H1, Le W W1 → Ok Γ W1 S1 H1 → Reps Γ W1 ds vs → ContI Γ (k ds S1) W1 R E → Q vs H1) : ContA Γ r W Q E := by
  cases r with
  | ok ds S =>
    intro W1 vs H1 l o rs
    refine q ds S W1 vs H1 l o rs ?_
    have h : ContI Γ (k ds S) W R E := h
    unfold ContI at h ⊢
    split at h
    · exact fun W2 J H2 l2 => h W2 J H2 (l.trans l2)
    · exact fun W2 J H2 l2 => h W2 J H2 (l.trans l2)
    · exact h
  | exc c fs S => exact h
  | bad => exact h
theorem di_range1 {tg a : Expr} {fa : AF} {p pos : Pos} (ha : PA X [a] (dA Γ ξ fa E)) (hm : X.mg "range" = none) (hg : Gl X "range" := by rfl) (hs : starEach [a] X.env = [(false, eval a X.env)] := by rfl) : PI X tg (.Call (.Name "range" p) [a] [] pos) (dI Γ ξ (itRange1 fa) E) :=
  (pi_range1 hg hm ha hs).imp fun σ H R ⟨W, es, S, P0, ok, fr, h⟩ => ⟨W, es, S, P0, ok, fr, ContI.bindL h fun ds S1 W1 vs H1 l ok1 rs h1 => by
    split at h1
    · rename_i n
      simp only [Reps, Rep] at rs
      obtain ⟨_, _, rfl, rfl, rfl⟩ := rs
      split at h1
      · rename_i hn
        refine ⟨n, rfl, hn.1, hn.2, h1 W1 _ H1 (Le.refl _) ok1 ?_⟩
        have y := yld_range (Γ := Γ) (W := W1) (lo := 0) (n := n.toNat)
        simp only [Int.zero_add] at y
        exact y
      · exact h1.elim
    · exact h1.elim⟩
theorem di_range2 {tg a b : Expr} {fa : AF} {p pos : Pos} (ha : PA X [a, b] (dA Γ ξ fa E)) (hm : X.mg "range" = none) (hg : Gl X "range" := by rfl) (hs : starEach [a, b] X.env = [(false, eval a X.env), (false, eval b X.env)] := by rfl) (hs2 : starEach [b] X.env = [(false, eval b X.env)] := by rfl) :
    PI X tg (.Call (.Name "range" p) [a, b] [] pos) (dI Γ ξ (itRange2 fa) E) :=
  (pi_range2 hg hm ha hs hs2).imp fun σ H R ⟨W, es, S, P0, ok, fr, h⟩ => ⟨W, es, S, P0, ok, fr, ContI.bindL h fun ds S1 W1 vs H1 l ok1 rs h1 => by
    split at h1
    · rename_i m n
      simp only [Reps, Rep] at rs
      obtain ⟨_, _, rfl, rfl, _, _, rfl, rfl, rfl⟩ := rs
      split at h1
      · rename_i hn
        exact ⟨m, n, rfl, ⟨hn.1.1, hn.1.2, hn.2.1, hn.2.2⟩, h1 W1 _ H1 (Le.refl _) ok1 yld_range⟩
      · exact h1.elim
    · exact h1.elim⟩
end
end DL
set_option Elab.async false
set_option linter.all false
set_option maxRecDepth 100000
set_option maxHeartbeats 2000000
set_option autoImplicit false
/-! The data layer, 4: comprehensions, items, built-ins. -/
namespace DL
open PySem L2

section
variable {Γ : Pg} {ξ : Xx} {X : Cx} {E : WX}
/-! ### list comprehensions -/
theorem _root_.L2.PTs.imp {X : Cx} {ifs : List Expr} {t t' : TT} (h : PTs X ifs t) (q : ∀ σ H Q, t' σ H Q → t σ H Q) : PTs X ifs t' := ⟨fun pins s σ H Q I z => h.run pins s σ H Q I (q σ H Q z)⟩
def eYes : EF := fun _ S => .ok (.bl true) S
theorem dts_nil : PTs X [] (dT Γ ξ eYes E) := pts_nil.imp fun σ H Q ⟨W, es, S, P0, ok, fr, h⟩ => h W H (Le.refl W) ok
theorem dts_one {c : Expr} {f : EF} (h : PT X c (dT Γ ξ f E)) : PTs X [c] (dT Γ ξ f E) := pts_one h
def wipeD (es : List SD) : List Nat → List SD
  | [] => es
  | v :: vs => (wipeD es vs).set v .no
def lcL (t : TF) (c e : EF) (es : List SD) : List D → Store → List D → Res
  | [], S, acc => .ok (.lst acc) S
  | d :: ds, S, acc => match t d es with
    | none => .bad
    | some es1 => (c es1 S).nox.bind fun b S1 => match b with
      | .bl true => (e es1 S1).nox.bind fun y S2 => lcL t c e es ds S2 (acc ++ [y])
      | .bl false => lcL t c e es ds S1 acc
      | _ => .bad
def eLc (vs : List Nat) (it : AF) (t : TF) (c e : EF) : EF := fun es S => match it es S with
  | .ok ds S1 => if ds.length < 1000000 ∧ noAcc es vs = true then lcL t c e (wipeD es vs) ds S1 [] else .bad
  | .exc k fs S1 => .exc k fs S1
  | .bad => .bad
theorem SlotsR.setNo {W : Wd} : ∀ {es : List SD} {σ : L2.St} {own : List (Addr × HO)} (i : Nat), SlotsR Γ ξ W es σ own → (∀ ds, es[i]? ≠ some (.acc ds)) → SlotsR Γ ξ W (es.set i .no) (σ.set i none) own
  | [], σ, own, i, h, _ => by obtain ⟨rfl, rfl⟩ := h; exact ⟨rfl, rfl⟩
  | .no :: es, σ, own, i, h, hn => by
    obtain ⟨o, σ', rfl, h2⟩ := h
    cases i with
    | zero => exact ⟨none, σ', rfl, h2⟩
    | succ i => exact ⟨o, _, rfl, SlotsR.setNo i h2 (by simpa using hn)⟩
  | .val d0 :: es, σ, own, i, h, hn => by
    obtain ⟨v0, σ', rfl, h2, h3⟩ := h
    cases i with
    | zero => exact ⟨none, σ', rfl, h3⟩
    | succ i => exact ⟨v0, _, rfl, h2, SlotsR.setNo i h3 (by simpa using hn)⟩
  | .acc ds :: es, σ, own, i, h, hn => by
    obtain ⟨a, vs, σ', own0, rfl, rfl, h3, h4⟩ := h
    cases i with
    | zero => exact absurd rfl (hn ds)
    | succ i => exact ⟨a, vs, _, own0, rfl, rfl, h3, SlotsR.setNo i h4 (by simpa using hn)⟩
  | .exn k fs :: es, σ, own, i, h, hn => by
    obtain ⟨σ', rfl, h2, h3, h4⟩ := h
    cases i with
    | zero => exact ⟨none, σ', rfl, h4⟩
    | succ i => exact ⟨_, rfl, h2, h3, SlotsR.setNo i h4 (by simpa using hn)⟩
  | .slf :: es, σ, own, i, h, hn => by
    obtain ⟨σ', rfl, h4⟩ := h
    cases i with
    | zero => exact ⟨none, σ', rfl, h4⟩
    | succ i => exact ⟨_, rfl, SlotsR.setNo i h4 (by simpa using hn)⟩
theorem wipeD_acc {es : List SD} : ∀ {vs : List Nat} {j : Nat} {ds : List D}, (wipeD es vs)[j]? = some (.acc ds) → es[j]? = some (.acc ds)
  | [], j, ds, h => h
  | v :: vs, j, ds, h => by
    unfold wipeD at h
    by_cases e : v = j
    · subst e
      rw [List.getElem?_set] at h
      simp at h
    · rw [List.getElem?_set_ne e] at h
      exact wipeD_acc h
theorem SlotsR.wipe {W : Wd} {es : List SD} {σ : L2.St} {own : List (Addr × HO)} (h : SlotsR Γ ξ W es σ own) : ∀ {vs : List Nat}, (∀ j ∈ vs, ∀ ds, es[j]? ≠ some (.acc ds)) → SlotsR Γ ξ W (wipeD es vs) (L2.wipe σ vs) own
  | [], _ => h
  | v :: vs, hn => by
    unfold wipeD L2.wipe
    exact SlotsR.setNo v (SlotsR.wipe h fun j hj => hn j (List.mem_cons_of_mem _ hj)) fun ds e => hn v List.mem_cons_self ds (wipeD_acc e)
theorem wipe_get {σ : L2.St} {j : Nat} : ∀ {vs : List Nat}, (L2.wipe σ vs)[j]? = if j ∈ vs then (if j < σ.length then some none else none) else σ[j]?
  | [] => by simp [L2.wipe]
  | v :: vs => by
    unfold L2.wipe
    rw [List.getElem?_set, wipe_length]
    by_cases e : v = j
    · subst e
      simp
    · rw [if_neg e, wipe_get]
      have e' : ¬ j = v := fun z => e z.symm
      simp [e']
theorem wipe_eq {σ σ' : L2.St} {vs : List Nat} (hl : σ'.length = σ.length) (h : ∀ j, j ∉ vs → σ'[j]? = σ[j]?) : L2.wipe σ' vs = L2.wipe σ vs := by
  apply List.ext_getElem?
  intro j
  rw [wipe_get, wipe_get, hl]
  by_cases e : j ∈ vs
  · rw [if_pos e, if_pos e]
  · rw [if_neg e, if_neg e, h j e]
theorem wipe_wipe {σ : L2.St} {vs : List Nat} : L2.wipe (L2.wipe σ vs) vs = L2.wipe σ vs := by
  apply List.ext_getElem?
  intro j
  rw [wipe_get]
  by_cases e : j ∈ vs
  · rw [if_pos e, wipe_length, wipe_get, if_pos e]
  · rw [if_neg e]
theorem repsP (W : Wd) {P : Hp} {ds : List D} {vs : List V} (h : Reps Γ W ds vs) : Reps Γ { W with P := P } ds vs := Reps.mono (W := W) (W' := { W with P := P }) ⟨fun _ _ h => h, fun _ _ h => h⟩ h
abbrev E0 : WX := fun _ _ _ _ => False
theorem tLc_of {vs : List Nat} {fi : AF} {t : TF} {ix : List Nat} {fc fe : EF} {σ : L2.St} {H : Hp} {Q : VK} (hix : ∀ j ∈ ix, j ∈ vs) (h : dE Γ ξ (eLc vs fi t fc fe) E σ H Q) : tLc (dI Γ ξ fi E) (dG Γ ξ t ix) (dT Γ ξ fc E0) (dE Γ ξ fe E0) vs σ H Q := by
  obtain ⟨W, es, S, P0, ok, fr, h⟩ := h
  refine ⟨W, es, S, P0, ok, fr, ?_⟩
  unfold eLc at h
  cases e : fi es S with
  | bad => rw [e] at h; exact h.elim
  | exc k fs S1 => rw [e] at h; exact h
  | ok ds S1 =>
    rw [e] at h
    simp only at h
    split at h
    case isFalse => exact h.elim
    rename_i hg
    obtain ⟨hsz, hna⟩ := hg
    have hn : ∀ j ∈ vs, ∀ ds, es[j]? ≠ some (.acc ds) := fun j hj => noAcc_at hna hj
    intro W1 J H1 l1 ok1 y A hA
    obtain ⟨hAF, hAP, hAm⟩ := ok1.fresh hA
    have h := Cont.le h l1
    refine ⟨fun i m H => m = ds.length - i ∧ i ≤ ds.length ∧ ∃ W' S' acc vs', LeS W1 W' ∧ W'.P = upd W1.P A (.lst vs') ∧ Ok Γ W' S' H ∧ Reps Γ W' acc vs' ∧ acc.length ≤ i ∧ Cont Γ (lcL t fc fe (wipeD es vs) (ds.drop i) S' acc) { W' with P := W1.P } Q (at_ E σ), ?_, ?_⟩
    · refine ⟨ds.length, by simp, Nat.zero_le _, { W1 with P := upd W1.P A (.lst []) }, S1, [], [], ⟨fun _ _ h => h, fun _ _ h => h⟩, rfl, ?_, Reps.nil, Nat.le_refl _, by rw [List.drop_zero]; exact h⟩
      refine ⟨fun a u q => ?_, fun a u q => ?_, fun i a q => ⟨(ok1.m i a q).1, ?_⟩, ok1.nd, ok1.len, fun i a es q1 q2 => ?_⟩
      · rw [upd_ne (ne_of_none (show W1.F a = some u from q) hAF)]
        exact ok1.f a u q
      · by_cases z : a = A
        · subst z
          have q : upd W1.P a (.lst []) a = some u := q
          rw [upd_same] at q ⊢
          exact ⟨q, hAF⟩
        · have q : upd W1.P A (.lst []) a = some u := q
          rw [upd_ne z] at q ⊢
          exact ok1.p a u q
      · show upd W1.P A (.lst []) a = none
        rw [upd_ne (hAm i a q)]
        exact (ok1.m i a q).2
      · obtain ⟨us, q3, q4⟩ := ok1.c i a es q1 q2
        exact ⟨us, by rw [upd_ne (hAm i a q1)]; exact q3, repsP W1 q4⟩
    rintro i m H ⟨rfl, hi, W2, S2, acc, vs', l2, hP2, ok2, ra, hac, h2⟩
    obtain ⟨y1, y2⟩ := y W2 S2 H l2 ok2
    have hH : H A = some (.lst vs') := (ok2.p A _ (by rw [hP2]; exact upd_same)).1
    by_cases hlt : i < ds.length
    · right
      obtain ⟨g1, g2⟩ := y2 i ds[i] (List.getElem?_eq_getElem hlt)
      refine ⟨g1, fun H => i + 1 ≤ ds.length ∧ ∃ W' S' acc vs', LeS W1 W' ∧ W'.P = upd W1.P A (.lst vs') ∧ Ok Γ W' S' H ∧ Reps Γ W' acc vs' ∧ acc.length ≤ i + 1 ∧ Cont Γ (lcL t fc fe (wipeD es vs) (ds.drop (i + 1)) S' acc) { W' with P := W1.P } Q (at_ E σ),
        fun H' q => ⟨ds.length - (i + 1), by omega, rfl, q⟩, fun x H' yl => ?_⟩
      obtain ⟨W3, l3, ok3, r3⟩ := g2 x H' yl
      rw [List.drop_eq_getElem_cons hlt, lcL] at h2
      cases ht : t ds[i] (wipeD es vs) with
      | none => rw [ht] at h2; exact h2.elim
      | some es3 =>
        rw [ht] at h2
        simp only at h2
        obtain ⟨own, fr1, fr2⟩ := fr
        have fr3 : Frame Γ ξ W3 (wipeD es vs) (L2.wipe σ vs) (upd P0 A (.lst vs')) := by
          refine ⟨own, SlotsR.mono ((l1.s.trans l2).trans l3.s) (SlotsR.wipe fr1 hn), fr2.nd, fun p hp => ?_, fun a ha => ?_⟩
          · obtain ⟨q1, q2⟩ := fr2.at_ p hp
            have nA : p.1 ≠ A := fun z => by
              have q3 : W1.P p.1 = some p.2 := by rw [l1.p]; exact q2
              rw [z, hAP] at q3
              cases q3
            refine ⟨by rw [upd_ne nA]; exact q1, ?_⟩
            rw [l3.p, hP2, upd_ne nA, l1.p]
            exact q2
          · rw [l3.p, hP2]
            by_cases z : a = A
            · rw [z, upd_same, upd_same]
            · rw [upd_ne z, upd_ne z, l1.p]
              exact fr2.rest a ha
        refine ⟨W3, wipeD es vs, S2, upd P0 A (.lst vs'), ds[i], es3, ok3, fr3, r3, ht, fun W4 σ4 st ok4 fr4 => ?_⟩
        have hna' : noAcc (wipeD es vs) ix = true := noAcc_of fun j hj ds q => hn j (hix j hj) ds (wipeD_acc q)
        obtain rfl := st.same hna'
        refine ⟨?_, ?_⟩
        · rw [wipe_eq st.len fun j hj => st.out j fun q => hj (hix j q), wipe_wipe]
        refine ⟨W4, es3, S2, _, ok4, fr4, ?_⟩
        have l23 : Le { W2 with P := W1.P } { W4 with P := W1.P } := ⟨l3.f, rfl, l3.m⟩
        cases ec : fc es3 S2 with
        | bad => rw [ec] at h2; exact h2.elim
        | exc k fs S' => rw [ec] at h2; exact h2.elim
        | ok b S5 =>
          rw [ec] at h2
          simp only [Res.nox, Res.bind] at h2
          cases b with
          | bl b =>
            intro W5 H5 l5 ok5
            have l25 : Le { W2 with P := W1.P } { W5 with P := W1.P } := l23.trans ⟨l5.f, rfl, l5.m⟩
            have hP5 : W5.P = upd W1.P A (.lst vs') := by rw [l5.p, l3.p, hP2]
            cases b with
            | false =>
              rw [if_neg Bool.false_ne_true]
              simp only at h2
              exact ⟨hlt, W5, S5, acc, vs', l2.trans (l3.s.trans l5.s), hP5, ok5, ra.mono (l3.s.trans l5.s), Nat.le_succ_of_le hac, Cont.le h2 l25⟩
            | true =>
              rw [if_pos rfl]
              simp only at h2
              refine ⟨W5, es3, S5, _, ok5, fr4.le l5, ?_⟩
              cases ee : fe es3 S5 with
              | bad => rw [ee] at h2; exact h2.elim
              | exc k fs S' => rw [ee] at h2; exact h2.elim
              | ok d6 S6 =>
                rw [ee] at h2
                simp only [Res.nox, Res.bind] at h2
                intro W6 v6 H6 l6 ok6 r6
                have hP6 : W6.P = upd W1.P A (.lst vs') := by rw [l6.p, hP5]
                have hH6 : H6 A = some (.lst vs') ∧ W6.F A = none := ok6.p A _ (by rw [hP6]; exact upd_same)
                refine ⟨vs', hH6.1, ?_, hlt, { W6 with P := upd W1.P A (.lst (vs' ++ [v6])) }, S6, acc ++ [d6], vs' ++ [v6], ⟨fun a u q => ?_, fun i a q => ?_⟩, rfl, ?_, ?_, by simp; omega, ?_⟩
                · rw [ra.length, sizeLine_eq]
                  omega
                · exact l6.f _ _ (l5.f _ _ (l3.f _ _ (l2.f _ _ q)))
                · exact l6.m _ _ (l5.m _ _ (l3.m _ _ (l2.m _ _ q)))
                · refine ⟨fun a u q => ?_, fun a u q => ?_, fun i a q => ⟨(ok6.m i a q).1, ?_⟩, ok6.nd, ok6.len, fun i a es q1 q2 => ?_⟩
                  · rw [upd_ne (ne_of_none (show W6.F a = some u from q) hH6.2)]
                    exact ok6.f a u q
                  · by_cases z : a = A
                    · subst z
                      have q : upd W1.P a (.lst (vs' ++ [v6])) a = some u := q
                      rw [upd_same] at q ⊢
                      exact ⟨q, hH6.2⟩
                    · have q : upd W1.P A (.lst (vs' ++ [v6])) a = some u := q
                      rw [upd_ne z] at q ⊢
                      exact ok6.p a u (by rw [hP6, upd_ne z]; exact q)
                  · have q3 := (ok6.m i a q).2
                    show upd W1.P A (.lst (vs' ++ [v6])) a = none
                    have nA : a ≠ A := fun z => by
                      rw [z, hP6, upd_same] at q3
                      cases q3
                    rw [hP6, upd_ne nA] at q3
                    rw [upd_ne nA]
                    exact q3
                  · have q3 := (ok6.m i a q1).2
                    have nA : a ≠ A := fun z => by
                      rw [z, hP6, upd_same] at q3
                      cases q3
                    obtain ⟨us, q4, q5⟩ := ok6.c i a es q1 q2
                    exact ⟨us, by rw [upd_ne nA]; exact q4, repsP W6 q5⟩
                · exact repsP W6 ((ra.mono (l3.s.trans (l5.s.trans l6.s))).append (Reps.cons r6 Reps.nil))
                · exact Cont.le h2 (l25.trans ⟨l6.f, rfl, l6.m⟩)
          | _ => exact h2.elim
    · left
      have e2 : i = ds.length := by omega
      subst e2
      rw [List.drop_length, lcL] at h2
      refine ⟨y1, h2 { W2 with F := upd W2.F A (.lst vs'), P := W1.P } _ H ⟨fun a u q => ?_, rfl, fun _ _ q => q⟩ ?_ ?_⟩
      · have n : W2.F A = none := (ok2.p A _ (by rw [hP2]; exact upd_same)).2
        show upd W2.F A (.lst vs') a = some u
        rw [upd_ne (ne_of_none (show W2.F a = some u from q) n)]
        exact q
      · have n : W2.F A = none := (ok2.p A _ (by rw [hP2]; exact upd_same)).2
        have lF : LeS W2 { W2 with F := upd W2.F A (.lst vs'), P := W1.P } := ⟨fun a u q => by
          show upd W2.F A (.lst vs') a = some u
          rw [upd_ne (ne_of_none (show W2.F a = some u from q) n)]
          exact q, fun _ _ q => q⟩
        have hnA : ∀ (i : Nat) (a : Addr), W2.m[i]? = some a → a ≠ A := fun i a q z => by
          have q3 := (ok2.m i a q).2
          rw [z, hP2, upd_same] at q3
          cases q3
        refine ⟨fun a u q => ?_, fun a u q => ?_, fun i a q => ?_, ok2.nd, ok2.len, fun i a es q1 q2 => ?_⟩
        · by_cases z : a = A
          · subst z
            have q : upd W2.F a (.lst vs') a = some u := q
            rw [upd_same] at q
            rw [hH]
            exact q
          · have q : upd W2.F A (.lst vs') a = some u := q
            rw [upd_ne z] at q
            exact ok2.f a u q
        · have q : W1.P a = some u := q
          have z : a ≠ A := ne_of_none q hAP
          have q2 := ok2.p a u (by rw [hP2, upd_ne z]; exact q)
          refine ⟨q2.1, ?_⟩
          show upd W2.F A (.lst vs') a = none
          rw [upd_ne z]
          exact q2.2
        · have z := hnA i a q
          refine ⟨?_, ?_⟩
          · show upd W2.F A (.lst vs') a = none
            rw [upd_ne z]
            exact (ok2.m i a q).1
          · have q3 := (ok2.m i a q).2
            rw [hP2, upd_ne z] at q3
            exact q3
        · obtain ⟨us, q4, q5⟩ := ok2.c i a es q1 q2
          exact ⟨us, q4, q5.mono lF⟩
      · have n : W2.F A = none := (ok2.p A _ (by rw [hP2]; exact upd_same)).2
        simp only [Rep]
        refine ⟨A, vs', rfl, .inl (.inl upd_same), Reps.mono (W := W2) (W' := { W2 with F := upd W2.F A (.lst vs'), P := W1.P }) ⟨fun a u q => ?_, fun _ _ q => q⟩ ra⟩
        show upd W2.F A (.lst vs') a = some u
        rw [upd_ne (ne_of_none (show W2.F a = some u from q) n)]
        exact q
theorem de_lc {elt tg iter : Expr} {ifs : List Expr} {scope : Scope} {own : List (Str × Nat)} {pos : Pos} {fi : AF} {t : TF} {ix : List Nat} {fc fe : EF} (hc : X.calm = true) (hN : X.N.Nodup) (hi : PI X tg iter (dI Γ ξ fi E)) (ok : BlkOk X.N X.env.scope scope own)
    (hg : ∀ (s : Shared) (H : Hp) (C : Addr) (cl : List (Str × Addr)) (fp : List Addr), PG (X.blk s H scope (PySem.compEnvC scope cl C X.env) fp) tg (dG Γ ξ t ix)) (ht : ∀ (s : Shared) (H : Hp) (C : Addr) (cl : List (Str × Addr)) (fp : List Addr), PTs (X.blk s H scope (PySem.compEnvC scope cl C X.env) fp) ifs (dT Γ ξ fc E0))
    (he : ∀ (s : Shared) (H : Hp) (C : Addr) (cl : List (Str × Addr)) (fp : List Addr), PE (X.blk s H scope (PySem.compEnvC scope cl C X.env) fp) elt (dE Γ ξ fe E0)) (hix : ∀ j ∈ ix, j ∈ own.map (·.2) := by decide) (hs : ∀ x, foldedSetIterable iter X.env x = pure x := by intro _; rfl) :
    PE X (.ListComp elt [⟨tg, iter, ifs, 0⟩] scope pos) (dE Γ ξ (eLc (own.map (·.2)) fi t fc fe) E) := (pe_lc hc hN hi ok hg ht he hs).imp fun σ H Q h => tLc_of hix h
theorem ds_setLc {i : Nat} {y : Str} {py : Pos} {elt tg iter : Expr} {ifs : List Expr} {scope : Scope} {own : List (Str × Nat)} {pos spos : Pos} {fi : AF} {t : TF} {ix : List Nat} {fc fe : EF} (hc : X.calm = true) (hN : X.N.Nodup) (hi : PI X tg iter (dI Γ ξ fi E)) (ok : BlkOk X.N X.env.scope scope own)
    (hg : ∀ (s : Shared) (H : Hp) (C : Addr) (cl : List (Str × Addr)) (fp : List Addr), PG (X.blk s H scope (PySem.compEnvC scope cl C X.env) fp) tg (dG Γ ξ t ix)) (ht : ∀ (s : Shared) (H : Hp) (C : Addr) (cl : List (Str × Addr)) (fp : List Addr), PTs (X.blk s H scope (PySem.compEnvC scope cl C X.env) fp) ifs (dT Γ ξ fc E0))
    (he : ∀ (s : Shared) (H : Hp) (C : Addr) (cl : List (Str × Addr)) (fp : List Addr), PE (X.blk s H scope (PySem.compEnvC scope cl C X.env) fp) elt (dE Γ ξ fe E0))
    (P : PS X (.Assign [.Name y py] (.ListComp elt [⟨tg, iter, ifs, 0⟩] scope pos) spos) (tAsg (tLc (dI Γ ξ fi E) (dG Γ ξ t ix) (dT Γ ξ fc E0) (dE Γ ξ fe E0) (own.map (·.2))) (gName i))) (hix : ∀ j ∈ ix, j ∈ own.map (·.2) := by decide) :
    PS X (.Assign [.Name y py] (.ListComp elt [⟨tg, iter, ifs, 0⟩] scope pos) spos) (dS Γ ξ (sAsg (tgN i) (eLc (own.map (·.2)) fi t fc fe)) E) := P.imp fun Dn σ H ⟨W, es, S, P0, ok, fr, h⟩ =>
  tLc_of hix ⟨W, es, S, P0, ok, fr, ContS.toS fr h fun d S1 W1 v H1 le ok1 rv h1 => by
    obtain ⟨W', e, ok', fr'⟩ := Frame.set ok1 (fr.le le) rv i
    exact h1 W' _ H1 e.le ok' fr'⟩
end
end DL
set_option Elab.async false
set_option linter.all false
set_option maxRecDepth 100000
set_option maxHeartbeats 2000000
set_option autoImplicit false
/-! The data layer, 5: what may be read of the frame's own lists, items, built-ins, the frame's own lists grown, cells stored. -/
namespace DL
open PySem L2

section
variable {Γ : Pg} {ξ : Xx} {X : Cx} {E : WX}
/-! ### a value that is only read -/
def RepT (Γ : Pg) (W : Wd) (d : D) (v : V) : Prop := Rep Γ W d v ∨ ∃ a vs ds, d = .lst ds ∧ v = .ref a ∧ W.P a = some (.lst vs) ∧ Reps Γ W ds vs
theorem RepT.mono {W W' : Wd} {d : D} {v : V} (h : RepT Γ W d v) (l : Le W W') : RepT Γ W' d v := by
  rcases h with h | ⟨a, vs, ds, h1, h2, h3, h4⟩
  · exact .inl (h.mono l.s)
  · exact .inr ⟨a, vs, ds, h1, h2, by rw [l.p]; exact h3, h4.mono l.s⟩
def ContV (Γ : Pg) (r : Res) (W : Wd) (Q : VK) (E : XK) : Prop := match r with
  | .ok d S => ∀ W' v H', Le W W' → Ok Γ W' S H' → RepT Γ W' d v → Q v H'
  | .exc k fs S => ∀ W' d H', Le W W' → Ok Γ W' S H' → RepX (Γ := Γ) W' fs d → E (.ref (Γ.cl k)) d H'
  | .bad => False
def dV (Γ : Pg) (ξ : Xx) (f : EF) (E : WX) : TE := fun σ H Q => ∃ W es S P0, Ok Γ W S H ∧ Frame Γ ξ W es σ P0 ∧ ContV Γ (f es S) W Q (at_ E σ)
theorem dv_of {e : Expr} {f : EF} (h : PE X e (dE Γ ξ f E)) : PE X e (dV Γ ξ f E) := h.imp fun σ H Q ⟨W, es, S, P0, ok, fr, h⟩ => ⟨W, es, S, P0, ok, fr, by
  cases e : f es S with
  | ok d S => rw [e] at h; exact fun W' v H' l o r => h W' v H' l o (.inl r)
  | exc k fs S => rw [e] at h; exact h
  | bad => rw [e] at h; exact h⟩
def eVarT (i : Nat) : EF := fun es S => match es[i]? with
  | some (.val d) => .ok d S
  | some (.acc ds) => .ok (.lst ds) S
  | _ => .bad
theorem dv_var (i : Nat) {x : Str} {pos : Pos} (hN : X.N[i]? = some x := by rfl) (hv : Vis X.env.scope x := by first | exact Or.inl rfl | exact Or.inr (Or.inl rfl) | exact Or.inr (Or.inr rfl)) (hd : (x == ("__debug__" : Str)) = false := by decide)
    (hcd : (x == ("__classdict__" : Str)) = false := by decide) : PE X (.Name x pos) (dV Γ ξ (eVarT i) E) := (pe_var hN hv hd hcd).imp fun σ H Q ⟨W, es, S, P0, ok, ⟨own, fr, o⟩, h⟩ => by
  unfold eVarT at h
  cases hi : es[i]? with
  | none => rw [hi] at h; exact h.elim
  | some sd =>
    rw [hi] at h
    cases sd with
    | no => exact h.elim
    | exn k fs => exact h.elim
    | slf => exact h.elim
    | acc ds =>
      obtain ⟨a, vs, h1, h2, h3⟩ := fr.acc hi
      exact ⟨.ref a, h1, h W _ H (Le.refl W) ok (.inr ⟨a, vs, ds, rfl, rfl, (o.at_ _ h3).2, h2⟩)⟩
    | val d =>
      obtain ⟨v, h1, h2⟩ := fr.val hi
      exact ⟨v, h1, h W v H (Le.refl W) ok (.inl h2)⟩
theorem ContV.bind {r : Res} {k : D → Store → Res} {W : Wd} {Q Q1 : VK} {E : XK} (h : Cont Γ (r.bind k) W Q E)
    (q : ∀ d S1 W1 v H1, Le W W1 → Ok Γ W1 S1 H1 → RepT Γ W1 d v → Cont Γ (k d S1) W1 Q E → Q1 v H1) : ContV Γ r W Q1 E := by
  cases r with
  | ok d S => exact fun W1 v H1 l o r => q d S W1 v H1 l o r (Cont.le h l)
  | exc c fs S => exact h
  | bad => exact h
def rV2 (Γ : Pg) (g : D → D → Store → Res) : R2 := fun x y H Q => ∃ W S a b, Ok Γ W S H ∧ RepT Γ W a x ∧ Rep Γ W b y ∧ Cont Γ (g a b S) W Q (fun _ _ _ => False)
theorem tOpV_of {g : D → D → Store → Res} {fa fb : EF} {σ : L2.St} {H : Hp} {Q : VK} (h : dE Γ ξ (eOp2 g fa fb) E σ H Q) : tOp (rV2 Γ g) (dV Γ ξ fa E) (dE Γ ξ fb E) σ H Q := by
  obtain ⟨W, es, S, P0, ok, fr, h⟩ := h
  refine ⟨W, es, S, P0, ok, fr, ContV.bind h fun d S1 W1 v H1 le ok1 rv h1 => ?_⟩
  refine ⟨W1, es, S1, P0, ok1, fr.le le, h1.bind fun d2 S2 W2 v2 H2 le2 ok2 rv2 h2 => ?_⟩
  exact ⟨W2, S2, d, d2, ok2, rv.mono le2, rv2, h2.nox⟩
/-- read as a list -/
theorem asL {W : Wd} {S : Store} {H : Hp} {d : D} {ds : List D} {v : V} (ok : Ok Γ W S H) (r : RepT Γ W d v) (h : deref S d = .lst ds) : ∃ a vs, v = .ref a ∧ SqL Γ.K H a vs ∧ Reps Γ W ds vs := by
  rcases r with r | ⟨a, vs, ds', rfl, rfl, h3, h4⟩
  · cases d with
    | cell i =>
      simp only [Rep] at r
      obtain ⟨a, rfl, h2⟩ := r
      obtain ⟨ds', vs, h3, h4, h5⟩ := ok.cell h2
      simp only [deref, h3] at h
      cases h
      exact ⟨a, vs, rfl, .inl (.inl h4), h5⟩
    | lst ds' =>
      cases h
      simp only [Rep] at r
      obtain ⟨a, vs, rfl, h1, h2⟩ := r
      exact ⟨a, vs, rfl, sqL_H ok.f h1, h2⟩
    | _ => cases h
  · cases h
    exact ⟨a, vs, rfl, .inl (.inl (ok.p _ _ h3).1), h4⟩
theorem asT {W : Wd} {S : Store} {H : Hp} {d : D} {ds : List D} {v : V} (ok : Ok Γ W S H) (r : RepT Γ W d v) (h : deref S d = .tup ds) : ∃ a vs, v = .ref a ∧ SqT Γ.K H a vs ∧ Reps Γ W ds vs := by
  rcases r with r | ⟨a, vs, ds', rfl, rfl, h3, h4⟩
  · cases d with
    | cell i =>
      simp only [deref] at h
      split at h <;> cases h
    | tup ds' =>
      cases h
      simp only [Rep] at r
      obtain ⟨a, vs, rfl, h1, h2⟩ := r
      exact ⟨a, vs, rfl, sqT_H ok.f h1, h2⟩
    | _ => cases h
  · cases h
theorem asS {W : Wd} {S : Store} {d : D} {z : Str} {v : V} (r : RepT Γ W d v) (h : deref S d = .str z) : v = .str z := by
  rcases r with r | ⟨a, vs, ds', rfl, rfl, h3, h4⟩
  · cases d with
    | cell i =>
      simp only [deref] at h
      split at h <;> cases h
    | str y => cases h; simpa only [Rep] using r
    | _ => cases h
  · cases h

/-! ### items -/
theorem Reps.atI {W : Wd} {ds : List D} {vs : List V} {i : Int} {d : D} (r : Reps Γ W ds vs) (h : L2.atI ds i = some d) : ∃ v, L2.atI vs i = some v ∧ Rep Γ W d v := by
  unfold L2.atI at h ⊢
  rw [r.length]
  rw [Option.bind_eq_some_iff] at h
  obtain ⟨j, h1, h2⟩ := h
  obtain ⟨v, h3, h4⟩ := r.get h2
  exact ⟨v, by rw [h1]; exact h3, h4⟩
def gIx : D → D → Store → Res := fun x y S => match deref S x, y with
  | .lst ds, .int i => match L2.atI ds i with
    | some d => .ok d S
    | none => .bad
  | .tup ds, .int i => match L2.atI ds i with
    | some d => .ok d S
    | none => .bad
  | .str z, .int i => match L2.atI z.cps.toList i with
    | some c => if z.length ≤ 16777216 then .ok (.str ⟨#[c]⟩) S else .bad
    | none => .bad
  | _, _ => .bad
theorem ix_gIx (hK : X.K = Γ.K) : IxR X (rV2 Γ gIx) := by
  intro value slice pins s σ H x y v u Q I rx ry ⟨W, S, a, b, ok, ra, rb, h⟩ hs
  unfold gIx at h
  split at h
  · rename_i ds i hd
    simp only [Rep] at rb
    subst rb
    obtain ⟨p, vs, rfl, h1, h2⟩ := asL ok ra hd
    split at h
    · rename_i d hi
      obtain ⟨w, h3, h4⟩ := h2.atI hi
      exact ix_list value slice pins s σ H _ _ v u Q I rx ry ⟨p, vs, i, w, rfl, rfl, by rw [hK]; exact h1, h3, h W _ H (Le.refl W) ok h4⟩ hs
    · exact h.elim
  · rename_i ds i hd
    simp only [Rep] at rb
    subst rb
    obtain ⟨p, vs, rfl, h1, h2⟩ := asT ok ra hd
    split at h
    · rename_i d hi
      obtain ⟨w, h3, h4⟩ := h2.atI hi
      exact ix_tup value slice pins s σ H _ _ v u Q I rx ry ⟨p, vs, i, w, rfl, rfl, by rw [hK]; exact h1, h3, h W _ H (Le.refl W) ok h4⟩ hs
    · exact h.elim
  · rename_i z i hd
    simp only [Rep] at rb
    subst rb
    obtain rfl := asS ra hd
    split at h
    · rename_i c hi
      split at h
      · rename_i hz
        exact ix_str value slice pins s σ H _ _ v u Q I rx ry ⟨z, i, c, rfl, rfl, by rw [sizeLine_eq]; exact hz, hi, h W _ H (Le.refl W) ok (by simp only [Rep])⟩ hs
      · exact h.elim
    · exact h.elim
  · exact h.elim
theorem de_ix {a b : Expr} {fa fb : EF} {pos : Pos} (hK : X.K = Γ.K) (ha : PE X a (dV Γ ξ fa E)) (hb : PE X b (dE Γ ξ fb E)) (hs : PlainIx b := by exact fun _ _ => rfl) : PE X (.Subscript a b pos) (dE Γ ξ (eOp2 gIx fa fb) E) := (pe_ix (ix_gIx hK) ha hb hs).imp fun σ H Q h => tOpV_of h

/-! ### calls of built-ins -/
def rC1 (Γ : Pg) (g : D → Store → Res) : List V → Hp → VK → Prop := fun vs H Q => ∃ x W S d, vs = [x] ∧ Ok Γ W S H ∧ RepT Γ W d x ∧ Cont Γ (g d S) W Q (fun _ _ _ => False)
theorem tC1_of {g : D → Store → Res} {f : EF} {σ : L2.St} {H : Hp} {Q : VK} (h : dE Γ ξ (eOp1 g f) E σ H Q) : tCB (rC1 Γ g) (tCons (dV Γ ξ f E) tNil) σ H Q := by
  obtain ⟨W, es, S, P0, ok, fr, h⟩ := h
  exact ⟨W, es, S, P0, ok, fr, ContV.bind h fun d S1 W1 v H1 le ok1 rv h1 => ⟨v, W1, S1, d, rfl, ok1, rv, h1.nox⟩⟩
section
variable {x : Str} {p pos : Pos} {a b : Expr} {f fa fb : EF} {id T : String}
theorem de_b1 {g : D → Store → Res} (hc : CallR X (.builtin id) (rC1 Γ g)) (hm : X.mg x = none) (hv : bootBuiltins x = some (.builtin id)) (ha : PE X a (dV Γ ξ f E)) (hg : Gl X x := by rfl) (hn : x ≠ "__name__" := by decide) (hdb : (x == ("__debug__" : Str)) = false := by decide)
    (he : starEach (a :: []) X.env = (false, eval a X.env) :: starEach [] X.env := by rfl) (hpl : (backTo pos (starEach [] X.env)).any (·.1) = false := by rfl) : PE X (.Call (.Name x p) [a] [] pos) (dE Γ ξ (eOp1 g f) E) :=
  (pe_callB hc hg hm hv (pa_cons ha pa_nil he) hn hdb (he := he) (hpl := hpl)).imp fun σ H Q h => tC1_of h
theorem de_t1 {g : D → Store → Res} (hc : CallR X (.type T) (rC1 Γ g)) (hm : X.mg x = none) (hv : bootBuiltins x = some (.type T)) (ha : PE X a (dV Γ ξ f E)) (hg : Gl X x := by rfl) (hn : x ≠ "__name__" := by decide) (hdb : (x == ("__debug__" : Str)) = false := by decide)
    (he : starEach (a :: []) X.env = (false, eval a X.env) :: starEach [] X.env := by rfl) (hpl : (backTo pos (starEach [] X.env)).any (·.1) = false := by rfl) : PE X (.Call (.Name x p) [a] [] pos) (dE Γ ξ (eOp1 g f) E) :=
  (pe_callTy hc hg hm hv (pa_cons ha pa_nil he) hn hdb (he := he) (hpl := hpl)).imp fun σ H Q h => tC1_of h
def rC2 (Γ : Pg) (g : D → D → Store → Res) : List V → Hp → VK → Prop := fun vs H Q => ∃ x y W S a b, vs = [x, y] ∧ Ok Γ W S H ∧ Rep Γ W a x ∧ Rep Γ W b y ∧ Cont Γ (g a b S) W Q (fun _ _ _ => False)
theorem tC2_of {g : D → D → Store → Res} {σ : L2.St} {H : Hp} {Q : VK} (h : dE Γ ξ (eOp2 g fa fb) E σ H Q) : tCB (rC2 Γ g) (tCons (dE Γ ξ fa E) (tCons (dE Γ ξ fb E) tNil)) σ H Q := by
  obtain ⟨W, es, S, P0, ok, fr, h⟩ := h
  refine ⟨W, es, S, P0, ok, fr, h.bind fun d S1 W1 v H1 le ok1 rv h1 => ?_⟩
  exact ⟨W1, es, S1, P0, ok1, fr.le le, h1.bind fun d2 S2 W2 v2 H2 le2 ok2 rv2 h2 => ⟨v, v2, W2, S2, d, d2, rfl, ok2, rv.mono le2.s, rv2, h2.nox⟩⟩
theorem de_b2 {g : D → D → Store → Res} (hc : CallR X (.builtin id) (rC2 Γ g)) (hm : X.mg x = none) (hv : bootBuiltins x = some (.builtin id)) (ha : PE X a (dE Γ ξ fa E)) (hb : PE X b (dE Γ ξ fb E)) (hg : Gl X x := by rfl) (hn : x ≠ "__name__" := by decide) (hdb : (x == ("__debug__" : Str)) = false := by decide)
    (he : starEach (a :: [b]) X.env = (false, eval a X.env) :: starEach [b] X.env := by rfl) (he2 : starEach (b :: []) X.env = (false, eval b X.env) :: starEach [] X.env := by rfl) (hpl : (backTo pos (starEach [b] X.env)).any (·.1) = false := by rfl) : PE X (.Call (.Name x p) [a, b] [] pos) (dE Γ ξ (eOp2 g fa fb) E) :=
  (pe_callB hc hg hm hv (pa_cons ha (pa_cons hb pa_nil he2) he) hn hdb (he := he) (hpl := hpl)).imp fun σ H Q h => tC2_of h
end
def gLen : D → Store → Res := fun x S => match deref S x with
  | .lst ds => .ok (.int ds.length) S
  | .tup ds => .ok (.int ds.length) S
  | .str z => if z.length ≤ 16777216 then .ok (.int z.length) S else .bad
  | _ => .bad
theorem cr_len (hK : X.K = Γ.K) : CallR X (.builtin "len") (rC1 Γ gLen) := by
  intro pins s σ H vs us Q I r ⟨x, W, S, d, e, ok, rd, h⟩
  subst e
  unfold gLen at h
  split at h
  · rename_i ds hd
    obtain ⟨p, vs, rfl, h1, h2⟩ := asL ok rd hd
    exact call_len_seq pins s σ H _ us Q I r ⟨p, vs, rfl, .inl (by rw [hK]; exact h1), by rw [h2.length]; exact h W _ H (Le.refl W) ok (by simp only [Rep])⟩
  · rename_i ds hd
    obtain ⟨p, vs, rfl, h1, h2⟩ := asT ok rd hd
    exact call_len_seq pins s σ H _ us Q I r ⟨p, vs, rfl, .inr (by rw [hK]; exact h1), by rw [h2.length]; exact h W _ H (Le.refl W) ok (by simp only [Rep])⟩
  · rename_i z hd
    obtain rfl := asS rd hd
    split at h
    · rename_i hz
      exact call_len_str pins s σ H _ us Q I r ⟨z, rfl, by rw [sizeLine_eq]; exact hz, h W _ H (Le.refl W) ok (by simp only [Rep])⟩
    · exact h.elim
  · exact h.elim
def gAbs : D → Store → Res := fun x S => match x with
  | .int i => .ok (.int (if i < 0 then -i else i)) S
  | _ => .bad
theorem RepT.int {W : Wd} {i : Int} {v : V} (r : RepT Γ W (.int i) v) : v = .int i := by
  rcases r with r | ⟨a, vs, ds', h, _⟩
  · simpa only [Rep] using r
  · cases h
theorem RepT.str {W : Wd} {i : Str} {v : V} (r : RepT Γ W (.str i) v) : v = .str i := by
  rcases r with r | ⟨a, vs, ds', h, _⟩
  · simpa only [Rep] using r
  · cases h
theorem cr_abs : CallR X (.builtin "abs") (rC1 Γ gAbs) := by
  intro pins s σ H vs us Q I r ⟨x, W, S, d, e, ok, rd, h⟩
  subst e
  unfold gAbs at h
  split at h
  · rename_i i
    obtain rfl := rd.int
    exact call_abs pins s σ H _ us Q I r ⟨i, rfl, h W _ H (Le.refl W) ok (by simp only [Rep])⟩
  · exact h.elim
/-- str of an int, of a text -/
def gStr : D → Store → Res := fun x S => match x with
  | .int i => if i.natAbs.log2 < 1920 then .ok (.str (toString i)) S else .bad
  | _ => .bad
theorem cr_str : CallR X (.type "str") (rC1 Γ gStr) := by
  intro pins s σ H vs us Q I r ⟨x, W, S, d, e, ok, rd, h⟩
  subst e
  unfold gStr at h
  split at h
  · rename_i i
    obtain rfl := rd.int
    split at h
    · rename_i hi
      exact call_str_int pins s σ H _ us Q I r ⟨i, rfl, hi, h W _ H (Le.refl W) ok (by simp only [Rep])⟩
    · exact h.elim
  · exact h.elim
/-- int of a text -/
def gInt : D → Store → Res := fun x S => match x with
  | .str z => match PySem.intText? z with
    | some n => if z.length ≤ 640 then .ok (.int n) S else .bad
    | none => .bad
  | _ => .bad
theorem cr_int : CallR X (.type "int") (rC1 Γ gInt) := by
  intro pins s σ H vs us Q I r ⟨x, W, S, d, e, ok, rd, h⟩
  subst e
  unfold gInt at h
  split at h
  · rename_i z
    obtain rfl := rd.str
    split at h
    · rename_i n hn
      split at h
      · rename_i hz
        exact call_int_str pins s σ H _ us Q I r ⟨z, n, rfl, hn, hz, h W _ H (Le.refl W) ok (by simp only [Rep])⟩
      · exact h.elim
    · exact h.elim
  · exact h.elim
def gMax : D → D → Store → Res := fun x y S => match x, y with
  | .int i, .int j => .ok (.int (if j > i then j else i)) S
  | _, _ => .bad
def gMin : D → D → Store → Res := fun x y S => match x, y with
  | .int i, .int j => .ok (.int (if j < i then j else i)) S
  | _, _ => .bad
theorem cr_max (hc : X.calm = true) : CallR X (.builtin "max") (rC2 Γ gMax) := by
  intro pins s σ H vs us Q I r ⟨x, y, W, S, a, b, e, ok, ra, rb, h⟩
  subst e
  unfold gMax at h
  split at h
  · simp only [Rep] at ra rb
    subst ra rb
    exact call_max2 hc pins s σ H _ us Q I r ⟨_, _, rfl, h W _ H (Le.refl W) ok (by simp only [Rep])⟩
  · exact h.elim
theorem cr_min (hc : X.calm = true) : CallR X (.builtin "min") (rC2 Γ gMin) := by
  intro pins s σ H vs us Q I r ⟨x, y, W, S, a, b, e, ok, ra, rb, h⟩
  subst e
  unfold gMin at h
  split at h
  · simp only [Rep] at ra rb
    subst ra rb
    exact call_min2 hc pins s σ H _ us Q I r ⟨_, _, rfl, h W _ H (Le.refl W) ok (by simp only [Rep])⟩
  · exact h.elim
/-- any, all of a list of truths -/
def asB : List D → Option (List Bool)
  | [] => some []
  | .bl b :: ds => (asB ds).map fun bs => b :: bs
  | _ :: _ => none
theorem asB_reps {W : Wd} : ∀ {ds : List D} {bs : List Bool} {vs : List V}, asB ds = some bs → Reps Γ W ds vs → vs = bs.map V.bl
  | [], bs, vs, h, r => by
    cases h
    simp only [Reps] at r
    subst r
    rfl
  | .bl b :: ds, bs, vs, h, r => by
    simp only [asB, Option.map_eq_some_iff] at h
    obtain ⟨bs', h1, rfl⟩ := h
    simp only [Reps, Rep] at r
    obtain ⟨_, vs', rfl, rfl, r2⟩ := r
    rw [asB_reps h1 r2]
    rfl
  | .non :: ds, bs, vs, h, r => by cases h
  | .int _ :: ds, bs, vs, h, r => by cases h
  | .str _ :: ds, bs, vs, h, r => by cases h
  | .ty _ :: ds, bs, vs, h, r => by cases h
  | .cls _ :: ds, bs, vs, h, r => by cases h
  | .cell _ :: ds, bs, vs, h, r => by cases h
  | .lst _ :: ds, bs, vs, h, r => by cases h
  | .tup _ :: ds, bs, vs, h, r => by cases h
  | .obj _ _ :: ds, bs, vs, h, r => by cases h
  | .dct _ _ :: ds, bs, vs, h, r => by cases h
def gAny : D → Store → Res := fun x S => match deref S x with
  | .lst ds => match asB ds with
    | some bs => .ok (.bl (bs.any fun b => b)) S
    | none => .bad
  | _ => .bad
def gAll : D → Store → Res := fun x S => match deref S x with
  | .lst ds => match asB ds with
    | some bs => .ok (.bl (bs.all fun b => b)) S
    | none => .bad
  | _ => .bad
theorem cr_gAny (hK : X.K = Γ.K) (hc : X.calm = true) : CallR X (.builtin "any") (rC1 Γ gAny) := by
  intro pins s σ H vs us Q I r ⟨x, W, S, d, e, ok, rd, h⟩
  subst e
  unfold gAny at h
  split at h
  · rename_i ds hd
    obtain ⟨p, vs, rfl, h1, h2⟩ := asL ok rd hd
    split at h
    · rename_i bs hb
      obtain rfl := asB_reps hb h2
      exact cr_any hc pins s σ H _ us Q I r ⟨p, bs, rfl, by rw [hK]; exact h1, h W _ H (Le.refl W) ok (by simp only [Rep]; rfl)⟩
    · exact h.elim
  · exact h.elim
theorem cr_gAll (hK : X.K = Γ.K) (hc : X.calm = true) : CallR X (.builtin "all") (rC1 Γ gAll) := by
  intro pins s σ H vs us Q I r ⟨x, W, S, d, e, ok, rd, h⟩
  subst e
  unfold gAll at h
  split at h
  · rename_i ds hd
    obtain ⟨p, vs, rfl, h1, h2⟩ := asL ok rd hd
    split at h
    · rename_i bs hb
      obtain rfl := asB_reps hb h2
      exact cr_all hc pins s σ H _ us Q I r ⟨p, bs, rfl, by rw [hK]; exact h1, h W _ H (Le.refl W) ok (by simp only [Rep]; rfl)⟩
    · exact h.elim
  · exact h.elim
/-- tuple(x), list(x) -/
def gTupOf : D → Store → Res := fun x S => match deref S x with
  | .lst ds => .ok (.tup ds) S
  | .tup ds => .ok (.tup ds) S
  | _ => .bad
def gListOf : D → Store → Res := fun x S => match deref S x with
  | .lst ds => .ok (.lst ds) S
  | .tup ds => .ok (.lst ds) S
  | _ => .bad
theorem cr_tuple (hK : X.K = Γ.K) : CallR X (.type "tuple") (rC1 Γ gTupOf) := by
  intro pins s σ H vs us Q I r ⟨x, W, S, d, e, ok, rd, h⟩
  subst e
  unfold gTupOf at h
  split at h
  · rename_i ds hd
    obtain ⟨p, vs, rfl, h1, h2⟩ := asL ok rd hd
    refine call_tuple_of pins s σ H _ us Q I r ⟨p, vs, rfl, .inl ⟨by rw [hK]; exact h1, fun l hl => ?_⟩⟩
    have le := Le.lay (o := .tup vs) (ok.fresh hl).1
    exact h _ _ _ le (ok.lay hl _) (rep_tup (h2.mono le.s))
  · rename_i ds hd
    obtain ⟨p, vs, rfl, h1, h2⟩ := asT ok rd hd
    refine call_tuple_of pins s σ H _ us Q I r ⟨p, vs, rfl, .inr ⟨by rw [hK]; exact h1, ?_⟩⟩
    rcases rd with rd | ⟨_, _, _, rfl, _⟩
    · refine h W _ H (Le.refl W) ok ?_
      cases d with
      | tup ds' => cases hd; exact rd
      | cell i => simp only [deref] at hd; split at hd <;> cases hd
      | _ => cases hd
    · cases hd
  · exact h.elim
theorem cr_list (hK : X.K = Γ.K) : CallR X (.type "list") (rC1 Γ gListOf) := by
  intro pins s σ H vs us Q I r ⟨x, W, S, d, e, ok, rd, h⟩
  subst e
  have go : ∀ {p : Addr} {vs : List V} {ds : List D}, (SqL Γ.K H p vs ∨ SqT Γ.K H p vs) → Reps Γ W ds vs → x = .ref p → Cont Γ (.ok (.lst ds) S) W Q (fun _ _ _ => False) → wpAny (model X.prog X.w) X.A (call (.type "list") us) (EP X pins σ Q) X.xe s := fun {p vs ds} h1 h2 hx h => by
    subst hx
    refine call_list_of pins s σ H _ us Q I r ⟨p, vs, rfl, by rw [hK]; exact h1, fun l hl => ?_⟩
    have le := Le.lay (o := .lst vs) (ok.fresh hl).1
    exact h _ _ _ le (ok.lay hl _) (rep_lst (h2.mono le.s))
  unfold gListOf at h
  split at h
  · rename_i ds hd
    obtain ⟨p, vs, hx, h1, h2⟩ := asL ok rd hd
    exact go (.inl h1) h2 hx h
  · rename_i ds hd
    obtain ⟨p, vs, hx, h1, h2⟩ := asT ok rd hd
    exact go (.inr h1) h2 hx h
  · exact h.elim

/-! ### a list of the frame's own is made, grown -/
theorem SlotsR.setAcc {W : Wd} {ds : List D} {vs : List V} {a : Addr} (r : Reps Γ W ds vs) : ∀ {es : List SD} {σ : L2.St} {own : List (Addr × HO)} (i : Nat), SlotsR Γ ξ W es σ own → (own.map (·.1)).Nodup → a ∉ own.map (·.1) →
    ∃ own', SlotsR Γ ξ W (es.set i (.acc ds)) (σ.set i (some (.ref a))) own' ∧ (own'.map (·.1)).Nodup ∧ ∀ p ∈ own', p ∈ own ∨ p = (a, .lst vs)
  | [], σ, own, i, h, nd, _ => ⟨own, by obtain ⟨rfl, rfl⟩ := h; exact ⟨rfl, rfl⟩, nd, fun p hp => .inl hp⟩
  | .no :: es, σ, own, i, h, nd, na => by
    obtain ⟨o, σ', rfl, h2⟩ := h
    cases i with
    | zero => exact ⟨(a, .lst vs) :: own, ⟨a, vs, σ', own, rfl, rfl, r, h2⟩, List.nodup_cons.mpr ⟨na, nd⟩, fun p hp => (List.mem_cons.mp hp).elim .inr .inl⟩
    | succ i =>
      obtain ⟨own', h3, h4, h5⟩ := SlotsR.setAcc r i h2 nd na
      exact ⟨own', ⟨o, _, rfl, h3⟩, h4, h5⟩
  | .val d0 :: es, σ, own, i, h, nd, na => by
    obtain ⟨v0, σ', rfl, h2, h3⟩ := h
    cases i with
    | zero => exact ⟨(a, .lst vs) :: own, ⟨a, vs, σ', own, rfl, rfl, r, h3⟩, List.nodup_cons.mpr ⟨na, nd⟩, fun p hp => (List.mem_cons.mp hp).elim .inr .inl⟩
    | succ i =>
      obtain ⟨own', h4, h5, h6⟩ := SlotsR.setAcc r i h3 nd na
      exact ⟨own', ⟨v0, _, rfl, h2, h4⟩, h5, h6⟩
  | .acc ds0 :: es, σ, own, i, h, nd, na => by
    obtain ⟨b, ws, σ', own0, rfl, rfl, h3, h4⟩ := h
    have nd' := List.nodup_cons.mp nd
    have na' : a ∉ own0.map (·.1) := fun q => na (List.mem_cons_of_mem _ q)
    cases i with
    | zero => exact ⟨(a, .lst vs) :: own0, ⟨a, vs, σ', own0, rfl, rfl, r, h4⟩, List.nodup_cons.mpr ⟨na', nd'.2⟩, fun p hp => (List.mem_cons.mp hp).elim .inr fun q => .inl (List.mem_cons_of_mem _ q)⟩
    | succ i =>
      obtain ⟨own', h5, h6, h7⟩ := SlotsR.setAcc r i h4 nd'.2 na'
      refine ⟨(b, .lst ws) :: own', ⟨b, ws, _, own', rfl, rfl, h3, h5⟩, List.nodup_cons.mpr ⟨fun q => ?_, h6⟩, fun p hp => ?_⟩
      · obtain ⟨p, hp, e⟩ := List.mem_map.mp q
        rcases h7 p hp with h | h
        · exact nd'.1 (List.mem_map.mpr ⟨p, h, e⟩)
        · rw [h] at e
          exact na (by rw [show a = b from e]; exact List.mem_cons_self)
      · rcases List.mem_cons.mp hp with h | h
        · exact .inl (by rw [h]; exact List.mem_cons_self)
        · exact (h7 p h).elim (fun q => .inl (List.mem_cons_of_mem _ q)) .inr
  | .exn k fs :: es, σ, own, i, h, nd, na => by
    obtain ⟨σ', rfl, h2, h3, h4⟩ := h
    cases i with
    | zero => exact ⟨(a, .lst vs) :: own, ⟨a, vs, σ', own, rfl, rfl, r, h4⟩, List.nodup_cons.mpr ⟨na, nd⟩, fun p hp => (List.mem_cons.mp hp).elim .inr .inl⟩
    | succ i =>
      obtain ⟨own', h5, h6, h7⟩ := SlotsR.setAcc r i h4 nd na
      exact ⟨own', ⟨_, rfl, h2, h3, h5⟩, h6, h7⟩
  | .slf :: es, σ, own, i, h, nd, na => by
    obtain ⟨σ', rfl, h4⟩ := h
    cases i with
    | zero => exact ⟨(a, .lst vs) :: own, ⟨a, vs, σ', own, rfl, rfl, r, h4⟩, List.nodup_cons.mpr ⟨na, nd⟩, fun p hp => (List.mem_cons.mp hp).elim .inr .inl⟩
    | succ i =>
      obtain ⟨own', h5, h6, h7⟩ := SlotsR.setAcc r i h4 nd na
      exact ⟨own', ⟨_, rfl, h5⟩, h6, h7⟩
/-- what the frame's own lists stand for behind a change at a -/
noncomputable def Wd.own (W : Wd) (own : List (Addr × HO)) (P0 : Hp) (P1 : Hp) : Wd := { W with P := fun b => open Classical in if b ∈ own.map (·.1) then P1 b else P0 b }
theorem Ok.own {W : Wd} {S : Store} {H H1 : Hp} {own own' : List (Addr × HO)} {P0 : Hp} {a : Addr} {vs : List V} (ok : Ok Γ W S H) (o : OwnP W own P0) (hF : W.F a = none) (hM : ∀ (i : Nat) (b : Addr), W.m[i]? = some b → b ≠ a) (h0 : P0 a = none) (hH : H1 = upd H a (.lst vs))
    (nd : (own'.map (·.1)).Nodup) (sub : ∀ p ∈ own', p ∈ own ∧ p.1 ≠ a ∨ p = (a, .lst vs)) : Ok Γ (W.own own' P0 H1) S H1 ∧ OwnP (W.own own' P0 H1) own' P0 := by
  subst hH
  have out : ∀ b, b ∈ own.map (·.1) → P0 b = none := fun b hb => by
    obtain ⟨p, hp, rfl⟩ := List.mem_map.mp hb
    exact (o.at_ p hp).1
  have P0W : ∀ b u, P0 b = some u → W.P b = some u := fun b u e => by
    rw [o.rest b fun hb => ?_]
    · exact e
    · rw [out b hb] at e
      cases e
  have get : ∀ p ∈ own', upd H a (.lst vs) p.1 = some p.2 ∧ W.F p.1 = none ∧ P0 p.1 = none ∧ ∀ (i : Nat) (b : Addr), W.m[i]? = some b → b ≠ p.1 := fun p hp => by
    rcases sub p hp with ⟨h1, h2⟩ | h1
    · obtain ⟨q1, q2⟩ := o.at_ p h1
      obtain ⟨q3, q4⟩ := ok.p _ _ q2
      refine ⟨by rw [upd_ne h2]; exact q3, q4, q1, fun i b q z => ?_⟩
      have := (ok.m i b q).2
      rw [z, q2] at this
      cases this
    · subst h1
      exact ⟨upd_same, hF, h0, hM⟩
  refine ⟨⟨fun b u e => ?_, fun b u e => ?_, fun i b e => ⟨(ok.m i b e).1, ?_⟩, ok.nd, ok.len, fun i b es e1 e2 => ?_⟩, ⟨nd, fun p hp => ⟨(get p hp).2.2.1, ?_⟩, fun b hb => ?_⟩⟩
  · rw [upd_ne (ne_of_none (show W.F b = some u from e) hF)]
    exact ok.f b u e
  · unfold Wd.own at e
    simp only at e
    split at e
    · rename_i hb
      obtain ⟨p, hp, rfl⟩ := List.mem_map.mp hb
      exact ⟨e, (get p hp).2.1⟩
    · have z : b ≠ a := ne_of_none e h0
      rw [upd_ne z]
      exact ok.p b u (P0W b u e)
  · unfold Wd.own
    simp only
    split
    · rename_i hb
      obtain ⟨p, hp, rfl⟩ := List.mem_map.mp hb
      exact absurd rfl ((get p hp).2.2.2 i _ e)
    · cases q : P0 b with
      | none => rfl
      | some u =>
        have := P0W b u q
        rw [(ok.m i b e).2] at this
        cases this
  · obtain ⟨us, q3, q4⟩ := ok.c i b es e1 e2
    exact ⟨us, by rw [upd_ne (hM i b e1)]; exact q3, Reps.mono (W := W) (W' := W.own own' P0 (upd H a (.lst vs))) ⟨fun _ _ h => h, fun _ _ h => h⟩ q4⟩
  · unfold Wd.own
    simp only
    rw [if_pos (List.mem_map.mpr ⟨p, hp, rfl⟩)]
    exact (get p hp).1
  · unfold Wd.own
    simp only
    rw [if_neg hb]
theorem Wd.own_le {W : Wd} {own : List (Addr × HO)} {P0 P1 : Hp} : LeS W (W.own own P0 P1) := ⟨fun _ _ h => h, fun _ _ h => h⟩
def sAcc (i : Nat) (a : AF) : SF := fun es S => match a es S with
  | .ok ds S1 => if ds.length ≤ 1000000 then .next (es.set i (.acc ds)) S1 else .bad
  | .exc k fs S1 => .exc k fs es S1
  | .bad => .bad
theorem ds_acc {i : Nat} {x : Str} {es : List Expr} {a : AF} {pos pos' p2 : Pos} (hN : X.N.Nodup) (ha : PA X es (dA Γ ξ a E)) (hi : X.N[i]? = some x := by rfl) (hx : Loc X.env.scope x := by first | exact Or.inl rfl | exact Or.inr rfl) (hs : swapsWith (.List es p2) (some (.Name x pos')) pos.line X.env = pure false := by rfl)
    (hf : X.fn x = true ∨ X.env.scope.names.lookup x = some .local := by first | exact .inl rfl | exact .inr rfl | assumption) : PS X (.Assign [.Name x pos'] (.List es p2) pos) (dS Γ ξ (sAcc i a) E) :=
  (ps_set hN hi hx (pe_lst ha) hs hf).imp fun Dn σ H ⟨W, es, S, P0, ok, fr, h⟩ => by
    refine ⟨W, es, S, P0, ok, fr, ?_⟩
    unfold sAcc at h
    cases e : a es S with
    | bad => rw [e] at h; exact h.elim
    | exc k fs S1 => rw [e] at h; exact fun W1 d H1 l o rx => h W1 σ d H1 l.s o (fr.le l) rx
    | ok ds S1 =>
      rw [e] at h
      simp only at h
      split at h
      case isFalse => exact h.elim
      rename_i hz
      intro W1 vs H1 l1 ok1 rs
      refine ⟨by rw [rs.length, sizeLine_eq]; omega, fun p hp => ?_⟩
      obtain ⟨hF, hP, hM⟩ := ok1.fresh hp
      obtain ⟨own, fr1, o⟩ := fr.le l1
      have np : p ∉ own.map (·.1) := fun q => by
        obtain ⟨z, hz, rfl⟩ := List.mem_map.mp q
        rw [(o.at_ z hz).2] at hP
        cases hP
      have h0 : P0 p = none := by rw [← o.rest p np]; exact hP
      obtain ⟨own', s1, s2, s3⟩ := SlotsR.setAcc (a := p) rs i fr1 o.nd np
      obtain ⟨k1, k2⟩ := ok1.own (own' := own') (a := p) (vs := vs) o hF hM h0 rfl s2 fun q hq => (s3 q hq).elim (fun z => .inl ⟨z, fun e => np (by rw [← e]; exact List.mem_map.mpr ⟨q, z, rfl⟩)⟩) .inr
      exact h _ _ _ (l1.s.trans Wd.own_le) k1 ⟨own', s1.mono Wd.own_le, k2⟩
theorem SlotsR.grow {W : Wd} {ds : List D} {vs : List V} (r : Reps Γ W ds vs) : ∀ {es : List SD} {σ : L2.St} {own : List (Addr × HO)} {i : Nat} {ds0 : List D}, SlotsR Γ ξ W es σ own → es[i]? = some (.acc ds0) → (own.map (·.1)).Nodup →
    ∃ a vs0 own', σ[i]? = some (some (.ref a)) ∧ Reps Γ W ds0 vs0 ∧ (a, .lst vs0) ∈ own ∧ SlotsR Γ ξ W (es.set i (.acc ds)) σ own' ∧ own'.map (·.1) = own.map (·.1) ∧ ∀ p ∈ own', p ∈ own ∧ p.1 ≠ a ∨ p = (a, .lst vs)
  | [], σ, own, i, _, h, hi, nd => by simp at hi
  | .no :: es, σ, own, i, _, h, hi, nd => by
    obtain ⟨o, σ', rfl, h2⟩ := h
    cases i with
    | zero => simp at hi
    | succ i =>
      obtain ⟨a, vs0, own', q1, q2, q3, q4, q5, q6⟩ := SlotsR.grow r h2 (by simpa using hi) nd
      exact ⟨a, vs0, own', by simpa using q1, q2, q3, ⟨o, _, rfl, q4⟩, q5, q6⟩
  | .val d0 :: es, σ, own, i, _, h, hi, nd => by
    obtain ⟨v0, σ', rfl, h2, h3⟩ := h
    cases i with
    | zero => simp at hi
    | succ i =>
      obtain ⟨a, vs0, own', q1, q2, q3, q4, q5, q6⟩ := SlotsR.grow r h3 (by simpa using hi) nd
      exact ⟨a, vs0, own', by simpa using q1, q2, q3, ⟨v0, _, rfl, h2, q4⟩, q5, q6⟩
  | .acc ds1 :: es, σ, own, i, ds0, h, hi, nd => by
    obtain ⟨b, ws, σ', own0, rfl, rfl, h3, h4⟩ := h
    have nd' := List.nodup_cons.mp nd
    cases i with
    | zero =>
      simp at hi
      subst hi
      exact ⟨b, ws, (b, .lst vs) :: own0, rfl, h3, List.mem_cons_self, ⟨b, vs, σ', own0, rfl, rfl, r, h4⟩, rfl, fun p hp => (List.mem_cons.mp hp).elim .inr fun q => .inl ⟨List.mem_cons_of_mem _ q, fun z => nd'.1 (by rw [← z]; exact List.mem_map.mpr ⟨p, q, rfl⟩)⟩⟩
    | succ i =>
      obtain ⟨a, vs0, own', q1, q2, q3, q4, q5, q6⟩ := SlotsR.grow r h4 (by simpa using hi) nd'.2
      have ne : b ≠ a := fun z => nd'.1 (by rw [z]; exact List.mem_map.mpr ⟨_, q3, rfl⟩)
      refine ⟨a, vs0, (b, .lst ws) :: own', by simpa using q1, q2, List.mem_cons_of_mem _ q3, ⟨b, ws, _, own', rfl, rfl, h3, q4⟩, by simp only [List.map_cons]; rw [q5], fun p hp => ?_⟩
      rcases List.mem_cons.mp hp with z | z
      · rw [z]
        exact .inl ⟨List.mem_cons_self, ne⟩
      · exact (q6 p z).elim (fun q => .inl ⟨List.mem_cons_of_mem _ q.1, q.2⟩) .inr
  | .exn k fs :: es, σ, own, i, _, h, hi, nd => by
    obtain ⟨σ', rfl, h2, h3, h4⟩ := h
    cases i with
    | zero => simp at hi
    | succ i =>
      obtain ⟨a, vs0, own', q1, q2, q3, q4, q5, q6⟩ := SlotsR.grow r h4 (by simpa using hi) nd
      exact ⟨a, vs0, own', by simpa using q1, q2, q3, ⟨_, rfl, h2, h3, q4⟩, q5, q6⟩
  | .slf :: es, σ, own, i, _, h, hi, nd => by
    obtain ⟨σ', rfl, h4⟩ := h
    cases i with
    | zero => simp at hi
    | succ i =>
      obtain ⟨a, vs0, own', q1, q2, q3, q4, q5, q6⟩ := SlotsR.grow r h4 (by simpa using hi) nd
      exact ⟨a, vs0, own', by simpa using q1, q2, q3, ⟨_, rfl, q4⟩, q5, q6⟩
/-- x.append(e), x of the frame's own -/
def sApp (i : Nat) (f : EF) : SF := fun es S => match es[i]? with
  | some (.acc ds) => (f es S).toS es fun d S1 => if ds.length < 1000000 then .next (es.set i (.acc (ds ++ [d]))) S1 else .bad
  | _ => .bad
theorem ds_app {i : Nat} {x : Str} {e : Expr} {f : EF} {p1 apos cpos pos : Pos} (hK : X.K = Γ.K)
    (P : PE X (.Call (.Attribute (.Name x p1) "append" apos) [e] [] cpos) (tBM X.K "list" rAppend (tVar i) (tCons (dE Γ ξ f E) tNil))) (hs : swapsWith (.Call (.Attribute (.Name x p1) "append" apos) [e] [] cpos) none pos.line X.env = pure false := by rfl) :
    PS X (.Expr (.Call (.Attribute (.Name x p1) "append" apos) [e] [] cpos) pos) (dS Γ ξ (sApp i f) E) := (ps_expr P hs).imp fun Dn σ H ⟨W, es, S, P0, ok, fr, h⟩ => by
  unfold sApp at h
  split at h
  case h_2 => exact h.elim
  rename_i ds hi
  obtain ⟨own, fr1, o⟩ := id fr
  obtain ⟨a, vs, h1, h2, h3⟩ := fr1.acc hi
  have hH := ok.p _ _ (o.at_ _ h3).2
  refine ⟨.ref a, h1, .inl ⟨rfl, vs, .inl (.inl hH.1)⟩, W, es, S, P0, ok, fr, ContS.toS fr h fun d S1 W1 v H1 le ok1 rv hc => ?_⟩
  split at hc
  case isFalse => exact hc.elim
  rename_i hz
  have frL := fr.le le
  obtain ⟨own1, fr2, o1⟩ := frL
  obtain ⟨a', vs0, own', q1, q2, q3, q4, q5, q6⟩ := SlotsR.grow (ds := ds ++ [d]) (vs := vs ++ [v]) ((h2.mono le.s).append (Reps.cons rv Reps.nil)) fr2 hi o1.nd
  obtain rfl : a = a' := by
    rw [h1] at q1
    exact V.ref.inj (Option.some.inj (Option.some.inj q1))
  have hP : W1.P a = some (.lst vs) := by rw [le.p]; exact (o.at_ _ h3).2
  have hP1 := (o1.at_ _ q3).2
  obtain ⟨hHa, hFa⟩ := ok1.p _ _ hP
  refine ⟨a, vs, v, rfl, rfl, hHa, by rw [h2.length, sizeLine_eq]; omega, ?_⟩
  have hM : ∀ (i : Nat) (b : Addr), W1.m[i]? = some b → b ≠ a := fun i b q z => by
    have := (ok1.m i b q).2
    rw [z, hP] at this
    cases this
  obtain ⟨k1, k2⟩ := ok1.own (own' := own') (a := a) (vs := vs ++ [v]) o1 hFa hM (o1.at_ _ q3).1 rfl (by rw [q5]; exact o1.nd) q6
  exact hc _ σ _ Wd.own_le k1 ⟨own', q4.mono Wd.own_le, k2⟩
end
end DL
set_option Elab.async false
set_option linter.all false
set_option maxRecDepth 100000
set_option maxHeartbeats 2000000
set_option autoImplicit false
/-! The data layer, 6: classes with slots. -/
namespace DL
open PySem L2 PyProof.Rows

section
variable {Γ : Pg} {ξ : Xx} {X : Cx} {E : WX}
/-! ### a def runs at values -/
theorem runA {CX : CXT} {k : Nat} {g : Addr} {sp : Sp} {A : Around} {pins : List (Addr × Obj)} {σ : L2.St} {H : Hp} {s : Shared} {Q : VK} {E : XK} {us : List Value} {vs : List V} (F : FnR X.prog X.w X.K X.mg X.base CX k g sp) (hr : Room k A)
    (e0 : Env0 X.prog X.w X.K X.mg X.base A X.stack s H) (hx : PassesAt CX X σ E) (I : Inv X pins σ H s) (r : Vals vs us) (h : sp vs H Q E) :
    codeAny (model X.prog X.w) A (.call (.ref g) ⟨us, []⟩) (fun r s' => match r with | .ok (.ret v) => EP X pins σ Q v s' | .ok _ => False | .error e => X.xe e s') s :=
  codeAny_mono (F A X.stack s H us vs Q E hr e0 r h) fun r s' hq => match r, hq with
    | .error e, hq => hx pins H s e s' I hq
    | .ok (.ret _), hq => I.after hq
    | .ok .next, hq => hq.elim
    | .ok .brk, hq => hq.elim
    | .ok .cont, hq => hq.elim
/-- what a caller wants of a method, a getter -/
structure CalR (Γ : Pg) (P : Program) (w : World) (mg : Str → Option Value) (base : Heap) (k : Nat) (g : Addr) (n : Nat) (den : List D → Store → Res) : Prop where
  run : FnR P w Γ.K mg base (L2.CX P w) k g (spD Γ n den)
theorem CalR.mono {P : Program} {w : World} {mg : Str → Option Value} {base : Heap} {j k n : Nat} {g : Addr} {den : List D → Store → Res} (c : CalR Γ P w mg base j g n den) (h : j ≤ k) : CalR Γ P w mg base k g n den := ⟨c.run.mono h⟩

/-! ### instances with slots -/
structure SlF (Γ : Pg) (k : Nat) : Prop where
  sc : SlX.SCls Γ.K (Γ.cl k)
  si : SlX.SIsi Γ.K (Γ.cl k)
def SlotF (Γ : Pg) (k : Nat) (f : Str) (i : Nat) : Prop := ∃ p, SlX.Slot1 Γ.K (Γ.cl k) f p i
theorem slt_H {F H : Hp} (e : ∀ a o, F a = some o → H a = some o) {a C dx : Addr} {vs : List (Option V)} (h : SlX.Slt F a C dx vs) : SlX.Slt H a C dx vs := by
  rcases h with ⟨h, z⟩ | ⟨h, z⟩
  · exact .inl ⟨e _ _ h, z⟩
  · exact .inr ⟨e _ _ h, e _ _ z⟩
theorem asO {W : Wd} {S : Store} {H : Hp} {k : Nat} {ds : List D} {v : V} (ok : Ok Γ W S H) (r : Rep Γ W (.obj k ds) v) : ∃ a dx vs, v = .ref a ∧ SlX.Slt H a (Γ.cl k) dx (vs.map some) ∧ Reps Γ W ds vs := by
  simp only [Rep] at r
  obtain ⟨a, dx, vs, h1, h2, h3⟩ := r
  exact ⟨a, dx, vs, h1, slt_H ok.f h2, h3⟩
def gSlot (k i : Nat) : D → Store → Res := fun d S => match d with
  | .obj k' ds => if k' = k then match ds[i]? with
    | some d => .ok d S
    | none => .bad
    else .bad
  | _ => .bad
theorem de_slot {e : Expr} {f : Str} {fe : EF} {k i : Nat} {pos : Pos} (hK : X.K = Γ.K) (c : SlF Γ k) (t : SlotF Γ k f i) (he : PE X e (dE Γ ξ fe E)) (hb : attributeBase e f X.env (eval e X.env) = eval e X.env := by rfl) :
    PE X (.Attribute e f pos) (dE Γ ξ (eOp1 (gSlot k i) fe) E) := (SlX.pe_sl he hb).imp fun σ H Q ⟨W, es, S, P0, ok, fr, h⟩ => ⟨W, es, S, P0, ok, fr, h.bind fun d S1 W1 v H1 le ok1 rv h1 => by
  replace h1 := Cont.nox (E' := fun _ _ _ => False) h1
  cases d with
  | obj k' ds =>
    simp only [gSlot] at h1
    split at h1
    · rename_i hk
      subst hk
      split at h1
      · rename_i d hd
        obtain ⟨a, dx, vs, rfl, h2, h3⟩ := asO ok1 rv
        obtain ⟨w, hw, rw'⟩ := h3.get hd
        obtain ⟨p, t⟩ := t
        exact ⟨a, Γ.cl k', dx, p, _, i, w, rfl, h2, by rw [hK]; exact c.sc, by rw [hK]; exact t, by rw [List.getElem?_map, hw]; rfl, h1 W1 _ H1 (Le.refl _) ok1 rw'⟩
      · exact h1.elim
    · exact h1.elim
  | _ => exact h1.elim⟩
/-- a property of such an instance -/
structure PropF (Γ : Pg) (k : Nat) (f : Str) (g : Addr) : Prop where
  ex : ∃ p rest, PySem.W.findIn Γ.K (.ref (Γ.cl k)) f = some (some (.ref p)) ∧ PySem.W.specialIn Γ.K (.ref p) "__get__" = some (some (.builtin "property.__get__")) ∧ PySem.W.takesIn Γ.K (.ref p) = some true ∧ PySem.W.recIn Γ.K p "property" = some (.ref g :: rest)
def isObj (k : Nat) : D → Bool
  | .obj k' _ => k' == k
  | _ => false
def gProp (k : Nat) (den : List D → Store → Res) : D → Store → Res := fun d S => if isObj k d then chk 1 den [d] S else .bad
theorem isObj_of {k : Nat} {d : D} (h : isObj k d = true) : ∃ ds, d = .obj k ds := by
  cases d with
  | obj k' ds =>
    have e : k' = k := by simpa [isObj] using h
    subst e
    exact ⟨ds, rfl⟩
  | _ => cases h
theorem de_prop {e : Expr} {f : Str} {fe : EF} {k j n : Nat} {g : Addr} {pos : Pos} {P : Program} {w : World} {mg : Str → Option Value} {base : Heap} {den : List D → Store → Res} (hh : Here Γ P w mg base n X E) (c : SlF Γ k) (t : PropF Γ k f g) (G : CalR Γ P w mg base j g 1 den)
    (he : PE X e (dE Γ ξ fe E)) (hj : j + 1 ≤ n := by decide) (hb : attributeBase e f X.env (eval e X.env) = eval e X.env := by rfl) : PE X (.Attribute e f pos) (dE Γ ξ (eOp1 (gProp k den) fe) E) := by
  obtain ⟨h1, h2, h3, h4, h5, h6, h7⟩ := hh
  subst h1 h2 h4 h5
  obtain ⟨p, rest, t1, t2, t3, t4⟩ := t.ex
  refine (SlX.pe_propSl (CX := L2.CX X.prog X.w) (C := Γ.cl k) (E := fun _ _ _ => False) (sp := spD Γ 1 den) (n := j) (g := g) he (by rw [h3]; exact c.sc) (by rw [h3]; exact t1) (by rw [h3]; exact t2) (by rw [h3]; exact t3) ⟨rest, by rw [h3]; exact t4⟩ (by rw [h3]; exact G.run) (h6.mono hj) (fun H s e s' h => by
    obtain ⟨_, _, _, _, _, _, _, _, _, _, _, _, z⟩ := h
    exact z.elim) hb).imp fun σ H Q ⟨W, es, S, P0, ok, fr, h⟩ => ⟨W, es, S, P0, ok, fr, h.bind fun d S1 W1 v H1 le ok1 rv h1 => ?_⟩
  replace h1 := Cont.nox (E' := fun _ _ _ => False) h1
  unfold gProp at h1
  split at h1
  · rename_i hd
    obtain ⟨ds, rfl⟩ := isObj_of hd
    obtain ⟨a, dx, vs, rfl, q2, q3⟩ := asO ok1 rv
    exact ⟨a, dx, _, rfl, q2, spD_of ok1 (Reps.cons rv Reps.nil) h1⟩
  · exact h1.elim

/-! ### methods -/
def eMeth (k n : Nat) (den : List D → Store → Res) (f : EF) (a : AF) : EF := fun es S => (f es S).bind fun d S1 => if isObj k d then (a es S1).bind fun ds S2 => chk n den (d :: ds) S2 else .bad
theorem de_meth {o e : Expr} {es : List Expr} {m : Str} {fo : EF} {fa : AF} {k j n l : Nat} {g : Addr} {pos apos : Pos} {P : Program} {w : World} {mg : Str → Option Value} {base : Heap} {den : List D → Store → Res} {pl : Sem Bool} (hh : Here Γ P w mg base l X E) (c : SlF Γ k) (hm : L2.Meth Γ.K (Γ.cl k) m g)
    (G : CalR Γ P w mg base j g n den) (ho : PE X o (dE Γ ξ fo E)) (ha : PA X (e :: es) (dA Γ ξ fa E)) (hj : j ≤ l := by decide)
    (hst : starEach (e :: es) X.env = (false, eval e X.env) :: starEach es X.env := by rfl) (hpl : (backTo pos (starEach es X.env)).any (·.1) = false := by rfl)
    (ht : eval (.Call (.Attribute o m apos) (e :: es) [] pos) X.env = (do
      let ov ← eval o X.env
      standAt apos.atName
      let (f, first) ← holding [ov] (getMethod ov m pl)
      callWith pos f first (backTo pos (starEach (e :: es) X.env)) (backToKw pos (keywordEach [] X.env))) := by rfl) :
    PE X (.Call (.Attribute o m apos) (e :: es) [] pos) (dE Γ ξ (eMeth k n den fo fa) E) := by
  obtain ⟨h1, h2, h3, h4, h5, h6, h7⟩ := hh
  subst h1 h2 h4 h5
  refine ⟨fun pins s σ H Q I ⟨W, ds, S, P0, ok, fr, h⟩ => ?_⟩
  refine PySem.W.methodCall_KW (pl := pl) (thn (ho.run pins s σ H (fun x H1 => ∃ W1 S1 d, Ok Γ W1 S1 H1 ∧ Frame Γ ξ W1 ds σ P0 ∧ Rep Γ W1 d x ∧ Cont Γ (if isObj k d then (fa ds S1).bind fun es S2 => chk n den (d :: es) S2 else .bad) W1 Q (at_ E σ)) I
    ⟨W, ds, S, P0, ok, fr, h.bind fun d S1 W1 v H1 le ok1 rv h1 => ⟨W1, S1, d, ok1, fr.le le, rv, h1⟩⟩) fun u s1 ⟨x, H1, I1, rx, W1, S1, d, ok1, fr1, rd, h1⟩ => ?_) ht
  split at h1
  case isFalse => exact h1.elim
  rename_i hd
  obtain ⟨fs, rfl⟩ := isObj_of hd
  obtain ⟨a, dx, vs, rfl, q2, q3⟩ := asO ok1 rd
  obtain rfl : u = Value.ref a := rx
  have hm' : L2.Meth X.K (Γ.cl k) m g := by rw [h3]; exact hm
  refine SlX.getmethsl_ok I1 q2 (by rw [h3]; exact c.sc) hm' ?_
  refine PySem.W.callWith_K (first := [.ref a]) (h₀ := X.base) I.ok.mod.kin hm'.kp (thn (ha.run pos pins s1 σ H1 (fun vs H2 => ∃ W2 S2 es, Ok Γ W2 S2 H2 ∧ Reps Γ W2 es vs ∧ Rep Γ W2 (.obj k fs) (.ref a) ∧ Cont Γ (chk n den (.obj k fs :: es) S2) W2 Q (at_ E σ)) I1
    ⟨W1, ds, S1, P0, ok1, fr1, ContA.bind h1 fun es S2 W2 vs H2 le ok2 rs h2 => ⟨W2, S2, es, ok2, rs, rd.mono le.s, h2⟩⟩) fun us s2 ⟨ws, H2, I2, r, W2, S2, es2, ok2, rs, rd2, h2⟩ => ⟨I2.kIn, ?_⟩) hst hpl
  exact wpAny_call (runA (us := .ref a :: us) (vs := .ref a :: ws) (by rw [h3]; exact G.run) (h6.mono hj) I2.env0 (pass_of h7 σ) I2 (.cons rfl r) (spD_of ok2 (Reps.cons rd2 rs) h2))
theorem de_meth0 {o : Expr} {m : Str} {fo : EF} {k j l : Nat} {g : Addr} {pos apos : Pos} {P : Program} {w : World} {mg : Str → Option Value} {base : Heap} {den : List D → Store → Res} {pl : Sem Bool} (hh : Here Γ P w mg base l X E) (c : SlF Γ k) (hm : L2.Meth Γ.K (Γ.cl k) m g)
    (G : CalR Γ P w mg base j g 1 den) (ho : PE X o (dE Γ ξ fo E)) (hj : j ≤ l := by decide)
    (ht : eval (.Call (.Attribute o m apos) [] [] pos) X.env = (do
      let ov ← eval o X.env
      standAt apos.atName
      let (f, first) ← holding [ov] (getMethod ov m pl)
      callWith pos f first (backTo pos (starEach [] X.env)) (backToKw pos (keywordEach [] X.env))) := by rfl) :
    PE X (.Call (.Attribute o m apos) [] [] pos) (dE Γ ξ (eMeth k 1 den fo aNil) E) := by
  obtain ⟨h1, h2, h3, h4, h5, h6, h7⟩ := hh
  subst h1 h2 h4 h5
  refine ⟨fun pins s σ H Q I ⟨W, ds, S, P0, ok, fr, h⟩ => ?_⟩
  refine PySem.W.methodCall_KW (pl := pl) (thn (ho.run pins s σ H (fun x H1 => ∃ W1 S1 d, Ok Γ W1 S1 H1 ∧ Rep Γ W1 d x ∧ Cont Γ (if isObj k d then (aNil ds S1).bind fun es S2 => chk 1 den (d :: es) S2 else .bad) W1 Q (at_ E σ)) I
    ⟨W, ds, S, P0, ok, fr, h.bind fun d S1 W1 v H1 le ok1 rv h1 => ⟨W1, S1, d, ok1, rv, h1⟩⟩) fun u s1 ⟨x, H1, I1, rx, W1, S1, d, ok1, rd, h1⟩ => ?_) ht
  split at h1
  case isFalse => exact h1.elim
  rename_i hd
  obtain ⟨fs, rfl⟩ := isObj_of hd
  obtain ⟨a, dx, vs, rfl, q2, q3⟩ := asO ok1 rd
  obtain rfl : u = Value.ref a := rx
  have hm' : L2.Meth X.K (Γ.cl k) m g := by rw [h3]; exact hm
  refine SlX.getmethsl_ok I1 q2 (by rw [h3]; exact c.sc) hm' ?_
  exact PySem.W.callWith_K0 (first := [.ref a]) I1.kIn hm'.kp (wpAny_call (runA (us := [.ref a]) (vs := [.ref a]) (by rw [h3]; exact G.run) (h6.mono hj) I1.env0 (pass_of h7 σ) I1 (.cons rfl .nil) (spD_of ok1 (Reps.cons rd Reps.nil) h1)))

/-! ### operators of one's own -/
def gOwn (k : Nat) (den : List D → Store → Res) : D → D → Store → Res := fun x y S => if isObj k x then match y with
  | .obj k' _ => if k' = k then chk 2 den [x, y] S else .bad
  | .int _ => chk 2 den [x, y] S
  | _ => .bad
  else .bad
/-- what is asked of the class for a binary operator: its own def, and that ints have the reflected way no better -/
structure BinF (Γ : Pg) (k : Nat) (op : Operator) (g : Addr) : Prop where
  hc : PySem.W.selfFirst Γ.K (Γ.cl k) = true
  hs : PySem.W.findIn Γ.K (.ref (Γ.cl k)) (PySem.dunder op.info.2) = some (some (.ref g))
  hf : PySem.W.isFn Γ.K (.ref g) = true
  hr : ∃ rc, PySem.W.findIn Γ.K (.ref (Γ.cl k)) (dunderR op.info.2) = some rc ∧ (rc = none ∨ ∃ g : Addr, rc = some (.ref g))
  hi : ∃ fo ro, PySem.W.findIn Γ.K (.type "int") (PySem.dunder op.info.2) = some fo ∧ PySem.W.findIn Γ.K (.type "int") (dunderR op.info.2) = some ro
  hsub : PySem.W.subIn Γ.K (.type "int") (.ref (Γ.cl k)) = some false
theorem op_own {op : Operator} {k j n : Nat} {g : Addr} {P : Program} {w : World} {mg : Str → Option Value} {base : Heap} {den : List D → Store → Res} (hh : Here Γ P w mg base n X E) (b : BinF Γ k op g) (G : CalR Γ P w mg base j g 2 den) (hj : j ≤ n := by decide) : OpR X (binaryOp op) (rD Γ (gOwn k den)) := by
  obtain ⟨h1, h2, h3, h4, h5, h6, h7⟩ := hh
  subst h1 h2 h4 h5
  intro pins s σ H x y v u Q I rx ry ⟨W, S, a, b', ok, ra, rb, h⟩
  unfold gOwn at h
  split at h
  case isFalse => exact h.elim
  rename_i hx
  obtain ⟨ds, rfl⟩ := isObj_of hx
  obtain ⟨p, dx, vs, rfl, q2, q3⟩ := asO ok ra
  obtain rfl : v = Value.ref p := rx
  obtain ⟨m, hF⟩ := I.fr
  obtain ⟨sl, od, _, J, _⟩ := SlX.slt_inst I q2
  have run : ∀ (y' : V) (u' : Value), RelV y' u' → Rep Γ W b' y' → Cont Γ (chk 2 den [.obj k ds, b'] S) W Q (fun _ _ _ => False) → wpAny (model X.prog X.w) X.A (call (.ref g) [.ref p, u']) (PySem.W.CmpBack (EP X pins σ Q)) X.xe s := fun y' u' ry' rb' h' =>
    wpAny_mono (wpAny_call (runA (us := [.ref p, u']) (vs := [.ref p, y']) (E := fun _ _ _ => False) (by rw [h3]; exact G.run) (h6.mono hj) I.env0 (fun _ _ _ _ _ _ z => by
      obtain ⟨_, _, _, _, _, _, _, _, _, _, _, _, z⟩ := z
      exact z.elim) I (.cons rfl (.cons ry' .nil)) (spD_of ok (Reps.cons ra (Reps.cons rb' Reps.nil)) h'))) (fun w s' z => by
        obtain ⟨z', H', I', rz, qz⟩ := z
        exact SlX.cmpback rz ⟨z', H', I', rz, qz⟩) fun _ _ x => x
  split at h
  · rename_i k' ds'
    split at h
    case isFalse => exact h.elim
    rename_i hk
    subst hk
    obtain ⟨p', dx', vs', rfl, q2', q3'⟩ := asO ok rb
    obtain rfl : u = Value.ref p' := ry
    obtain ⟨sl', od', _, J', _⟩ := SlX.slt_inst I q2'
    exact PySem.W.binop_K hF I.ok.mod.kin J J'.type (by rw [h3]; exact b.hc) (by rw [h3]; exact b.hs) (by rw [h3]; exact b.hf) (run (.ref p') (.ref p') rfl rb h)
  · rename_i i
    have e : y = .int i := by simpa only [Rep] using rb
    subst e
    obtain ⟨t, rfl⟩ := ry
    obtain ⟨rc, r1, r2⟩ := b.hr
    obtain ⟨fo, ro, i1, i2⟩ := b.hi
    exact PySem.W.ksp_binT hF I.ok.mod.kin J rfl (by rw [h3]; exact b.hc) (by rw [h3]; exact b.hs) (by rw [h3]; exact b.hf) (by rw [h3]; exact r1) r2 (by rw [h3]; exact i1) (by rw [h3]; exact i2) (by rw [h3]; exact b.hsub) (run (.int i) (.int i t) ⟨t, rfl⟩ rb h)
  · exact h.elim
/-- -x -/
def gOwn1 (k : Nat) (den : List D → Store → Res) : D → Store → Res := fun x S => if isObj k x then chk 1 den [x] S else .bad
theorem un_own {k j n : Nat} {g : Addr} {P : Program} {w : World} {mg : Str → Option Value} {base : Heap} {den : List D → Store → Res} (hh : Here Γ P w mg base n X E) (hs : PySem.W.findIn Γ.K (.ref (Γ.cl k)) "__neg__" = some (some (.ref g))) (hf : PySem.W.isFn Γ.K (.ref g) = true)
    (G : CalR Γ P w mg base j g 1 den) (hj : j ≤ n := by decide) : UnR X (unaryOp .USub) (rU1 Γ (gOwn1 k den)) := by
  obtain ⟨h1, h2, h3, h4, h5, h6, h7⟩ := hh
  subst h1 h2 h4 h5
  intro pins s σ H x v Q I rx ⟨W, S, a, ok, ra, h⟩
  unfold gOwn1 at h
  split at h
  case isFalse => exact h.elim
  rename_i hx
  obtain ⟨ds, rfl⟩ := isObj_of hx
  obtain ⟨p, dx, vs, rfl, q2, q3⟩ := asO ok ra
  obtain rfl : v = Value.ref p := rx
  obtain ⟨m, hF⟩ := I.fr
  obtain ⟨sl, od, _, J, _⟩ := SlX.slt_inst I q2
  exact PySem.W.ksp_neg hF I.ok.mod.kin J (by rw [h3]; exact hs) (by rw [h3]; exact hf) (wpAny_call (runA (us := [.ref p]) (vs := [.ref p]) (E := fun _ _ _ => False) (by rw [h3]; exact G.run) (h6.mono hj) I.env0 (fun _ _ _ _ _ _ z => by
      obtain ⟨_, _, _, _, _, _, _, _, _, _, _, _, z⟩ := z
      exact z.elim) I (.cons rfl .nil) (spD_of ok (Reps.cons ra Reps.nil) h)))
end
end DL
set_option Elab.async false
set_option linter.all false
set_option maxRecDepth 100000
set_option maxHeartbeats 2000000
set_option autoImplicit false
/-! The data layer, 7: making an instance with slots. -/
namespace DL
open PySem L2 PyProof.Rows

section
variable {Γ : Pg} {ξ : Xx} {X : Cx} {E : WX}
/-! ### a change beside the world -/
theorem Ok.swap {W : Wd} {S : Store} {H : Hp} (ok : Ok Γ W S H) {x : Addr} (o : HO) (hF : W.F x = none) (hM : ∀ (i : Nat) (a : Addr), W.m[i]? = some a → a ≠ x) : Ok Γ { W with P := upd W.P x o } S (upd H x o) := by
  refine ⟨fun a u e => ?_, fun a u e => ?_, fun i a e => ⟨(ok.m i a e).1, ?_⟩, ok.nd, ok.len, fun i a ds e1 e2 => ?_⟩
  · rw [upd_ne (ne_of_none (show W.F a = some u from e) hF)]
    exact ok.f a u e
  · by_cases z : a = x
    · subst z
      have e : upd W.P a o a = some u := e
      rw [upd_same] at e ⊢
      exact ⟨e, hF⟩
    · have e : upd W.P x o a = some u := e
      rw [upd_ne z] at e ⊢
      exact ok.p a u e
  · show upd W.P x o a = none
    rw [upd_ne (hM i a e)]
    exact (ok.m i a e).2
  · obtain ⟨us, q3, q4⟩ := ok.c i a ds e1 e2
    exact ⟨us, by rw [upd_ne (hM i a e1)]; exact q3, repsP W q4⟩
/-- less is kept apart -/
theorem Ok.less {W : Wd} {S : Store} {H : Hp} (ok : Ok Γ W S H) {P1 : Hp} (h : ∀ a u, P1 a = some u → W.P a = some u) : Ok Γ { W with P := P1 } S H := by
  refine ⟨ok.f, fun a u e => ok.p a u (h a u e), fun i a e => ⟨(ok.m i a e).1, ?_⟩, ok.nd, ok.len, fun i a ds e1 e2 => ?_⟩
  · show P1 a = none
    cases q : P1 a with
    | none => rfl
    | some u =>
      have := h a u q
      rw [(ok.m i a e).2] at this
      cases this
  · obtain ⟨us, q3, q4⟩ := ok.c i a ds e1 e2
    exact ⟨us, q3, repsP W q4⟩
theorem SlotsR.p {W : Wd} {P1 : Hp} {es : List SD} {σ : L2.St} {own : List (Addr × HO)} (h : SlotsR Γ ξ W es σ own) : SlotsR Γ ξ { W with P := P1 } es σ own := SlotsR.mono (W := W) (W' := { W with P := P1 }) ⟨fun _ _ h => h, fun _ _ h => h⟩ h
theorem Frame.swap {W : Wd} {es : List SD} {σ : L2.St} {P0 : Hp} {x : Addr} {u : HO} (fr : Frame Γ ξ W es σ P0) (h0 : P0 x = some u) (o : HO) : Frame Γ ξ { W with P := upd W.P x o } es σ (upd P0 x o) := by
  obtain ⟨own, h1, h2⟩ := fr
  refine ⟨own, h1.p, h2.nd, fun p hp => ?_, fun a ha => ?_⟩
  · obtain ⟨q1, q2⟩ := h2.at_ p hp
    have n : p.1 ≠ x := fun z => by
      rw [z, h0] at q1
      cases q1
    exact ⟨by rw [upd_ne n]; exact q1, by show upd W.P x o p.1 = _; rw [upd_ne n]; exact q2⟩
  · show upd W.P x o a = _
    by_cases z : a = x
    · rw [z, upd_same, upd_same]
    · rw [upd_ne z, upd_ne z]
      exact h2.rest a ha
theorem OwnP.of0 {W : Wd} {own : List (Addr × HO)} {P0 : Hp} (o : OwnP W own P0) {a : Addr} {u : HO} (h : P0 a = some u) : W.P a = some u := by
  rw [o.rest a fun ha => ?_]
  · exact h
  · obtain ⟨p, hp, rfl⟩ := List.mem_map.mp ha
    rw [(o.at_ p hp).1] at h
    cases h
theorem repP {W : Wd} {P1 : Hp} {d : D} {v : V} (h : Rep Γ W d v) : Rep Γ { W with P := P1 } d v := Rep.mono (W := W) (W' := { W with P := P1 }) ⟨fun _ _ h => h, fun _ _ h => h⟩ h

/-! ### __init__ of a class with two slots, which it fills at its end -/
def startI (N : Nat) (ds : List D) : List SD := .slf :: (ds.map .val ++ List.replicate (N - (ds.length + 1)) .no)
def isSlf : List SD → Bool
  | .slf :: _ => true
  | _ => false
theorem isSlf_at {es : List SD} (h : isSlf es = true) : es[0]? = some SD.slf := by
  unfold isSlf at h
  split at h
  · rfl
  · cases h
/-- the two fields' places: in order, or the other way round -/
def ix1 (sw : Bool) : Nat := bif sw then 1 else 0
def ix2 (sw : Bool) : Nat := bif sw then 0 else 1
def ord {α : Type} (sw : Bool) (a b : α) : List α := bif sw then [b, a] else [a, b]
def initD (sw : Bool) (N : Nat) (body : SF) (f1 f2 : EF) : List D → Store → ResA := fun ds S => match body (startI N ds) S with
  | .next es S1 => if isSlf es = true then (f1 es S1).bindA fun d1 S2 => (f2 es S2).bindA fun d2 S3 => .ok (ord sw d1 d2) S3 else .bad
  | .exc k fs _ S1 => .exc k fs S1
  | _ => .bad
/-- an __init__'s promise: n values beside self -/
def spI (Γ : Pg) (k n : Nat) (F : List D → Store → ResA) : Sp := fun vs H Q E => ∃ (x dx : Addr) (ws : List V) (W : Wd) (S : Store) (ds : List D), vs = .ref x :: ws ∧ Ok Γ W S H ∧ Reps Γ W ds ws ∧ ds.length = n ∧
  W.F x = none ∧ W.F dx = none ∧ W.P x = none ∧ W.P dx = none ∧ (∀ (i : Nat) (a : Addr), W.m[i]? = some a → a ≠ x ∧ a ≠ dx) ∧ dx ≠ x ∧ H x = some (.ins (Γ.cl k) dx []) ∧ H dx = some (.own x) ∧
  match F ds S with
  | .ok fs S1 => ∀ W' H' us, Le W W' → Ok Γ W' S1 H' → W'.F x = none → W'.F dx = none → (∀ (i : Nat) (a : Addr), W'.m[i]? = some a → a ≠ x ∧ a ≠ dx) → Reps Γ W' fs us → SlX.Slt H' x (Γ.cl k) dx (us.map some) → Q .non H'
  | .exc c fs S1 => ∀ W' d H', Le W W' → Ok Γ W' S1 H' → RepX (Γ := Γ) W' fs d → E (.ref (Γ.cl c)) d H'
  | .bad => False
theorem spI_len {k n : Nat} {F : List D → Store → ResA} {ps : List Str} (hn : ps.length = n + 1) : ∀ vs H Q E, spI Γ k n F vs H Q E → vs.length = ps.length := fun vs H Q E ⟨x, dx, ws, W, S, ds, e, ok, r, hl, _⟩ => by rw [e, List.length_cons, r.length, hl, hn]
theorem di_cons {st : Stmt} {rest : List Stmt} {f g : SF} {u : TS} (h1 : PS X st (dS Γ ξ f E)) (h2 : PSs X rest (tSeq (dS Γ ξ g E) u)) : PSs X (st :: rest) (tSeq (dS Γ ξ (sSeq f g) E) u) :=
  (pss_cons h1 h2).imp fun Dn σ H h => (tSeq_of (E := E) (f := f) (g := g) (Dn := { Dn with nx := u Dn }) h : _)
theorem di_tail {rest : List Stmt} {u : TS} (h : PSs X rest u) : PSs X rest (tSeq (dS Γ ξ sPass E) u) := h.imp fun Dn σ H ⟨W, es, S, P0, ok, fr, h⟩ => h W σ H (LeS.refl W) ok fr
theorem enterI {sw : Bool} {N k n : Nat} {body : SF} {f1 f2 : EF} {n1 n2 : Str} {vs : List V} {H : Hp} {Q : VK} {Ex : XK} {names : List Str} {K : PySem.W.Frag} (hK : K = Γ.K) (hN : names.length = N) (c : SlF Γ k) (t1 : SlotF Γ k n1 (ix1 sw)) (t2 : SlotF Γ k n2 (ix2 sw)) (h : spI Γ k n (initD sw N body f1 f2) vs H Q Ex) :
    ∃ ξ : Xx, tSeq (dS Γ ξ body (fun c d _ H => Ex c d H)) (tSeq (SlX.sSl K (tVar 0) (dE Γ ξ f1 (fun c d _ H => Ex c d H)) n1) (SlX.sSl K (tVar 0) (dE Γ ξ f2 (fun c d _ H => Ex c d H)) n2)) { nx := fun _ H' => Q .non H', rt := Q } (L2.start names vs) H := by
  subst hK
  obtain ⟨x, dx, ws, W, S, ds, rfl, ok, r, hl, hFx, hFd, hPx, hPd, hM, hne, hHx, hHd, h⟩ := h
  refine ⟨⟨x, .none, none⟩, ?_⟩
  have Mx : ∀ {W' : Wd} {S' : Store} {H' : Hp} {o : HO} {a : Addr}, Ok Γ W' S' H' → W'.P a = some o → ∀ (i : Nat) (b : Addr), W'.m[i]? = some b → b ≠ a := fun {W' S' H' o a} ok' hp i b hb z => by
    have := (ok'.m i b hb).2
    rw [z, hp] at this
    cases this
  have e1 : upd H dx (.own x) = H := by
    funext b
    by_cases z : b = dx
    · rw [z, upd_same, hHd]
    · rw [upd_ne z]
  have e2 : upd H x (.ins (Γ.cl k) dx []) = H := by
    funext b
    by_cases z : b = x
    · rw [z, upd_same, hHx]
    · rw [upd_ne z]
  have okA := ok.swap (x := dx) (.own x) hFd fun i a ha => (hM i a ha).2
  rw [e1] at okA
  have okB := okA.swap (x := x) (.ins (Γ.cl k) dx []) hFx fun i a ha => (hM i a ha).1
  rw [e2] at okB
  -- the world within
  let PB : Hp := upd (upd W.P dx (.own x)) x (.ins (Γ.cl k) dx [])
  have hPBx : PB x = some (.ins (Γ.cl k) dx []) := upd_same
  have hPBd : PB dx = some (.own x) := by
    show upd _ x _ dx = _
    rw [upd_ne hne, upd_same]
  refine ⟨{ W with P := PB }, startI N ds, S, PB, okB, ⟨[], ?_, ⟨List.nodup_nil, fun p hp => absurd hp (by simp), fun a _ => rfl⟩⟩, ?_⟩
  · unfold startI L2.start
    have hlen : (V.ref x :: ws).length = ds.length + 1 := by rw [List.length_cons, r.length]
    rw [hN, hlen]
    exact ⟨_, rfl, (slots_start _ r).p⟩
  unfold initD at h
  cases eb : body (startI N ds) S with
  | bad => rw [eb] at h; exact h.elim
  | brk es S1 => rw [eb] at h; exact h.elim
  | ct es S1 => rw [eb] at h; exact h.elim
  | ret d S1 => rw [eb] at h; exact h.elim
  | exc c fs es S1 =>
    rw [eb] at h
    intro W' σ' d H' l ok' fr' rx
    obtain ⟨own, _, o⟩ := fr'
    have hPW : ∀ a u, W.P a = some u → PB a = some u := fun a u q => by
      have n1 : a ≠ x := ne_of_none q hPx
      have n2 : a ≠ dx := ne_of_none q hPd
      show upd (upd W.P dx _) x _ a = _
      rw [upd_ne n1, upd_ne n2]
      exact q
    exact h { W' with P := W.P } d H' ⟨l.f, rfl, l.m⟩ (ok'.less fun a u q => o.of0 (hPW a u q)) (repX_le rx ⟨fun _ _ h => h, fun _ _ h => h⟩)
  | next es S1 =>
    rw [eb] at h
    simp only at h
    by_cases hs : isSlf es = true
    case neg => rw [if_neg hs] at h; exact h.elim
    rw [if_pos hs] at h
    intro W1 σ1 H1 l1 ok1 fr1
    have hσ : σ1[0]? = some (some (V.ref x)) := by
      obtain ⟨own, q, _⟩ := fr1
      exact q.slf (isSlf_at hs)
    have P1x : W1.P x = some (.ins (Γ.cl k) dx []) := by obtain ⟨own, _, o⟩ := fr1; exact o.of0 hPBx
    have P1d : W1.P dx = some (.own x) := by obtain ⟨own, _, o⟩ := fr1; exact o.of0 hPBd
    have hPW : ∀ a u, W.P a = some u → PB a = some u := fun a u q => by
      have n1 : a ≠ x := ne_of_none q hPx
      have n2 : a ≠ dx := ne_of_none q hPd
      show upd (upd W.P dx _) x _ a = _
      rw [upd_ne n1, upd_ne n2]
      exact q
    have P1W : ∀ a u, W.P a = some u → W1.P a = some u := fun a u q => by obtain ⟨own, _, o⟩ := fr1; exact o.of0 (hPW a u q)
    refine ⟨W1, es, S1, PB, ok1, fr1, ?_⟩
    cases ef : f1 es S1 with
    | bad => rw [ef] at h; exact h.elim
    | exc c fs S2 =>
      rw [ef] at h
      intro W2 d H2 l2 ok2 rx
      exact h { W2 with P := W.P } d H2 ⟨fun a o q => l2.f _ _ (l1.f _ _ q), rfl, fun i a q => l2.m _ _ (l1.m _ _ q)⟩ (ok2.less fun a u q => by rw [l2.p]; exact P1W a u q) (repX_le rx ⟨fun _ _ h => h, fun _ _ h => h⟩)
    | ok d1 S2 =>
      rw [ef] at h
      intro W2 v1 H2 l2 ok2 r1
      have P2x : W2.P x = some (.ins (Γ.cl k) dx []) := by rw [l2.p]; exact P1x
      have P2d : W2.P dx = some (.own x) := by rw [l2.p]; exact P1d
      have fr2 := fr1.le l2
      obtain ⟨p1, t1⟩ := t1
      refine ⟨.ref x, hσ, x, Γ.cl k, dx, p1, [], ix1 sw, rfl, .inl ⟨(ok2.p _ _ P2x).1, rfl⟩, c.sc, t1, ?_⟩
      -- behind the first store
      have okC := (ok2.swap (x := dx) (.xd []) (ok2.p _ _ P2d).2 (Mx ok2 P2d)).swap (x := x) (SlX.SlO x (Γ.cl k) dx (SlX.putS (ix1 sw) v1 [])) (ok2.p _ _ P2x).2 (fun i b hb => Mx ok2 P2x i b hb)
      have frC := (fr2.swap hPBd (.xd [])).swap (x := x) (u := .ins (Γ.cl k) dx []) (by rw [upd_ne hne.symm]; exact hPBx) (SlX.SlO x (Γ.cl k) dx (SlX.putS (ix1 sw) v1 []))
      refine ⟨_, es, S2, _, okC, frC, ?_⟩
      simp only [Res.bindA] at h
      cases eg : f2 es S2 with
      | bad => rw [eg] at h; exact h.elim
      | exc c fs S3 =>
        rw [eg] at h
        intro W3 d H3 l3 ok3 rx
        refine h { W3 with P := W.P } d H3 ⟨fun a o q => l3.f _ _ (l2.f _ _ (l1.f _ _ q)), rfl, fun i a q => l3.m _ _ (l2.m _ _ (l1.m _ _ q))⟩ (ok3.less fun a u q => ?_) (repX_le rx ⟨fun _ _ h => h, fun _ _ h => h⟩)
        have n1 : a ≠ x := ne_of_none q hPx
        have n2 : a ≠ dx := ne_of_none q hPd
        rw [l3.p]
        show upd (upd W2.P dx _) x _ a = _
        rw [upd_ne n1, upd_ne n2, l2.p]
        exact P1W a u q
      | ok d2 S3 =>
        rw [eg] at h
        intro W3 v2 H3 l3 ok3 r2
        have P3x : W3.P x = some (SlX.SlO x (Γ.cl k) dx (SlX.putS (ix1 sw) v1 [])) := by rw [l3.p]; exact upd_same
        have P3d : W3.P dx = some (.xd []) := by
          rw [l3.p]
          show upd (upd W2.P dx _) x _ dx = _
          rw [upd_ne hne, upd_same]
        obtain ⟨p2, t2⟩ := t2
        refine ⟨.ref x, hσ, x, Γ.cl k, dx, p2, SlX.putS (ix1 sw) v1 [], ix2 sw, rfl, .inr ⟨(ok3.p _ _ P3x).1, (ok3.p _ _ P3d).1⟩, c.sc, t2, ?_⟩
        have okD := (ok3.swap (x := dx) (.xd []) (ok3.p _ _ P3d).2 (Mx ok3 P3d)).swap (x := x) (SlX.SlO x (Γ.cl k) dx (SlX.putS (ix2 sw) v2 (SlX.putS (ix1 sw) v1 []))) (ok3.p _ _ P3x).2 (fun i b hb => Mx ok3 P3x i b hb)
        have ePut : SlX.putS (ix2 sw) v2 (SlX.putS (ix1 sw) v1 []) = (ord sw v1 v2).map some := by cases sw <;> rfl
        simp only [Res.bindA] at h
        have lF : ∀ a o, W.F a = some o → W3.F a = some o := fun a o q => l3.f _ _ (l2.f _ _ (l1.f _ _ q))
        refine h { W3 with P := W.P } _ (ord sw v1 v2) ⟨lF, rfl, fun i a q => l3.m _ _ (l2.m _ _ (l1.m _ _ q))⟩ ?_ (ok3.p _ _ P3x).2 (ok3.p _ _ P3d).2 (fun i a q => ⟨Mx ok3 P3x i a q, Mx ok3 P3d i a q⟩) ?_ ?_
        · refine okD.less (P1 := W.P) fun a u q => ?_
          have n1 : a ≠ x := ne_of_none q hPx
          have n2 : a ≠ dx := ne_of_none q hPd
          show upd (upd W3.P dx _) x _ a = _
          rw [upd_ne n1, upd_ne n2, l3.p]
          show upd (upd W2.P dx _) x _ a = _
          rw [upd_ne n1, upd_ne n2, l2.p]
          exact P1W a u q
        · have q1 := repP (P1 := W.P) (Rep.mono (W := W2) (W' := W3) ⟨fun a o q => l3.f _ _ q, fun i a q => l3.m _ _ q⟩ r1)
          have q2 := repP (P1 := W.P) r2
          cases sw
          · exact Reps.cons q1 (Reps.cons q2 Reps.nil)
          · exact Reps.cons q2 (Reps.cons q1 Reps.nil)
        · rw [← ePut]
          exact SlX.slH_slt hne

/-! ### a call of the class -/
theorem runMk {CX : CXT} {k : Nat} {f C : Addr} {fd : FuncData} {ps : List Str} {sp : Sp} {dvs : List V} {ds : List Value} {Ex : XK} {pins : List (Addr × Obj)} {σ : L2.St} {H : Hp} {s : Shared} {Q : VK} {us : List Value} {vs : List V} (M : Mk X.K C f) (F : FnOk X.prog X.w X.K X.mg X.base CX k f fd ps sp)
    (hr : Room (k + 1) X.A) (hb : Binds X.K fd ps ds) (hd : Vals dvs ds) (hx : PassesAt CX X σ Ex) (I : Inv X pins σ H s) (r : Vals vs us)
    (h : ∀ x dx, H x = none → H dx = none → dx ≠ x → sp (.ref x :: (vs ++ dvs)) (upd (upd H dx (.own x)) x (.ins C dx [])) (fun v H2 => v = .non ∧ Q (.ref x) H2) Ex) : wpAny (model X.prog X.w) X.A (call (.ref C) us) (EP X pins σ Q) X.xe s := by
  let x : Addr := s.heap.objs.size + 1
  let dx : Addr := s.heap.objs.size
  have hs := h x dx (I.hok.fresh (Nat.le_succ _)) (I.hok.fresh (Nat.le_refl _)) (Nat.ne_of_lt (Nat.lt_succ_self _))
  have J := Inv.made (C := C) I
  have rr : Vals (V.ref x :: (vs ++ dvs)) (Value.ref x :: (us ++ ds)) := .cons rfl (r.append hd)
  have hl : (Value.ref x :: us ++ ds).length = ps.length := (rr.length.symm.trans (F.len _ _ _ _ hs) : _)
  have run := F.run _ X.stack _ _ ⟨Value.ref x :: us, []⟩ (Value.ref x :: (us ++ ds)) _ _ Ex (hr.make C us []) (J.env0.make C us []) (hb _ (Value.ref x :: us) J.kIn hl) rr hs
  refine wpAny_call (make_map (f := f) I.kIn M.makes M.init (beq_iff_eq.mp M.fn) (codeAny_mono run fun r s' hq => ?_))
  match r, hq with
  | .error e, hq => exact hx pins _ _ e s' J hq
  | .ok (.ret u), hq =>
    obtain ⟨v, H', J2, rv, ev, q3⟩ := J.after hq
    subst ev
    exact ⟨rv, ⟨V.ref x, H', J2, rfl, q3⟩⟩
  | .ok .next, hq => exact hq.elim
  | .ok .brk, hq => exact hq.elim
  | .ok .cont, hq => exact hq.elim
/-- what a caller wants of a class: dfl fill up the values given -/
structure Mak (Γ : Pg) (P : Program) (w : World) (mg : Str → Option Value) (base : Heap) (k : Nat) (x : Str) (c n : Nat) (dfl : List D) (F : List D → Store → ResA) : Prop where
  ex : ∃ (fI : Addr) (fd : FuncData) (ps : List Str) (ds : List Value) (dvs : List V), Mk Γ.K (Γ.cl c) fI ∧ FnOk P w Γ.K mg base (L2.CX P w) k fI fd ps (spI Γ c n F) ∧ mg x = some (.ref (Γ.cl c)) ∧ Binds Γ.K fd ps ds ∧ Vals dvs ds ∧ ∀ W, Reps Γ W dfl dvs
def newD (c n : Nat) (F : List D → Store → ResA) : List D → Store → Res := fun ds S => if ds.length = n then match F ds S with
  | .ok fs S1 => if fs.length ≠ 0 then .ok (.obj c fs) S1 else .bad
  | .exc k fs S1 => .exc k fs S1
  | .bad => .bad
  else .bad
def eNew (c n : Nat) (dfl : List D) (F : List D → Store → ResA) (a : AF) : EF := fun es S => (a es S).bind fun ds S1 => newD c n F (ds ++ dfl) S1
theorem spI_of {c n : Nat} {F : List D → Store → ResA} {W : Wd} {S : Store} {H : Hp} {ds : List D} {vs : List V} {Q : VK} {Ex : XK} (ok : Ok Γ W S H) (r : Reps Γ W ds vs) (h : Cont Γ (newD c n F ds S) W Q Ex) {x dx : Addr} (hx : H x = none) (hd : H dx = none) (hne : dx ≠ x) :
    spI Γ c n F (.ref x :: vs) (upd (upd H dx (.own x)) x (.ins (Γ.cl c) dx [])) (fun v H2 => v = .non ∧ Q (.ref x) H2) Ex := by
  unfold newD at h
  split at h
  case isFalse => exact h.elim
  rename_i hl
  obtain ⟨Fx, Px, Mx⟩ := ok.fresh hx
  obtain ⟨Fd, Pd, Md⟩ := ok.fresh hd
  have okA := ((ok.swap (x := dx) (.own x) Fd Md).swap (x := x) (.ins (Γ.cl c) dx []) Fx Mx).less (P1 := W.P) fun a u q => by
    show upd (upd W.P dx _) x _ a = _
    rw [upd_ne (ne_of_none q Px), upd_ne (ne_of_none q Pd)]
    exact q
  refine ⟨x, dx, vs, W, S, ds, rfl, okA, r, hl, Fx, Fd, Px, Pd, fun i a q => ⟨Mx i a q, Md i a q⟩, hne, upd_same, by rw [upd_ne hne, upd_same], ?_⟩
  cases e : F ds S with
  | bad => rw [e] at h; exact h.elim
  | exc k fs S1 => rw [e] at h; exact h
  | ok fs S1 =>
    rw [e] at h
    simp only at h
    split at h
    case isFalse => exact h.elim
    rename_i h0
    intro W' H' us l ok' F'x F'd M' rs hs
    refine ⟨rfl, ?_⟩
    have hus : us ≠ [] := fun z => h0 (by rw [← rs.length, z]; rfl)
    rcases hs with ⟨_, z⟩ | ⟨q1, q2⟩
    · exact absurd (List.map_eq_nil_iff.mp z) hus
    -- the instance becomes data
    let F1 : Hp := upd (upd W'.F dx (.xd [])) x (SlX.SlO x (Γ.cl c) dx (us.map some))
    have le1 : ∀ a u, W'.F a = some u → F1 a = some u := fun a u q => by
      show upd (upd W'.F dx _) x _ a = _
      rw [upd_ne (ne_of_none q F'x), upd_ne (ne_of_none q F'd)]
      exact q
    have lS : LeS W' { W' with F := F1 } := ⟨le1, fun _ _ h => h⟩
    have hP' : ∀ a u, W'.P a = some u → a ≠ x ∧ a ≠ dx := fun a u q => by
      rw [l.p] at q
      exact ⟨ne_of_none q Px, ne_of_none q Pd⟩
    have f1 : ∀ a, a ≠ x → a ≠ dx → F1 a = W'.F a := fun a n1 n2 => by
      show upd (upd W'.F dx _) x _ a = _
      rw [upd_ne n1, upd_ne n2]
    refine h { W' with F := F1 } _ H' ⟨fun a o q => le1 a o (l.f a o q), l.p, l.m⟩ ⟨fun a u q => ?_, fun a u q => ?_, fun i a q => ?_, ok'.nd, ok'.len, fun i a ds q3 q4 => ?_⟩ ?_
    · have q : F1 a = some u := q
      by_cases z : a = x
      · subst z
        have : F1 a = some (SlX.SlO a (Γ.cl c) dx (us.map some)) := upd_same
        rw [q1, ← this]
        exact q
      · by_cases z2 : a = dx
        · subst z2
          have : F1 a = some (.xd []) := by
            show upd (upd W'.F a _) x _ a = _
            rw [upd_ne z, upd_same]
          rw [q2, ← this]
          exact q
        · rw [f1 a z z2] at q
          exact ok'.f a u q
    · obtain ⟨n1, n2⟩ := hP' a u q
      exact ⟨(ok'.p a u q).1, (f1 a n1 n2).trans (ok'.p a u q).2⟩
    · obtain ⟨n1, n2⟩ := M' i a q
      exact ⟨(f1 a n1 n2).trans (ok'.m i a q).1, (ok'.m i a q).2⟩
    · obtain ⟨ws, q5, q6⟩ := ok'.c i a ds q3 q4
      exact ⟨ws, q5, q6.mono lS⟩
    · simp only [Rep]
      refine ⟨x, dx, us, rfl, .inr ⟨upd_same, ?_⟩, rs.mono lS⟩
      show upd (upd W'.F dx _) x _ dx = _
      rw [upd_ne hne, upd_same]
theorem de_new {e : Expr} {es : List Expr} {x : Str} {fa : AF} {c n j l : Nat} {dfl : List D} {p pos : Pos} {P : Program} {w : World} {mg : Str → Option Value} {base : Heap} {F : List D → Store → ResA} (hh : Here Γ P w mg base l X E) (M : Mak Γ P w mg base j x c n dfl F)
    (ha : PA X (e :: es) (dA Γ ξ fa E)) (hj : j + 1 ≤ l := by decide) (hg : Gl X x := by rfl) (hdb : (x == ("__debug__" : Str)) = false := by decide) (he : starEach (e :: es) X.env = (false, eval e X.env) :: starEach es X.env := by rfl) (hpl : (backTo pos (starEach es X.env)).any (·.1) = false := by rfl) :
    PE X (.Call (.Name x p) (e :: es) [] pos) (dE Γ ξ (eNew c n dfl F fa) E) := by
  obtain ⟨h1, h2, h3, h4, h5, h6, h7⟩ := hh
  subst h1 h2 h4 h5
  obtain ⟨fI, fd, ps, ds, dvs, hM, hF, hm, hb, hv, hrep⟩ := M.ex
  rw [← h3] at hM hF hb
  refine ⟨fun pins s σ H Q I ⟨W, es', S, P0, ok, fr, h⟩ => ?_⟩
  refine wpAny_Call_Name_kw (ld_glob I hg hm ?_ hdb)
  refine PySem.W.callWith_K (h₀ := X.base) I.ok.mod.kin hM.kp (thn (ha.run pos pins s σ H (fun vs H1 => ∃ W1 S1 ds1, Ok Γ W1 S1 H1 ∧ Reps Γ W1 ds1 vs ∧ Cont Γ (newD c n F (ds1 ++ dfl) S1) W1 Q (at_ E σ)) I
    ⟨W, es', S, P0, ok, fr, ContA.bind h fun ds1 S1 W1 vs H1 le ok1 rs h1 => ⟨W1, S1, ds1, ok1, rs, h1⟩⟩) fun us s1 ⟨vs, H1, I1, r, W1, S1, ds1, ok1, rs, h1⟩ => ⟨I1.kIn, ?_⟩) he hpl
  exact runMk (dvs := dvs) hM hF (h6.mono hj) hb hv (pass_of h7 σ) I1 r fun x dx hx hd hne => spI_of ok1 (rs.append (hrep W1)) h1 hx hd hne
end
end DL
set_option Elab.async false
set_option linter.all false
set_option maxRecDepth 100000
set_option maxHeartbeats 2000000
set_option autoImplicit false
/-! The data layer, 8: exceptions. -/
namespace DL
open PySem L2 PyProof.Rows

section
variable {Γ : Pg} {ξ : Xx} {X : Cx} {E : WX}
/-! ### an own exception's __init__: B.__init__(self, text); self.f = value -/
/-- B's __init__ is that of ValueError, reached through the class B -/
structure BaseF (K : PySem.W.Frag) (mg : Str → Option Value) (x : Str) : Prop where
  ex : ∃ (B : Addr) (mc : Value), mg x = some (.ref B) ∧ ClX.CRead K B mc ∧ PySem.W.findCls K (.ref B) mc "__init__" = some (.val (.builtin "ValueError.__init__"))
theorem pe_binit {x : Str} {e : Expr} {es : List Expr} {ta : TA} {p1 p2 pos : Pos} {pl : Sem Bool} (b : BaseF X.K X.mg x) (ha : PA X (e :: es) ta) (hg : Gl X x := by rfl) (hdb : (x == ("__debug__" : Str)) = false := by decide)
    (hc : eval (.Call (.Attribute (.Name x p1) "__init__" p2) (e :: es) [] pos) X.env = (do
      let ov ← eval (.Name x p1) X.env
      standAt p2.atName
      let (f, first) ← holding [ov] (getMethod ov "__init__" pl)
      callWith pos f first (backTo pos (starEach (e :: es) X.env)) (backToKw pos (keywordEach [] X.env))) := by rfl)
    (he : starEach (e :: es) X.env = (false, eval e X.env) :: starEach es X.env := by rfl) (hpl : (backTo pos (starEach es X.env)).any (·.1) = false := by rfl) :
    PE X (.Call (.Attribute (.Name x p1) "__init__" p2) (e :: es) [] pos) (tVeI X.K ta) := by
  obtain ⟨B, mc, hm, rd, hv⟩ := b.ex
  refine ⟨fun pins s σ H Q I h => ?_⟩
  refine PySem.W.methodCall_KW (ld_glob I hg hm ?_ hdb) hc
  refine PySem.W.method_cls I.kIn rd.ga (PySem.W.cls_value I.kIn rd.rd hv rfl ?_)
  refine PyProof.Rows.callWith_method1 (first := []) (thn (ha.run pos pins _ σ H _ (I.tok _) h) fun us s1 ⟨vs, H1, I1, r1, a, C, ws, ev, hl, T, ea, q⟩ => ?_) he hpl
  subst ev
  cases r1 with
  | @cons _ u0 _ ur ra rr =>
    obtain rfl : u0 = Value.ref a := ra
    exact oinit_ok T I1 ea (by rw [← Paired.length rr, sizeLine_eq]; omega) fun s' J => ⟨.non, H1, J, rfl, q⟩
/-- the promises of such an __init__: with a field, without one -/
def spX (C : Addr) (f : Str) : Sp := fun vs H Q _ => ∃ (a : Addr) (v : V), vs = [.ref a, v] ∧ H a = some (exo a C none) ∧ ∀ dx, H dx = none → dx ≠ a → Q .non (upd (upd H dx (exd dx [(f, v)])) a (exo a C (some dx)))
def spX0 (C : Addr) : Sp := fun vs H Q _ => ∃ a : Addr, vs = [.ref a] ∧ H a = some (exo a C none) ∧ Q .non H
abbrev tXInit (K : PySem.W.Frag) (t : Str) (f : Str) : TS := tSeq (tDrop (tVeI K (tCons (tVar 0) (tCons (tC (.str t)) tNil)))) (tOst K f (tVar 0) (tVar 1))
abbrev tXInit0 (K : PySem.W.Frag) (t : Str) : TS := tDrop (tVeI K (tCons (tVar 0) (tCons (tC (.str t)) tNil)))
theorem xinit {K : PySem.W.Frag} {C : Addr} {f t : Str} {names : List Str} {vs : List V} {H : Hp} {Q : VK} (T : OexC K C) (hno : PySem.W.findIn K (.ref C) f = some none) (hn : names.length = 2) (h : spX C f vs H Q (fun _ _ _ => False)) : tXInit K t f { nx := fun _ H' => Q .non H', rt := Q } (L2.start names vs) H := by
  obtain ⟨a, v, rfl, ha, h⟩ := h
  refine ⟨.ref a, rfl, a, C, [.str t], rfl, by show 1 ≤ 1000; decide, T, ha, v, rfl, .ref a, rfl, a, C, rfl, T, hno, .inl ⟨ha, fun dx n ne => h dx n ne⟩⟩
theorem xinit0 {K : PySem.W.Frag} {C : Addr} {t : Str} {names : List Str} {vs : List V} {H : Hp} {Q : VK} (T : OexC K C) (h : spX0 C vs H Q (fun _ _ _ => False)) : tXInit0 K t { nx := fun _ H' => Q .non H', rt := Q } (L2.start names vs) H := by
  obtain ⟨a, rfl, ha, h⟩ := h
  exact ⟨.ref a, rfl, a, C, [.str t], rfl, by show 1 ≤ 1000; decide, T, ha, h⟩
/-- what a raise wants of a class: c its number, f its field -/
structure ExF (Γ : Pg) (P : Program) (w : World) (mg : Str → Option Value) (base : Heap) (k : Nat) (x : Str) (c : Nat) (f : Str) : Prop where
  ex : ∃ (fI : Addr) (fd : FuncData) (ps : List Str), OexC Γ.K (Γ.cl c) ∧ PySem.W.findIn Γ.K (.ref (Γ.cl c)) "__init__" = some (some (.ref fI)) ∧ PySem.W.typeIn Γ.K (.ref fI) = some (.type "function") ∧
    FnOk P w Γ.K mg base (L2.CX P w) k fI fd ps (spX (Γ.cl c) f) ∧ Binds Γ.K fd ps [] ∧ mg x = some (.ref (Γ.cl c))
structure ExF0 (Γ : Pg) (P : Program) (w : World) (mg : Str → Option Value) (base : Heap) (k : Nat) (x : Str) (c : Nat) : Prop where
  ex : ∃ (fI : Addr) (fd : FuncData) (ps : List Str), OexC Γ.K (Γ.cl c) ∧ PySem.W.findIn Γ.K (.ref (Γ.cl c)) "__init__" = some (some (.ref fI)) ∧ PySem.W.typeIn Γ.K (.ref fI) = some (.type "function") ∧
    FnOk P w Γ.K mg base (L2.CX P w) k fI fd ps (spX0 (Γ.cl c)) ∧ Binds Γ.K fd ps [] ∧ mg x = some (.ref (Γ.cl c))
def sRaise (c : Nat) (n : Str) (f : EF) : SF := fun es S => (f es S).toS es fun d S1 => .exc c [(n, d)] es S1
theorem ds_raise {e : Expr} {x n : Str} {fe : EF} {c j l : Nat} {p pos pos' : Pos} {P : Program} {w : World} {mg : Str → Option Value} {base : Heap} (hh : Here Γ P w mg base l X E) (T : ExF Γ P w mg base j x c n) (hc : X.calm = true) (he : PE X e (dE Γ ξ fe E)) (hj : j + 1 ≤ l := by decide)
    (hg : Gl X x := by rfl) (hdb : (x == ("__debug__" : Str)) = false := by decide) (hs : starEach (e :: []) X.env = (false, eval e X.env) :: starEach [] X.env := by rfl) (hpl : (backTo pos (starEach [] X.env)).any (·.1) = false := by rfl) :
    PS X (.Raise (some (.Call (.Name x p) [e] [] pos)) none pos') (dS Γ ξ (sRaise c n fe) E) := by
  obtain ⟨h1, h2, h3, h4, h5, h6, h7⟩ := hh
  subst h1 h2 h4 h5
  obtain ⟨fI, fd, ps, T1, T2, T3, T4, T5, T6⟩ := T.ex
  rw [← h3] at T1 T2 T3 T4 T5
  refine (ps_raise hc h7 (pmk_oex (dvs := []) (ds := []) T1 T2 T3 T4 (h6.mono hj) T5 .nil passL hg T6 (pa_cons he pa_nil hs) hdb hs hpl)).imp fun Dn σ H ⟨W, es, S, P0, ok, fr, h⟩ => ?_
  refine ⟨W, es, S, P0, ok, fr, ContS.toS fr h fun d S1 W1 v H1 le ok1 rv h1 => ⟨by show 1 ≤ 1000; decide, fun a ha => ?_⟩⟩
  refine ⟨a, v, rfl, upd_same, fun dx hdx hne => ⟨rfl, dx, [(n, v)], upd_same, by rw [upd_ne hne, upd_same], ?_, ?_⟩⟩
  · rw [upd_ne hne] at hdx
    exact hdx
  · rw [upd_ne hne] at hdx
    have eH : upd (del (upd (upd (upd H1 a (exo a (Γ.cl c) none)) dx (exd dx [(n, v)])) a (exo a (Γ.cl c) (some dx))) a) dx (.xd [(n, v)]) = upd H1 dx (.xd [(n, v)]) := by
      funext b
      by_cases z : b = dx
      · rw [z, upd_same, upd_same]
      · rw [upd_ne z, upd_ne z]
        by_cases z2 : b = a
        · rw [z2, del_same, ha]
        · rw [del_ne z2, upd_ne z2, upd_ne z, upd_ne z2]
    have l2 := Le.lay (o := .xd [(n, v)]) (ok1.fresh hdx).1
    rw [eH]
    exact h1 _ σ (some dx) _ l2.s (ok1.lay hdx _) ((fr.le le).le l2) (.inr ⟨dx, [(n, v)], rfl, upd_same, rfl, Reps.cons (rv.mono l2.s) Reps.nil⟩)
/-! ### one without a field -/
theorem mkEnd {pins : List (Addr × Obj)} {σ : L2.St} {H1 : Hp} {hp hp2 h2 : Heap} {g1 g2 : Array GenState} {d1 d2 : Drawn} {t1 t2 : Nat} {os : OsState} {a C : Addr} (I1 : Inv X pins σ H1 ⟨hp, g1, d1, t1, os⟩) (ha : hp.objs.size ≤ a)
    (k : ∀ b o, hp.get? b = some o → hp2.get? b = some o) (un : Un (frs X.stack) [] (upd H1 a (exo a C none)) (upd H1 a (exo a C none)) hp2 h2) (hok : HOk X.prog X.w (upd H1 a (exo a C none)) h2) (hb : AllBare g2) :
    ∃ (t0 : Addr) (G : Heap), Inv X pins σ H1 ⟨G, g2, d2, t2, os⟩ ∧ (∀ b o, G.get? b = some o → h2.get? b = some o) ∧ G.get? a = none ∧ h2.get? a = some ({ cls := .ref C, dict := none, data := .fields #[.ref t0, .none, .none, .none, .bool false, .none] } : Obj) ∧ H1 a = none := by
  obtain ⟨t0, hoe⟩ := exo_at hok upd_same
  have hn : H1 a = none := I1.hok.fresh ha
  obtain ⟨G, q1, q2⟩ := restrict h2 fun b => decide (b ≠ a)
  have gk : ∀ b, b ≠ a → G.get? b = h2.get? b := fun b hb => q1 b (decide_eq_true hb)
  have ge : G.get? a = none := q2 a (by simp)
  have nha : ∀ {b : Addr} {o : Obj}, hp.get? b = some o → b ≠ a := fun {b o} z => Nat.ne_of_lt (Nat.lt_of_lt_of_le (Heap.lt_size z) ha)
  have up : ∀ {b : Addr}, b ≠ a → upd H1 a (exo a C none) b = H1 b := fun {b} hb => upd_ne hb
  have nt : ∀ {b : Addr} {u : HO}, H1 b = some u → b ≠ a := fun {b u} z => ne_of_none z hn
  have U : Un (frs X.stack) [] H1 H1 hp G := {
    keep := fun b o z n hf hx => (gk b (nha z)).trans (un.keep b o (k b o z) ((up (nha z)).trans n) hf hx)
    slot := fun b o z n hf hx => by rw [gk b (nha z)]; exact un.slot b o (k b o z) ((up (nha z)).trans n) hf hx
    free := fun b o z n hx => n
    there := fun b o z hx => by rw [gk b (nha z)]; exact un.there b o (k b o z) hx
    tups := fun b xs z => z
    frzs := fun b o v z => z
    tbls := fun b ps z => ⟨#[], by simpa using z⟩ }
  have hok3 : HOk X.prog X.w H1 G := fun b o z => by
    have hba := nt z
    have z2 : upd H1 a (exo a C none) b = some o := (up hba).trans z
    refine (hok b o z2).stay (fun c v hc y => ?_) (fun c hc => ?_) (fun c xs hc => ?_)
    · have hca : c ≠ a := by
        rcases hc with hc | hc
        · rw [hc]
          exact hba
        · exact at_ne upd_same hc exo_own
      rw [gk c hca]
      exact y
    · have hca : c ≠ a := at_ne upd_same hc exo_own
      rw [up hca] at hc
      exact hc
    · have hca : c ≠ a := at_ne upd_same hc exo_tup
      rw [up hca] at hc
      exact hc
  refine ⟨t0, G, I1.call' (ch := []) rfl U hok3 hb (fun b z => absurd z (by simp)), fun b o z => ?_, ge, hoe, hn⟩
  by_cases hba : b = a
  · rw [hba, ge] at z
    cases z
  · exact (gk b hba).symm.trans z
def tMk0 (C : Addr) : L2.St → Hp → XK → Prop := fun σ H Q => Q (.ref C) none H
theorem pmk0 {x : Str} {C fI : Addr} {k : Nat} {fd : FuncData} {ps : List Str} {p pos : Pos} (T : OexC X.K C) (iC : PySem.W.findIn X.K (.ref C) "__init__" = some (some (.ref fI))) (tI : PySem.W.typeIn X.K (.ref fI) = some (.type "function"))
    (F1 : FnOk X.prog X.w X.K X.mg X.base (L2.CX X.prog X.w) k fI fd ps (spX0 C)) (hr : Room (k + 1) X.A) (hb : Binds X.K fd ps []) (hg : Gl X x) (hm : X.mg x = some (.ref C)) (hdb : (x == ("__debug__" : Str)) = false := by decide) :
    PMk X (.Call (.Name x p) [] [] pos) (tMk0 C) := by
  intro pins s σ H1 Q I1 h
  obtain ⟨nm, q, N, bs, bm, sn, sub, ab, col, dd, k0, k1, k2, k3, k5, hC, hbm⟩ := T.cls
  refine wpAny_Call_Name_kw (ld_glob I1 hg hm ?_ hdb)
  refine PySem.W.callWith_K0 I1.kIn T.kC ?_
  show wpAny _ _ (call (.ref C) []) _ _ _
  obtain ⟨hp, g, dr, tk, os⟩ := s
  let a : Addr := hp.objs.size + 1
  have hsz : hp.objs.size ≤ a := Nat.le_succ _
  have hn : H1 a = none := I1.hok.fresh hsz
  let h0 : Heap := (hp.push (PySem.W.kdv_tup [])).push (PySem.HandSPX.excO C hp.objs.size)
  have kk : ∀ b o, hp.get? b = some o → h0.get? b = some o := fun b o e => Heap.get?_push_of_some _ (Heap.get?_push_of_some _ e)
  have hget : h0.get? (hp.objs.size + 1) = some (PySem.HandSPX.excO C hp.objs.size) := by heap_get
  have I2 : Inv X pins σ (upd H1 a (exo a C none)) ⟨h0, g, dr, tk, os⟩ := I1.laid (t' := tk) (a := a) (o := exo a C none) (h' := h0) kk hsz (exo_ok hget)
  have hq : spX0 C [.ref a] (upd H1 a (exo a C none)) (fun v H2 => v = .non ∧ H2 = upd H1 a (exo a C none)) (fun _ _ _ => False) := ⟨a, rfl, upd_same, rfl, rfl⟩
  have hl : ([Value.ref a] ++ []).length = ps.length := (F1.len _ _ _ _ hq : _)
  have run := F1.run _ X.stack _ _ ⟨[Value.ref a], []⟩ ([Value.ref a] ++ []) _ _ (fun _ _ _ => False) (hr.make C [] []) (I2.env0.make C [] []) (hb _ [Value.ref a] I2.kIn hl) (show Vals [V.ref a] [Value.ref a] from .cons rfl .nil) hq
  refine wpAny_call (PySem.HandSPX.call_own F.excBase_ValueError (fun Y => PySem.HandSPX.refsVE_contains Y bm hbm) (I1.kIn _ _ hC) (PySem.W.looks_findIn I1.kIn iC) (fun self => PySem.W.bind_fn I1.kIn self tI) (by rw [sizeLine_eq]; decide) (codeAny_mono run fun r s' hq' => ?_))
  match r, hq' with
  | .error er, hq' => exact (passL pins σ _ _ er s' I2 hq')
  | .ok .next, hq' => exact hq'.elim
  | .ok .brk, hq' => exact hq'.elim
  | .ok .cont, hq' => exact hq'.elim
  | .ok (.ret u), hq' =>
    obtain ⟨v, H2, os2, bare2, un2, hok2, rv, ev, eH⟩ := hq'
    subst ev eH
    obtain ⟨h2, g2, d2, t2, os'⟩ := s'
    obtain rfl : os' = os := os2
    obtain ⟨t0, G, J, kG, ge, hoe, na⟩ := mkEnd (d2 := d2) (t2 := t2) I1 hsz kk un2 hok2 bare2
    exact ⟨rv, a, _, _, ⟨G, g2, d2, t2, os'⟩, H1, .ref C, none, rfl, J, kG, ge, hoe, ⟨rfl, rfl⟩, rfl, rfl, na, rfl, bare2, raises_own T.exC T.tyC, h⟩
def sRaise0 (c : Nat) : SF := fun es S => .exc c [] es S
theorem ds_raise0 {x : Str} {c j l : Nat} {p pos pos' : Pos} {P : Program} {w : World} {mg : Str → Option Value} {base : Heap} (hh : Here Γ P w mg base l X E) (T : ExF0 Γ P w mg base j x c) (hc : X.calm = true) (hj : j + 1 ≤ l := by decide) (hg : Gl X x := by rfl) (hdb : (x == ("__debug__" : Str)) = false := by decide) :
    PS X (.Raise (some (.Call (.Name x p) [] [] pos)) none pos') (dS Γ ξ (sRaise0 c) E) := by
  obtain ⟨h1, h2, h3, h4, h5, h6, h7⟩ := hh
  subst h1 h2 h4 h5
  obtain ⟨fI, fd, ps, T1, T2, T3, T4, T5, T6⟩ := T.ex
  rw [← h3] at T1 T2 T3 T4 T5
  exact (ps_raise hc h7 (pmk0 T1 T2 T3 T4 (h6.mono hj) T5 hg T6 hdb)).imp fun Dn σ H ⟨W, es, S, P0, ok, fr, h⟩ => h W σ none H (LeS.refl W) ok fr (.inl rfl)
end
end DL
set_option Elab.async false
set_option linter.all false
set_option maxRecDepth 100000
set_option maxHeartbeats 2000000
set_option autoImplicit false
/-! The data layer, 9: try with several clauses, with and without a name. -/
namespace DL
open PySem L2 PyProof.Rows

/-- a clause: its class, its name's slot, its suite's reading -/
structure Hd where
  c : Value
  i : Option Nat
  ts : Addr → Value → Option Addr → TS
def clr (i : Nat) (D : Ends) : Ends := { nx := fun σ H => D.nx (σ.set i none) H, rt := D.rt, bk := fun σ H => D.bk (σ.set i none) H, ct := fun σ H => D.ct (σ.set i none) H }
def Hd.go (h : Hd) (D : Ends) (a : Addr) (cls : Value) (d : Option Addr) (σ : L2.St) (H : Hp) : Prop := match h.i with
  | none => h.ts a cls d D σ H
  | some i => h.ts a cls d (clr i D) (σ.set i (some (.ref a))) H
def wAll (K : PySem.W.Frag) (Wout : WX) (D : Ends) : List Hd → WX
  | [] => Wout
  | h :: r => fun cls d σ H => ∃ b, PySem.W.exmOne K cls h.c = some b ∧ (b = true → ∀ a, H a = none → h.go D a cls d σ H) ∧ (b = false → wAll K Wout D r cls d σ H)
inductive HdsA (X : Cx) : List ExceptHandler → List Hd → Prop
  | nil : HdsA X [] []
  | plain {x : Str} {c : Value} {ts : Addr → Value → Option Addr → TS} {b0 : Stmt} {suite : List Stmt} {np pos' : Pos} {hds : List ExceptHandler} {l : List Hd} (hc : Names X x c)
      (hsu : ∀ (a : Addr) (oe : Obj) (cls : Value) (d : Option Addr) (pn : List (Addr × Obj)), Zc cls d oe → (∃ vs, oe.data = .fields vs) → PSs (X.suite a ((a, oe) :: pn)) (b0 :: suite) (ts a cls d)) (r : HdsA X hds l) :
      HdsA X (.ExceptHandler (some (.Name x np)) none (b0 :: suite) pos' :: hds) (⟨c, none, ts⟩ :: l)
  | named {x n : Str} {i : Nat} {c : Value} {ts : Addr → Value → Option Addr → TS} {b0 : Stmt} {suite : List Stmt} {np pos' : Pos} {hds : List ExceptHandler} {l : List Hd} (hc : Names X x c) (hi : X.N[i]? = some n) (hln : X.env.kindOf n = some .local)
      (hsu : ∀ (a : Addr) (oe : Obj) (cls : Value) (d : Option Addr) (pn : List (Addr × Obj)), Zc cls d oe → (∃ vs, oe.data = .fields vs) → PSs (X.suite a ((a, oe) :: pn)) (b0 :: suite) (ts a cls d)) (r : HdsA X hds l) :
      HdsA X (.ExceptHandler (some (.Name x np)) (some n) (b0 :: suite) pos' :: hds) (⟨c, some i, ts⟩ :: l)
section
variable {X : Cx} {body : List Stmt} {h0 : ExceptHandler} {hds : List ExceptHandler} {l : List Hd} {pos : Pos} {tb : WX → TS} {Wout : WX}
theorem ps_tryA (hs : X.stack = X.env :: X.outer) (hf : X.env.frame = some X.env.locals) (hN : X.N.Nodup) (tk : Takes X Wout)
    (hb : ∀ (W : WX) (pn : List (Addr × Obj)) (xe : Value → Shared → Prop), Takes (X.tr pn xe) W → PassesOwn (model X.prog X.w) X.A X.env xe → PSs (X.tr pn xe) body (tb W)) (hh : HdsA X (h0 :: hds) l) :
    PS X (.Try body (h0 :: hds) [] [] pos) (fun D σ H => tb (wAll X.K Wout D l) D σ H) := by
  refine ⟨fun pins s σ H D I hrun => ?_⟩
  have okX := I.ok
  have frs' : X.A.frames = some (X.env :: X.outer) := by rw [okX.frames, hs]
  refine wpAny_Try_except ?_
  let after : Value → Shared → Prop := fun e s1 => wpAny (model X.prog X.w) X.A (noteFrame e X.env) (fun _ s2 => wpAny (model X.prog X.w) X.A (setFlight e none) (fun _ s3 => wpAny (model X.prog X.w) X.A (handleBy e X.env (h0 :: hds)) (SP X pins D) X.xe s3) X.xe s2) X.xe s1
  have caught : Takes (X.tr (X.pn ++ pins) after) (wAll X.K Wout D l) := by
    rintro u s' ⟨a, B, sI, pins', σ', H', cls, d, rfl, J', nb, up, sky, na, os, ag, w⟩
    have J : Inv X pins σ' H' sI := J'.ofTry okX
    have sky2 : Sky B (X.env :: X.outer) a (Zc cls d) X.env.locals s'.heap := by rw [← hs]; exact sky
    show wpAny (model X.prog X.w) X.A (noteFrame (.ref a) X.env) _ _ _
    refine Sky.land Zc.steady frs' hf sky2 fun h3 fl3 up3 => ?_
    have J3 : Inv X pins σ' H' { s' with heap := h3 } := J.landed nb fl3.1 (up.trans up3) os ag
    obtain ⟨oe3, vs3, he3, hz3, hd3⟩ := fl3.there
    have notIn : a ∉ frs (X.env :: X.outer) := fun hm => by
      obtain ⟨_, o', e', hnf⟩ := fl3.2.2.1.mem hm
      rw [he3] at e'
      cases e'
      exact hnf _ hd3
    have nL : a ≠ X.env.locals := fun z => notIn (List.mem_filterMap.mpr ⟨X.env, List.mem_cons_self, by rw [hf, z]⟩)
    have nF : a ∉ X.fs := fun hm => by
      obtain ⟨e, he, q⟩ := List.mem_filterMap.mp hm
      exact notIn (List.mem_filterMap.mpr ⟨e, List.mem_cons_of_mem _ he, q⟩)
    have S3 := J3.suite he3 hd3 na nL nF
    -- one clause's name is looked up
    have test : ∀ {x : Str} {c : Value} {np : Pos}, Names X x c → ∀ {Q : Value → Shared → Prop} {E : Value → Shared → Prop}, Q c { s' with heap := h3 } → wpAny (model X.prog X.w) (X.A.mark (some (.ref a))) (eval (.Name x np) X.env) Q E { s' with heap := h3 } := fun {x c np} hc {Q E} q => by
      obtain ⟨hg, hdbg, hm | ⟨hm, hv, hnn⟩⟩ := hc
      · exact ld_glob (X := X.suite a ((a, oe3) :: (X.pn ++ pins))) S3 hg hm q hdbg
      · exact ld_blt (X := X.suite a ((a, oe3) :: (X.pn ++ pins))) S3 hg hm hv q hnn hdbg
    have LT : PySem.W.Looks (model X.prog X.w) h3 (typeOf (.ref a)) cls := fun A Q E s k q => wpAny_typeOf_ref (k _ _ he3) (by rw [hz3.1]; exact q)
    have all : ∀ {hs' : List ExceptHandler} {l' : List Hd}, HdsA X hs' l' → wAll X.K Wout D l' cls d σ' H' → wpAny (model X.prog X.w) X.A (handleBy (.ref a) X.env hs') (SP X pins D) X.xe { s' with heap := h3 } := by
      intro hs' l' hk
      induction hk with
      | nil =>
        intro w
        refine wpAny_handleBy_nil ?_
        obtain ⟨_, _, _, oe, vs, T, oT, ts', he, hz, hd, hT, hr⟩ := id fl3
        unfold PySem.passOn
        refine wpAny_bind (wpAny_field he hd hT ?_)
        rw [if_neg (show ¬ ((Value.ref T == Value.none) = true) from by simp)]
        have fin : wpAny (model X.prog X.w) X.A (setFlight (.ref a) X.env.frame) (fun _ s4 => wpAny (model X.prog X.w) X.A (throw (.ref a) : Sem Flow) (SP X pins D) X.xe s4) X.xe { s' with heap := h3 } := by
          rw [hf]
          exact HandSPX.setFlight_upZ fl3 fun h4 hh4 up4 => wpAny_throw (tk _ _ ⟨a, B, sI, pins, σ', H', cls, d, rfl, J, nb, (up.trans up3).trans up4, .inr (.inr (by rw [hs]; exact hh4)), na, os, ag, w⟩)
        first
          | exact wpAny_bind (wpAny_pure (wpAny_bind fin))
          | exact wpAny_bind fin
      | @plain x c ts b0 suite np pos' hds2 l2 hc hsu r ih =>
        rintro ⟨b, hb1, hyes, hno⟩
        refine wpAny_handleBy_cons (codeAny_handlers_test ?_) (by intro q; cases q)
        refine test hc ((PySem.W.exm_one (M := model X.prog X.w) J3.kIn LT hb1).here ?_)
        cases b with
        | false =>
          show wpAny _ X.A (handleBy (.ref a) X.env hds2) _ _ _
          exact ih (hno rfl)
        | true =>
          refine codeAny_handlers_suite (HandSPX.lands_againZ fl3 fun h4 fl4 up4 => ?_)
          have J4 : Inv X pins σ' H' { s' with heap := h4 } := J.landed nb fl4.1 ((up.trans up3).trans up4) os ag
          obtain ⟨oe4, vs4, he4, hz4, hd4⟩ := fl4.there
          have S4 := J4.suite he4 hd4 na nL nF
          refine wpAny_mono ((hsu a oe4 cls d (X.pn ++ pins) hz4 ⟨_, hd4⟩).run [] _ _ H' _ S4 (hyes rfl a na)) (fun f s6 hsp => ?_) (fun _ _ z => False.elim z)
          match f, hsp with
          | .next, ⟨_, _, S6, q6⟩ => exact ⟨_, _, S6.unsuite okX, q6⟩
          | .brk, ⟨_, _, S6, q6⟩ => exact ⟨_, _, S6.unsuite okX, q6⟩
          | .cont, ⟨_, _, S6, q6⟩ => exact ⟨_, _, S6.unsuite okX, q6⟩
          | .ret u, ⟨_, _, _, S6, r6, q6⟩ => exact ⟨_, _, _, S6.unsuite okX, r6, q6⟩
      | @named x n i c ts b0 suite np pos' hds2 l2 hc hi hln hsu r ih =>
        rintro ⟨b, hb1, hyes, hno⟩
        refine wpAny_handleBy_cons (codeAny_handlers_test ?_) (by intro q; cases q)
        refine test hc ((PySem.W.exm_one (M := model X.prog X.w) J3.kIn LT hb1).here ?_)
        cases b with
        | false =>
          show wpAny _ X.A (handleBy (.ref a) X.env hds2) _ _ _
          exact ih (hno rfl)
        | true =>
          refine codeAny_handlers_suite_as (HandSPX.lands_againZ fl3 fun h4 fl4 up4 => ?_)
          have J4 : Inv X pins σ' H' { s' with heap := h4 } := J.landed nb fl4.1 ((up.trans up3).trans up4) os ag
          obtain ⟨oe4, vs4, he4, hz4, hd4⟩ := fl4.there
          have S4 := J4.suite he4 hd4 na nL nF
          refine store_ok (X := X.suite a ((a, oe4) :: (X.pn ++ pins))) (v := .ref a) S4 hN hi (.inl hln) rfl (fun s5 S5 => ?_) (.inr hln)
          refine wpAny_mono ((hsu a oe4 cls d (X.pn ++ pins) hz4 ⟨_, hd4⟩).run [] s5 _ H' _ S5 (hyes rfl a na)) (fun f s6 hsp => ?_) (fun _ _ z => False.elim z)
          match f, hsp with
          | .next, ⟨_, _, S6, q6⟩ => exact gone_ok (S6.unsuite okX) hN hi hln fun s7 J7 => ⟨_, _, J7, q6⟩
          | .brk, ⟨_, _, S6, q6⟩ => exact gone_ok (S6.unsuite okX) hN hi hln fun s7 J7 => ⟨_, _, J7, q6⟩
          | .cont, ⟨_, _, S6, q6⟩ => exact gone_ok (S6.unsuite okX) hN hi hln fun s7 J7 => ⟨_, _, J7, q6⟩
          | .ret u, ⟨_, _, _, S6, r6, q6⟩ => exact gone_ok (S6.unsuite okX) hN hi hln fun s7 J7 => ⟨_, _, _, J7, r6, q6⟩
    exact all hh w
  refine wpAny_mono ((hb (wAll X.K Wout D l) (X.pn ++ pins) after caught PassesOwn.looking).run [] s σ H D (I.toTry _) hrun) (fun f s1 hsp => ?_) (fun e s1 he => he)
  match f, hsp with
  | .next, ⟨_, _, J, q⟩ => exact wpAny_execs_nil ⟨_, _, J.ofTry okX, q⟩
  | .brk, ⟨_, _, J, q⟩ => exact ⟨_, _, J.ofTry okX, q⟩
  | .cont, ⟨_, _, J, q⟩ => exact ⟨_, _, J.ofTry okX, q⟩
  | .ret u, ⟨_, _, _, J, r, q⟩ => exact ⟨_, _, _, J.ofTry okX, r, q⟩
end
end DL
set_option Elab.async false
set_option linter.all false
set_option maxRecDepth 100000
set_option maxHeartbeats 2000000
set_option autoImplicit false
/-! The data layer, 10: try, and the fields of what is caught. -/
namespace DL
open PySem L2 PyProof.Rows

section
variable {Γ : Pg} {ξ : Xx} {X : Cx} {E : WX}
/-! ### slots that no caught exception stands in -/
def plain (es : List SD) : Bool := es.all fun s => match s with
  | .exn _ _ => false
  | .slf => false
  | _ => true
theorem SlotsR.other {ξ' : Xx} {W : Wd} : ∀ {es : List SD} {σ : L2.St} {own : List (Addr × HO)}, SlotsR Γ ξ W es σ own → plain es = true → SlotsR Γ ξ' W es σ own
  | [], σ, own, h, _ => h
  | .no :: es, σ, own, h, hp => by
    obtain ⟨o, σ', rfl, h2⟩ := h
    exact ⟨o, σ', rfl, SlotsR.other h2 (by simpa [plain] using hp)⟩
  | .val d :: es, σ, own, h, hp => by
    obtain ⟨v, σ', rfl, h2, h3⟩ := h
    exact ⟨v, σ', rfl, h2, SlotsR.other h3 (by simpa [plain] using hp)⟩
  | .acc ds :: es, σ, own, h, hp => by
    obtain ⟨a, vs, σ', own', rfl, rfl, h3, h4⟩ := h
    exact ⟨a, vs, σ', own', rfl, rfl, h3, SlotsR.other h4 (by simpa [plain] using hp)⟩
  | .exn k fs :: es, σ, own, h, hp => by simp [plain] at hp
  | .slf :: es, σ, own, h, hp => by simp [plain] at hp
theorem SlotsR.setExn {ξ' : Xx} {W : Wd} {k : Nat} {fs : List (Str × D)} (hc : ξ'.c = .ref (Γ.cl k)) (hx : RepX (Γ := Γ) W fs ξ'.d) : ∀ {es : List SD} {σ : L2.St} {own : List (Addr × HO)} (i : Nat), SlotsR Γ ξ' W es σ own → (∀ ds, es[i]? ≠ some (.acc ds)) → SlotsR Γ ξ' W (es.set i (.exn k fs)) (σ.set i (some (.ref ξ'.a))) own
  | [], σ, own, i, h, _ => by obtain ⟨rfl, rfl⟩ := h; exact ⟨rfl, rfl⟩
  | .no :: es, σ, own, i, h, hn => by
    obtain ⟨o, σ', rfl, h2⟩ := h
    cases i with
    | zero => exact ⟨σ', rfl, hc, hx, h2⟩
    | succ i => exact ⟨o, _, rfl, SlotsR.setExn hc hx i h2 (by simpa using hn)⟩
  | .val d0 :: es, σ, own, i, h, hn => by
    obtain ⟨v0, σ', rfl, h2, h3⟩ := h
    cases i with
    | zero => exact ⟨σ', rfl, hc, hx, h3⟩
    | succ i => exact ⟨v0, _, rfl, h2, SlotsR.setExn hc hx i h3 (by simpa using hn)⟩
  | .acc ds :: es, σ, own, i, h, hn => by
    obtain ⟨a, vs, σ', own0, rfl, rfl, h3, h4⟩ := h
    cases i with
    | zero => exact absurd rfl (hn ds)
    | succ i => exact ⟨a, vs, _, own0, rfl, rfl, h3, SlotsR.setExn hc hx i h4 (by simpa using hn)⟩
  | .exn k fs :: es, σ, own, i, h, hn => by
    obtain ⟨σ', rfl, h2, h3, h4⟩ := h
    cases i with
    | zero => exact ⟨σ', rfl, hc, hx, h4⟩
    | succ i => exact ⟨_, rfl, h2, h3, SlotsR.setExn hc hx i h4 (by simpa using hn)⟩
  | .slf :: es, σ, own, i, h, hn => by
    obtain ⟨σ', rfl, h4⟩ := h
    cases i with
    | zero => exact ⟨σ', rfl, hc, hx, h4⟩
    | succ i => exact ⟨_, rfl, SlotsR.setExn hc hx i h4 (by simpa using hn)⟩
theorem Frame.other {ξ' : Xx} {W : Wd} {es : List SD} {σ : L2.St} {P0 : Hp} (h : Frame Γ ξ W es σ P0) (hp : plain es = true) : Frame Γ ξ' W es σ P0 := by
  obtain ⟨own, h1, h2⟩ := h
  exact ⟨own, h1.other hp, h2⟩

/-! ### try -/
/-- which exception a clause takes: (the exception's class, the clause's class, whether) -/
abbrev Mts := List (Nat × Nat × Bool)
def mtD (ps : Mts) (k j : Nat) : Option Bool := (ps.find? fun p => p.1 == k && p.2.1 == j).map (·.2.2)
def MtF (Γ : Pg) (ps : Mts) : Prop := ∀ p ∈ ps, PySem.W.exmOne Γ.K (.ref (Γ.cl p.1)) (.ref (Γ.cl p.2.1)) = some p.2.2
theorem mtD_of {ps : Mts} (h : MtF Γ ps) {k j : Nat} {b : Bool} (e : mtD ps k j = some b) : PySem.W.exmOne Γ.K (.ref (Γ.cl k)) (.ref (Γ.cl j)) = some b := by
  unfold mtD at e
  rw [Option.map_eq_some_iff] at e
  obtain ⟨p, h1, h2⟩ := e
  have h3 := h p (List.mem_of_find?_eq_some h1)
  have h4 := List.find?_some h1
  simp only [Bool.and_eq_true, beq_iff_eq] at h4
  rw [← h4.1, ← h4.2, ← h2]
  exact h3
def clrF (i : Nat) (r : Fl) : Fl := match r with
  | .next es S => if plain (es.set i .no) = true ∧ noAcc es [i] = true then .next (es.set i .no) S else .bad
  | .ret d S => .ret d S
  | _ => .bad
def endF (r : Fl) : Fl := match r with
  | .next es S => if plain es = true then .next es S else .bad
  | .ret d S => .ret d S
  | _ => .bad
abbrev Cl := Nat × Option Nat × SF
def tryL (ps : Mts) (k : Nat) (fs : List (Str × D)) (es : List SD) (S : Store) : List Cl → Fl
  | [] => .exc k fs es S
  | (j, o, f) :: r => match mtD ps k j with
    | some false => tryL ps k fs es S r
    | some true => match o with
      | none => endF (f es S)
      | some i => if noAcc es [i] = true then clrF i (f (es.set i (.exn k fs)) S) else .bad
    | none => .bad
def sTry (ps : Mts) (b : SF) (cs : List Cl) : SF := fun es S => match b es S with
  | .exc k fs es1 S1 => if plain es1 = true then tryL ps k fs es1 S1 cs else .bad
  | r => r
def hdOf (Γ : Pg) (c : Cl) : Hd := ⟨.ref (Γ.cl c.1), c.2.1, fun a cls d => dS Γ ⟨a, cls, d⟩ c.2.2 E0⟩
theorem try_of {ps : Mts} {cs : List Cl} {Dn : Ends} (hK : X.K = Γ.K) (hm : MtF Γ ps) {k : Nat} {fs : List (Str × D)} {es : List SD} {S : Store} {W : Wd} {P0 : Hp} (hp : plain es = true) (h : ContS Γ ξ (tryL ps k fs es S cs) W P0 Dn E) :
    ∀ W' σ' d H', LeS W W' → Ok Γ W' S H' → Frame Γ ξ W' es σ' P0 → RepX (Γ := Γ) W' fs d → wAll X.K E Dn (cs.map (hdOf Γ)) (.ref (Γ.cl k)) d σ' H' := by
  induction cs with
  | nil => exact fun W' σ' d H' l o fr rx => h W' σ' d H' l o fr rx
  | cons c cs ih =>
    obtain ⟨j, o, f⟩ := c
    intro W' σ' d H' l ok fr rx
    unfold tryL at h
    cases em : mtD ps k j with
    | none => rw [em] at h; exact h.elim
    | some b =>
      rw [em] at h
      refine ⟨b, by rw [hK]; exact mtD_of hm em, fun hb a ha => ?_, fun hb => ?_⟩
      · subst hb
        simp only at h
        cases o with
        | none =>
          simp only at h
          show dS Γ ⟨a, _, d⟩ f E0 Dn σ' H'
          refine ⟨W', es, S, P0, ok, fr.other hp, ?_⟩
          cases ef : f es S with
          | next es2 S2 =>
            rw [ef] at h
            simp only [endF] at h
            split at h
            case isFalse => exact h.elim
            rename_i hq
            exact fun W2 σ2 H2 l2 ok2 fr2 => h W2 σ2 H2 (l.trans l2) ok2 (fr2.other hq)
          | ret d2 S2 =>
            rw [ef] at h
            exact fun W2 v2 H2 l2 hP ok2 r2 => h W2 v2 H2 (l.trans l2) hP ok2 r2
          | brk es2 S2 => rw [ef] at h; exact h.elim
          | ct es2 S2 => rw [ef] at h; exact h.elim
          | exc k2 fs2 es2 S2 => rw [ef] at h; exact h.elim
          | bad => rw [ef] at h; exact h.elim
        | some i =>
          simp only at h
          split at h
          case isFalse => exact h.elim
          rename_i hna
          show dS Γ ⟨a, _, d⟩ f E0 (clr i Dn) (σ'.set i (some (.ref a))) H'
          obtain ⟨own, f1, f2⟩ := fr
          refine ⟨W', es.set i (.exn k fs), S, P0, ok, ⟨own, SlotsR.setExn (ξ' := ⟨a, .ref (Γ.cl k), d⟩) rfl rx i (f1.other hp) (noAcc_at hna (by simp)), f2⟩, ?_⟩
          cases ef : f (es.set i (.exn k fs)) S with
          | next es2 S2 =>
            rw [ef] at h
            simp only [clrF] at h
            split at h
            case isFalse => exact h.elim
            rename_i hq
            intro W2 σ2 H2 l2 ok2 ⟨own2, g1, g2⟩
            exact h W2 (σ2.set i none) H2 (l.trans l2) ok2 ⟨own2, SlotsR.other (g1.setNo i (noAcc_at hq.2 (by simp))) hq.1, g2⟩
          | ret d2 S2 =>
            rw [ef] at h
            exact fun W2 v2 H2 l2 hP ok2 r2 => h W2 v2 H2 (l.trans l2) hP ok2 r2
          | brk es2 S2 => rw [ef] at h; exact h.elim
          | ct es2 S2 => rw [ef] at h; exact h.elim
          | exc k2 fs2 es2 S2 => rw [ef] at h; exact h.elim
          | bad => rw [ef] at h; exact h.elim
      · subst hb
        simp only at h
        exact ih h W' σ' d H' l ok fr rx
theorem ds_try {body : List Stmt} {h0 : ExceptHandler} {hds : List ExceptHandler} {pos : Pos} {f : SF} {cs : List Cl} {ps : Mts} (hs : X.stack = X.env :: X.outer) (hf : X.env.frame = some X.env.locals) (hN : X.N.Nodup) (tk : Takes X E) (hK : X.K = Γ.K) (hm : MtF Γ ps)
    (hb : ∀ (W : WX) (pn : List (Addr × Obj)) (xe : Value → Shared → Prop), Takes (X.tr pn xe) W → PassesOwn (model X.prog X.w) X.A X.env xe → PSs (X.tr pn xe) body (dS Γ ξ f W)) (hh : HdsA X (h0 :: hds) (cs.map (hdOf Γ))) :
    PS X (.Try body (h0 :: hds) [] [] pos) (dS Γ ξ (sTry ps f cs) E) := (ps_tryA (tb := fun W => dS Γ ξ f W) hs hf hN tk hb hh).imp fun Dn σ H ⟨W, es, S, P0, ok, fr, h⟩ => by
  refine ⟨W, es, S, P0, ok, fr, ?_⟩
  unfold sTry at h
  cases ef : f es S with
  | exc k fs es1 S1 =>
    rw [ef] at h
    simp only at h
    split at h
    case isFalse => exact h.elim
    rename_i hp
    exact fun W' σ' d H' l ok' fr' rx => try_of hK hm hp h W' σ' d H' l ok' fr' rx
  | next es2 S2 => rw [ef] at h; exact h
  | brk es2 S2 => rw [ef] at h; exact h
  | ct es2 S2 => rw [ef] at h; exact h
  | ret d2 S2 => rw [ef] at h; exact h
  | bad => rw [ef] at h; exact h.elim
/-- e.f of what is caught -/
def XfF (Γ : Pg) (ks : List Nat) (n : Str) : Prop := ∀ k ∈ ks, XfC Γ.K (Γ.cl k) ∧ PySem.W.findIn Γ.K (.ref (Γ.cl k)) n = some none
def eXf (ks : List Nat) (i : Nat) (n : Str) : EF := fun es S => match es[i]? with
  | some (.exn k fs) => if k ∈ ks then match fs with
    | [(m, d)] => if m = n then .ok d S else .bad
    | _ => .bad
    else .bad
  | _ => .bad
theorem de_xf {a : Addr} {oe : Obj} {cls : Value} {d : Option Addr} {pn : List (Addr × Obj)} {x n : Str} {i : Nat} {ks : List Nat} {p pos : Pos} (hK : X.K = Γ.K) (T : XfF Γ ks n) (hz : Zc cls d oe) (hf : ∃ vs, oe.data = .fields vs) (he : PE (X.suite a ((a, oe) :: pn)) (.Name x p) (tVar i))
    (hb : attributeBase (.Name x p) n X.env (eval (.Name x p) X.env) = eval (.Name x p) X.env := by rfl) : PE (X.suite a ((a, oe) :: pn)) (.Attribute (.Name x p) n pos) (dE Γ ⟨a, cls, d⟩ (eXf ks i n) E0) := by
  refine ⟨fun pins s σ H Q I ⟨W, es, S, P0, ok, ⟨own, fr, o⟩, h⟩ => ?_⟩
  unfold eXf at h
  split at h
  case h_2 => exact h.elim
  rename_i k fs hi
  split at h
  case isFalse => exact h.elim
  rename_i hk
  split at h
  case h_2 => exact h.elim
  rename_i m dd
  split at h
  case isFalse => exact h.elim
  rename_i hmn
  subst hmn
  obtain ⟨q1, q2, q3⟩ := fr.exn hi
  obtain ⟨T1, T2⟩ := T k hk
  rcases q3 with q3 | ⟨dx, vfs, q3, q4, q5, q6⟩
  · cases q3
  have q3 : d = some dx := q3
  have q2 : cls = .ref (Γ.cl k) := q2
  obtain ⟨v, hv, rv⟩ : ∃ v, vfs = [(m, v)] ∧ Rep Γ W dd v := by
    match vfs, q5, q6 with
    | [(m', v)], q5, q6 =>
      simp only [List.map_cons, List.map_nil, List.cons.injEq, and_true] at q5
      simp only [List.map_cons, List.map_nil, Reps] at q6
      obtain ⟨_, _, e, r, e2⟩ := q6
      cases e
      subst q5
      exact ⟨v, rfl, r⟩
  refine (pe_xf (C := Γ.cl k) (te := tVar i) (by rw [hK]; exact T1) (by rw [hK]; exact T2) hz hf he hb).run pins s σ H Q I ⟨.ref a, q1, rfl, q2, dx, vfs, v, q3, ok.f _ _ q4, ?_, h W v H (Le.refl W) ok rv⟩
  rw [hv]
  simp [List.lookup]
end
end DL
set_option Elab.async false
set_option linter.all false
set_option maxRecDepth 100000
set_option maxHeartbeats 2000000
set_option autoImplicit false
/-! The data layer, 11: kinds, isinstance, is, == of one's own, globals, walks, stores to cells. -/
namespace DL
open PySem L2 PyProof.Rows

section
variable {Γ : Pg} {ξ : Xx} {X : Cx} {E : WX}
/-! ### kinds -/
def kind : D → Option String
  | .non => some "NoneType"
  | .bl _ => some "bool"
  | .int _ => some "int"
  | .str _ => some "str"
  | .lst _ => some "list"
  | .cell _ => some "list"
  | .tup _ => some "tuple"
  | .dct _ _ => some "dict"
  | _ => none
theorem tyX {W : Wd} {S : Store} {H : Hp} {d : D} {v : V} {t : String} (ok : Ok Γ W S H) (r : Rep Γ W d v) (h : kind d = some t) : TyX Γ.K H v (.type t) := by
  cases d with
  | non => simp only [Rep] at r; subst r; cases h; exact .base .non
  | bl b => simp only [Rep] at r; subst r; cases h; exact .base (.bl b)
  | int b => simp only [Rep] at r; subst r; cases h; exact .base (.int b)
  | str b => simp only [Rep] at r; subst r; cases h; exact .base (.str b)
  | ty _ => cases h
  | cls _ => cases h
  | obj _ _ => cases h
  | cell i =>
    simp only [Rep] at r
    obtain ⟨a, rfl, h2⟩ := r
    obtain ⟨ds, vs, h3, h4, h5⟩ := ok.cell h2
    cases h
    exact .base (.lst h4)
  | lst ds =>
    simp only [Rep] at r
    obtain ⟨a, vs, rfl, h1, h2⟩ := r
    cases h
    rcases h1 with (e | ⟨o, e⟩) | ⟨o, its, n, hk, hc, _⟩
    · exact .base (.lst (ok.f _ _ e))
    · exact .base (.frz (ok.f _ _ e))
    · exact .kList hk hc
  | tup ds =>
    simp only [Rep] at r
    obtain ⟨a, vs, rfl, h1, h2⟩ := r
    cases h
    rcases h1 with (e | ⟨o, e⟩) | ⟨o, its, n, hk, hc, _⟩
    · exact .base (.tup (ok.f _ _ e))
    · exact .fTuple (ok.f _ _ e)
    · exact .kTuple hk hc
  | dct ks ds =>
    simp only [Rep] at r
    obtain ⟨a, kvs, vs, rfl, h1, h2⟩ := r
    cases h
    exact .base (.dK (ok.f _ _ h1))
/-! ### isinstance -/
def kinds : List String := ["NoneType", "bool", "int", "str", "list", "tuple", "dict"]
def tyIs (t n : String) : Option Bool := if kinds.contains t && kinds.contains n && n != "NoneType" then some (t == n || (t == "bool" && n == "int")) else none
theorem tyIs_kit {K : PySem.W.Frag} {t n : String} {b : Bool} (h : tyIs t n = some b) : PySem.W.kitOne K (.type t) (.type n) = some b := by
  have all : ∀ t ∈ kinds, ∀ n ∈ kinds, n ≠ "NoneType" → kitB t n = some (t == n || (t == "bool" && n == "int")) := by decide +kernel
  unfold tyIs at h
  split at h
  · rename_i c
    simp only [Bool.and_eq_true, List.contains_iff_mem, bne_iff_ne, ne_eq] at c
    rw [← h]
    exact kit_ty (all t c.1.1 n c.1.2 c.2)
  · cases h
/-- what isinstance asks of own classes: none of them is below another one or a built-in kind -/
structure IsF (Γ : Pg) (cs : List Nat) : Prop where
  b : ∀ j ∈ cs, ∀ t ∈ kinds, PySem.W.kitOne Γ.K (.type t) (.ref (Γ.cl j)) = some false
  t : ∀ k ∈ cs, ∀ n ∈ kinds, PySem.W.kitOne Γ.K (.ref (Γ.cl k)) (.type n) = some false
  c : ∀ k ∈ cs, ∀ j ∈ cs, PySem.W.kitOne Γ.K (.ref (Γ.cl k)) (.ref (Γ.cl j)) = some (k == j)
  o : ∀ k ∈ cs, SlF Γ k
def isi1 (cs : List Nat) : D → D → Option Bool := fun x c => match kind x, x, c with
  | some t, _, .ty n => tyIs t n
  | some _, _, .cls j => if j ∈ cs then some false else none
  | none, .obj k _, .ty n => if k ∈ cs ∧ n ∈ kinds then some false else none
  | none, .obj k _, .cls j => if k ∈ cs ∧ j ∈ cs then some (k == j) else none
  | _, _, _ => none
theorem kind_mem {x : D} {t : String} (h : kind x = some t) : t ∈ kinds := by
  cases x <;> cases h <;> decide
def gIsi (cs : List Nat) : D → D → Store → Res := fun x c S => match isi1 cs x c with
  | some b => .ok (.bl b) S
  | none => .bad
theorem cr_isi {cs : List Nat} (hK : X.K = Γ.K) (T : IsF Γ cs) : CallR X (.builtin "isinstance") (rC2 Γ (gIsi cs)) := by
  intro pins s σ H vs us Q I r ⟨x, y, W, S, a, b, e, ok, ra, rb, h⟩
  subst e
  unfold gIsi at h
  split at h
  case h_2 => exact h.elim
  rename_i v hv
  have fin : Q (.bl v) H := h W _ H (Le.refl W) ok (by simp only [Rep])
  unfold isi1 at hv
  split at hv
  · rename_i t n hk
    simp only [Rep] at rb
    subst rb
    exact call_isi pins s σ H _ us Q I r ⟨x, .ty n, .type t, .type n, v, rfl, .ty n, by rw [hK]; exact tyX ok ra hk, tyIs_kit hv, fin⟩
  · rename_i t j hk
    simp only [Rep] at rb
    subst rb
    split at hv
    case isFalse => cases hv
    rename_i hj
    cases hv
    exact call_isi pins s σ H _ us Q I r ⟨x, _, .type t, _, false, rfl, .own _, by rw [hK]; exact tyX ok ra hk, by rw [hK]; exact T.b j hj t (kind_mem hk), fin⟩
  · rename_i k ds n hk
    simp only [Rep] at rb
    subst rb
    split at hv
    case isFalse => cases hv
    rename_i hj
    cases hv
    obtain ⟨p, dx, ws, rfl, q2, q3⟩ := asO ok ra
    exact SlX.call_isiSl (.type n) pins s σ H _ us Q I r ⟨p, _, dx, _, .ty n, false, rfl, rfl, fun w hw => hw, q2, by rw [hK]; exact (T.o k hj.1).sc, by rw [hK]; exact (T.o k hj.1).si, by rw [hK]; exact T.t k hj.1 n hj.2, fin⟩
  · rename_i k ds j hk
    simp only [Rep] at rb
    subst rb
    split at hv
    case isFalse => cases hv
    rename_i hj
    cases hv
    obtain ⟨p, dx, ws, rfl, q2, q3⟩ := asO ok ra
    exact SlX.call_isiSl (.ref (Γ.cl j)) pins s σ H _ us Q I r ⟨p, _, dx, _, .ref (Γ.cl j), _, rfl, rfl, fun w hw => hw, q2, by rw [hK]; exact (T.o k hj.1).sc, by rw [hK]; exact (T.o k hj.1).si, by rw [hK]; exact T.c k hj.1 j hj.2, fin⟩
  · cases hv

/-! ### is, is not: beside None and truths -/
def isNon : D → Bool
  | .non => true
  | _ => false
theorem isNon_rep {W : Wd} {d : D} {v : V} (r : Rep Γ W d v) : decide (v = .non) = isNon d := by
  cases d with
  | non => simp only [Rep] at r; subst r; rfl
  | bl b => simp only [Rep] at r; subst r; rfl
  | int b => simp only [Rep] at r; subst r; rfl
  | str b => simp only [Rep] at r; subst r; rfl
  | ty b => simp only [Rep] at r; subst r; rfl
  | cls b => simp only [Rep] at r; subst r; rfl
  | cell i => simp only [Rep] at r; obtain ⟨a, rfl, _⟩ := r; rfl
  | lst ds => simp only [Rep] at r; obtain ⟨a, vs, rfl, _⟩ := r; rfl
  | tup ds => simp only [Rep] at r; obtain ⟨a, vs, rfl, _⟩ := r; rfl
  | obj k ds => simp only [Rep] at r; obtain ⟨a, dx, vs, rfl, _⟩ := r; rfl
  | dct k ds => simp only [Rep] at r; obtain ⟨a, dx, vs, rfl, _⟩ := r; rfl
def gIs (neg : Bool) : D → D → Store → Res := fun x y S => match x, y with
  | x, .non => .ok (.bl (xor neg (isNon x))) S
  | .bl a, .bl b => .ok (.bl (xor neg (decide (a = b)))) S
  | _, _ => .bad
theorem op_gIs : OpR X (compareOp .Is) (rD Γ (gIs false)) := by
  intro pins s σ H x y v u Q I rx ry ⟨W, S, a, b, ok, ra, rb, h⟩
  unfold gIs at h
  split at h
  · simp only [Rep] at rb
    subst rb
    refine op_isN pins s σ H _ _ v u Q I rx ry ⟨rfl, ?_⟩
    rw [isNon_rep ra]
    exact h W _ H (Le.refl W) ok (by simp only [Rep, Bool.false_xor])
  · simp only [Rep] at ra rb
    subst ra rb
    exact op_is_bl pins s σ H _ _ v u Q I rx ry ⟨_, _, rfl, rfl, h W _ H (Le.refl W) ok (by simp only [Rep, Bool.false_xor])⟩
  · exact h.elim
theorem op_gIsNot : OpR X (compareOp .IsNot) (rD Γ (gIs true)) := by
  intro pins s σ H x y v u Q I rx ry ⟨W, S, a, b, ok, ra, rb, h⟩
  unfold gIs at h
  split at h
  · simp only [Rep] at rb
    subst rb
    refine op_notN pins s σ H _ _ v u Q I rx ry ⟨rfl, ?_⟩
    rw [isNon_rep ra]
    exact h W _ H (Le.refl W) ok (by simp only [Rep, Bool.true_xor])
  · simp only [Rep] at ra rb
    subst ra rb
    exact op_isnot_bl pins s σ H _ _ v u Q I rx ry ⟨_, _, rfl, rfl, h W _ H (Le.refl W) ok (by simp only [Rep, Bool.true_xor])⟩
  · exact h.elim

/-! ### x == y, x an instance of an own class -/
def gOwnEq (cs : List Nat) (k : Nat) (den : List D → Store → Res) : D → D → Store → Res := fun x y S => if isObj k x then match kind y, y with
  | some _, _ => chk 2 den [x, y] S
  | none, .obj j _ => if j ∈ cs then chk 2 den [x, y] S else .bad
  | _, _ => .bad
  else .bad
structure EqF (Γ : Pg) (cs : List Nat) (k : Nat) (g : Addr) : Prop where
  hs : PySem.W.findIn Γ.K (.ref (Γ.cl k)) "__eq__" = some (some (.ref g))
  hf : PySem.W.isFn Γ.K (.ref g) = true
  hb : ∀ t ∈ kinds, PySem.W.notFirst Γ.K (Γ.cl k) (.type t) = true
  hc : ∀ j ∈ cs, PySem.W.notFirst Γ.K (Γ.cl k) (.ref (Γ.cl j)) = true
theorem op_ownEq {cs : List Nat} {k j n : Nat} {g : Addr} {P : Program} {w : World} {mg : Str → Option Value} {base : Heap} {den : List D → Store → Res} (hh : Here Γ P w mg base n X E) (b : EqF Γ cs k g) (G : CalR Γ P w mg base j g 2 den) (hj : j ≤ n := by decide) : OpR X (compareOp .Eq) (rD Γ (gOwnEq cs k den)) := by
  obtain ⟨h1, h2, h3, h4, h5, h6, h7⟩ := hh
  subst h1 h2 h4 h5
  intro pins s σ H x y v u Q I rx ry ⟨W, S, a, b', ok, ra, rb, h⟩
  unfold gOwnEq at h
  split at h
  case isFalse => exact h.elim
  rename_i hx
  obtain ⟨ds, rfl⟩ := isObj_of hx
  obtain ⟨p, dx, vs, rfl, q2, q3⟩ := asO ok ra
  obtain rfl : v = Value.ref p := rx
  obtain ⟨m, hF⟩ := I.fr
  obtain ⟨sl, od, _, J, _⟩ := SlX.slt_inst I q2
  have run : Cont Γ (chk 2 den [.obj k ds, b'] S) W Q (fun _ _ _ => False) → wpAny (model X.prog X.w) X.A (call (.ref g) [.ref p, u]) (PySem.W.CmpBack (EP X pins σ Q)) X.xe s := fun h' =>
    wpAny_mono (wpAny_call (runA (us := [.ref p, u]) (vs := [.ref p, y]) (E := fun _ _ _ => False) (by rw [h3]; exact G.run) (h6.mono hj) I.env0 (fun _ _ _ _ _ _ z => by
      obtain ⟨_, _, _, _, _, _, _, _, _, _, _, _, z⟩ := z
      exact z.elim) I (.cons rfl (.cons ry .nil)) (spD_of ok (Reps.cons ra (Reps.cons rb Reps.nil)) h'))) (fun w s' z => by
        obtain ⟨z', H', I', rz, qz⟩ := z
        exact SlX.cmpback rz ⟨z', H', I', rz, qz⟩) fun _ _ x => x
  refine PySem.W.cmp_ofEq ?_
  split at h
  · rename_i t hk
    obtain ⟨P, Z, pz, _⟩ := kit_of I ry (show TyX X.K H y (.type t) by rw [h3]; exact tyX ok rb hk)
    exact PySem.W.cmp_K (op := .Eq) h6.units0 hF I.ok.mod.kin J (Z.ty _ _ I.kIn pz) (by rw [h3]; exact b.hb t (kind_mem hk)) (by rw [h3]; exact b.hs) (by rw [h3]; exact b.hf) (run h)
  · rename_i j ds' hk
    split at h
    case isFalse => exact h.elim
    rename_i hj'
    obtain ⟨p', dx', vs', rfl, q2', q3'⟩ := asO ok rb
    obtain rfl : u = Value.ref p' := ry
    obtain ⟨sl', od', _, J', _⟩ := SlX.slt_inst I q2'
    exact PySem.W.cmp_K (op := .Eq) h6.units0 hF I.ok.mod.kin J J'.type (by rw [h3]; exact b.hc j hj') (by rw [h3]; exact b.hs) (by rw [h3]; exact b.hf) (run h)
  · exact h.elim

/-! ### names of the module, of the built-ins -/
structure GlobF (Γ : Pg) (mg : Str → Option Value) (x : Str) (d : D) : Prop where
  ex : ∃ u v, mg x = some u ∧ RelV v u ∧ ∀ W, Rep Γ W d v
theorem de_glob {x : Str} {d : D} {p : Pos} {mg : Str → Option Value} (hm : X.mg = mg) (g : GlobF Γ mg x d) (hg : Gl X x := by rfl) (hd : (x == ("__debug__" : Str)) = false := by decide) : PE X (.Name x p) (dE Γ ξ (eC d) E) := by
  obtain ⟨u, v, h1, h2, h3⟩ := g.ex
  exact de_c (pe_glob hg (by rw [hm]; exact h1) h2 hd) h3
theorem de_ty {x : Str} {n : String} {p : Pos} (hm : X.mg x = none) (hv : bootBuiltins x = some (.type n)) (hg : Gl X x := by rfl) (hn : x ≠ "__name__" := by decide) (hd : (x == ("__debug__" : Str)) = false := by decide) : PE X (.Name x p) (dE Γ ξ (eC (.ty n)) E) :=
  de_c (pe_bltn hg hm hv (v := .ty n) rfl hn hd) fun W => by simp only [Rep]

/-! ### what is walked -/
theorem _root_.L2.PI.or {X : Cx} {tg e : Expr} {t t' : TI} (h : PI X tg e t) (h' : PI X tg e t') : PI X tg e (fun σ H R => t σ H R ∨ t' σ H R) := ⟨fun pins s σ H R I z => z.elim (h.run pins s σ H R I) (h'.run pins s σ H R I)⟩
def itSeq (f : EF) : AF := fun es S => (f es S).bindA fun d S1 => match d with
  | .lst ds => .ok ds S1
  | .tup ds => .ok ds S1
  | .str z => .ok (z.cps.toList.map fun c => .str ⟨#[c]⟩) S1
  | _ => .bad
theorem yld_str {W : Wd} {z : Str} : Yld Γ W (Its z) (z.cps.toList.map fun c => .str ⟨#[c]⟩) := fun W' S H l ok => by
  refine ⟨by simp [Its], fun i d hd => ?_⟩
  rw [List.getElem?_map] at hd
  by_cases hi : i < z.cps.size
  · refine ⟨hi, fun x H' ⟨e1, c, e2, e3⟩ => ⟨W', Le.refl _, by rw [e1]; exact ok, ?_⟩⟩
    have e4 : z.cps.toList[i]? = some c := by rw [Array.getElem?_toList]; exact e2
    rw [e4] at hd
    obtain rfl := Option.some.inj hd
    simp only [Rep]
    exact e3
  · rw [List.getElem?_eq_none (by simp; omega)] at hd
    cases hd
theorem di_seq {tg e : Expr} {f : EF} (hK : X.K = Γ.K) (he : PE X e (dE Γ ξ f E)) : PI X tg e (dI Γ ξ (itSeq f) E) :=
  (((pi_list he).or (pi_tup he)).or (pi_str he)).imp fun σ H R ⟨W, es, S, P0, ok, fr, h⟩ => by
    unfold itSeq at h
    cases e : f es S with
    | bad => rw [e] at h; exact h.elim
    | exc k fs S1 => rw [e] at h; exact .inl (.inl ⟨W, es, S, P0, ok, fr, by rw [e]; exact h⟩)
    | ok d S1 =>
      rw [e] at h
      cases d with
      | lst ds =>
        refine .inl (.inl ⟨W, es, S, P0, ok, fr, ?_⟩)
        rw [e]
        intro W1 v H1 l ok1 rv
        simp only [Rep] at rv
        obtain ⟨a, vs, rfl, q1, q2⟩ := rv
        rw [hK]
        exact ⟨a, rfl, ⟨vs, sqL_H ok1.f q1⟩, h W1 _ H1 l ok1 (yld_list q1 q2)⟩
      | tup ds =>
        refine .inl (.inr ⟨W, es, S, P0, ok, fr, ?_⟩)
        rw [e]
        intro W1 v H1 l ok1 rv
        simp only [Rep] at rv
        obtain ⟨a, vs, rfl, q1, q2⟩ := rv
        rw [hK]
        exact ⟨a, rfl, ⟨vs, sqT_H ok1.f q1⟩, h W1 _ H1 l ok1 (yld_tup q1 q2)⟩
      | str z =>
        refine .inr ⟨W, es, S, P0, ok, fr, ?_⟩
        rw [e]
        intro W1 v H1 l ok1 rv
        simp only [Rep] at rv
        exact ⟨z, rv, h W1 _ H1 l ok1 yld_str⟩
      | _ => exact h.elim
/-- zip of two lists, of two tuples -/
theorem yld_zip {W : Wd} {a b : Addr} {vs us : List V} {ds fs : List D} (h : SqL Γ.K W.F a vs) (h' : SqL Γ.K W.F b us) (r : Reps Γ W ds vs) (r' : Reps Γ W fs us) : Yld Γ W (Itz Γ.K a b) ((ds.zip fs).map fun p => .tup [p.1, p.2]) := fun W' S H l ok => by
  have q : SqL Γ.K H a vs := sqL_H ok.f (sqL_le l h)
  have q' : SqL Γ.K H b us := sqL_H ok.f (sqL_le l h')
  refine ⟨⟨vs, us, q, q', ?_⟩, fun i d hd => ?_⟩
  · rw [r.length, r'.length, List.length_map, List.length_zip]
    omega
  · rw [List.getElem?_map, Option.map_eq_some_iff] at hd
    obtain ⟨⟨x, y⟩, h1, rfl⟩ := hd
    rw [List.getElem?_zip_eq_some] at h1
    obtain ⟨v, hv, rv⟩ := r.get h1.1
    obtain ⟨u, hu, ru⟩ := r'.get h1.2
    refine ⟨⟨vs, us, v, u, q, q', hv, hu⟩, fun z H' ⟨T, x', y', e1, hT, e2, e3, e4⟩ => ?_⟩
    have e3 := e3 vs q
    have e4 := e4 us q'
    rw [hv] at e3
    rw [hu] at e4
    obtain rfl := Option.some.inj e3
    obtain rfl := Option.some.inj e4
    subst e1 e2
    have l2 := Le.lay (o := .tup [v, u]) (ok.fresh hT).1
    exact ⟨_, l2, ok.lay hT _, rep_tup (Reps.cons ((rv.mono l).mono l2.s) (Reps.cons ((ru.mono l).mono l2.s) Reps.nil))⟩
theorem yld_zipT {W : Wd} {a b : Addr} {vs us : List V} {ds fs : List D} (h : SqT Γ.K W.F a vs) (h' : SqT Γ.K W.F b us) (r : Reps Γ W ds vs) (r' : Reps Γ W fs us) : Yld Γ W (RZ.ItzT Γ.K a b) ((ds.zip fs).map fun p => .tup [p.1, p.2]) := fun W' S H l ok => by
  have q : SqT Γ.K H a vs := sqT_H ok.f (sqT_le l h)
  have q' : SqT Γ.K H b us := sqT_H ok.f (sqT_le l h')
  refine ⟨⟨vs, us, q, q', ?_⟩, fun i d hd => ?_⟩
  · rw [r.length, r'.length, List.length_map, List.length_zip]
    omega
  · rw [List.getElem?_map, Option.map_eq_some_iff] at hd
    obtain ⟨⟨x, y⟩, h1, rfl⟩ := hd
    rw [List.getElem?_zip_eq_some] at h1
    obtain ⟨v, hv, rv⟩ := r.get h1.1
    obtain ⟨u, hu, ru⟩ := r'.get h1.2
    refine ⟨⟨vs, us, v, u, q, q', hv, hu⟩, fun z H' ⟨T, x', y', e1, hT, e2, e3, e4⟩ => ?_⟩
    have e3 := e3 vs q
    have e4 := e4 us q'
    rw [hv] at e3
    rw [hu] at e4
    obtain rfl := Option.some.inj e3
    obtain rfl := Option.some.inj e4
    subst e1 e2
    have l2 := Le.lay (o := .tup [v, u]) (ok.fresh hT).1
    exact ⟨_, l2, ok.lay hT _, rep_tup (Reps.cons ((rv.mono l).mono l2.s) (Reps.cons ((ru.mono l).mono l2.s) Reps.nil))⟩
def itZip (a : AF) : AF := fun es S => (a es S).bindL fun ds S1 => match ds with
  | [.lst xs, .lst ys] => .ok ((xs.zip ys).map fun p => .tup [p.1, p.2]) S1
  | [.tup xs, .tup ys] => .ok ((xs.zip ys).map fun p => .tup [p.1, p.2]) S1
  | _ => .bad

/-! ### a cell's item is stored -/
def sStore (fo fi fe : EF) : SF := fun es S => (fe es S).toS es fun d S1 => (fo es S1).toS es fun o S2 => (fi es S2).toS es fun i S3 => match o, i with
  | .cell c, .int k => match S3[c]? with
    | some ds => match ixN ds.length k with
      | some j => .next es (S3.set c (ds.set j d))
      | none => .bad
    | none => .bad
  | _, _ => .bad
theorem Reps.set {W : Wd} {d : D} {v : V} (r : Rep Γ W d v) : ∀ {ds : List D} {vs : List V} (j : Nat), Reps Γ W ds vs → Reps Γ W (ds.set j d) (vs.set j v)
  | [], vs, j, h => by simp only [Reps] at h; subst h; exact Reps.nil
  | d0 :: ds, vs, j, h => by
    simp only [Reps] at h
    obtain ⟨v0, vs', rfl, h1, h2⟩ := h
    cases j with
    | zero => exact Reps.cons r h2
    | succ j => exact Reps.cons h1 (Reps.set r j h2)
theorem Ok.cellSet {W : Wd} {S : Store} {H : Hp} (ok : Ok Γ W S H) {c : Nat} {a : Addr} (hm : W.m[c]? = some a) {ds : List D} {vs : List V} (r : Reps Γ W ds vs) : Ok Γ W (S.set c ds) (upd H a (.lst vs)) := by
  obtain ⟨hF, hP⟩ := ok.m c a hm
  refine ⟨fun b u e => ?_, fun b u e => ?_, ok.m, ok.nd, by rw [List.length_set]; exact ok.len, fun i b fs e1 e2 => ?_⟩
  · rw [upd_ne (ne_of_none e hF)]
    exact ok.f b u e
  · rw [upd_ne (ne_of_none e hP)]
    exact ok.p b u e
  · by_cases z : c = i
    · subst z
      rw [hm] at e1
      obtain rfl := Option.some.inj e1
      have hl : c < S.length := by rw [← ok.len]; exact (List.getElem?_eq_some_iff.mp hm).1
      rw [List.getElem?_set_self hl] at e2
      obtain rfl := Option.some.inj e2
      exact ⟨vs, upd_same, r⟩
    · rw [List.getElem?_set_ne z] at e2
      have n : b ≠ a := fun q => z (by
        subst q
        have h1 := List.getElem?_eq_some_iff.mp hm
        have h2 := List.getElem?_eq_some_iff.mp e1
        exact (List.getElem_inj ok.nd).mp (h1.2.trans h2.2.symm))
      obtain ⟨us, q3, q4⟩ := ok.c i b fs e1 e2
      exact ⟨us, by rw [upd_ne n]; exact q3, q4⟩
theorem ds_store {o i e : Expr} {fo fi fe : EF} {tpos pos : Pos} (ho : PE X o (dE Γ ξ fo E)) (hi : PE X i (dE Γ ξ fi E)) (he : PE X e (dE Γ ξ fe E)) (hs : swapsWithSole [.Subscript o i tpos] e pos.line X.env = pure false := by rfl) (hw : swappedStores [.Subscript o i tpos] e X.env = pure none := by rfl)
    (h1 : (assignEach [.Subscript o i tpos] X.env).map (·.2) = [assign (.Subscript o i tpos) X.env] := by rfl)
    (ha : ∀ v, assign (.Subscript o i tpos) X.env v = (do
      let ov ← holding [v] (eval o X.env)
      let iv ← holding [v, ov] (eval i X.env)
      standAt tpos
      holding [v, ov, iv] (setItem ov iv v)
      release [v, ov, iv] []) := by intro _; rfl) : PS X (.Assign [.Subscript o i tpos] e pos) (dS Γ ξ (sStore fo fi fe) E) :=
  (ps_asg he (pg_sub ho hi set_list ha) hs hw h1).imp fun Dn σ H ⟨W, es, S, P0, ok, fr, h⟩ => by
    refine ⟨W, es, S, P0, ok, fr, ContS.toS fr h fun d S1 W1 v H1 l1 ok1 r1 h1 => ?_⟩
    refine ⟨W1, es, S1, P0, ok1, fr.le l1, ContS.toS (fr.le l1) h1 fun o S2 W2 ov H2 l2 ok2 r2 h2 => ?_⟩
    refine ⟨W2, es, S2, P0, ok2, (fr.le l1).le l2, ContS.toS ((fr.le l1).le l2) h2 fun i S3 W3 iv H3 l3 ok3 r3 h3 => ?_⟩
    split at h3
    case h_2 => exact h3.elim
    rename_i c k
    split at h3
    case h_2 => exact h3.elim
    rename_i ds hc
    split at h3
    case h_2 => exact h3.elim
    rename_i j hj
    have r2' := r2.mono l3.s
    simp only [Rep] at r2' r3
    obtain ⟨a, rfl, hm⟩ := r2'
    subst r3
    obtain ⟨ds', vs, q1, q2, q3⟩ := ok3.cell hm
    rw [hc] at q1
    obtain rfl := Option.some.inj q1
    refine ⟨a, vs, k, j, rfl, rfl, q2, by rw [q3.length]; exact hj, ?_⟩
    exact h3 W3 σ _ (LeS.refl _) (ok3.cellSet hm (q3.set (r1.mono (l2.trans l3).s) j)) (((fr.le l1).le l2).le l3)
end
end DL
set_option Elab.async false
set_option linter.all false
set_option maxRecDepth 100000
namespace DL
open PySem PySem.Spec PyProof.Rows L2
section
variable {Γ : Pg} {ξ : Xx} {X : Cx} {E : WX}
/-! ### zip of two -/
theorem di_zip {e e2 : Expr} {ta : AF} {p pos tpos : Pos} {elts : List Expr} {kk : Nat} (hK : X.K = Γ.K) (hm : X.mg "zip" = none) (ha : PA X [e, e2] (dA Γ ξ ta E)) (hg : Gl X "zip" := by rfl)
    (hs : starEach [e, e2] X.env = (false, eval e X.env) :: starEach [e2] X.env := by rfl) (hpl : (backTo pos (starEach [e2] X.env)).any (·.1) = false := by rfl) :
    PI X (.Tuple elts kk tpos) (.Call (.Name "zip" p) [e, e2] [] pos) (dI Γ ξ (itZip ta) E) :=
  (RZ.pi_zipA hg hm ha hs hpl).imp fun σ H R ⟨W, es, S, P0, ok, fr, h⟩ => by
    refine ⟨W, es, S, P0, ok, fr, ?_⟩
    unfold itZip at h
    cases e : ta es S with
    | bad => rw [e] at h; exact h.elim
    | exc k fs S1 => rw [e] at h; exact h
    | ok ds S1 =>
      rw [e] at h
      intro W1 vs H1 l1 ok1 rs
      simp only [ResA.bindL] at h
      split at h
      case h_3 => exact h.elim
      all_goals
        rename_i xs ys
        simp only [Reps] at rs
        obtain ⟨v, vs', rfl, r1, u, us', rfl, r2, rfl⟩ := rs
        simp only [Rep] at r1 r2
        obtain ⟨a, va, rfl, q1, q2⟩ := r1
        obtain ⟨b, vb, rfl, q3, q4⟩ := r2
      · rw [hK]
        exact ⟨a, b, va, vb, rfl, .inl ⟨sqL_H ok1.f q1, sqL_H ok1.f q3, h W1 _ H1 l1 ok1 (yld_zip q1 q3 q2 q4)⟩⟩
      · rw [hK]
        exact ⟨a, b, va, vb, rfl, .inr ⟨sqT_H ok1.f q1, sqT_H ok1.f q3, h W1 _ H1 l1 ok1 (yld_zipT q1 q3 q2 q4)⟩⟩

/-! ### {} -/
def eDict0 : EF := fun _ S => .ok (.dct [] []) S
theorem de_dict0 {pos : Pos} : PE X (.Dict [] [] pos) (dE Γ ξ eDict0 E) := pe_dnewK.imp fun σ H Q ⟨W, es, S, P0, ok, fr, h⟩ p hp => by
  have l : Le W { W with F := upd W.F p (.dK []) } := Le.lay (ok.fresh hp).1
  refine h _ _ _ l (ok.lay hp _) ?_
  simp only [Rep]
  exact ⟨p, [], [], rfl, upd_same, rfl, rfl, Reps.nil⟩

/-! ### == of lists of plain data and empty dicts -/
def eqI : D → D → Option Bool
  | .dct [] [], .dct [] [] => some true
  | a, b => match toP a, toP b with
    | some p, some q => if SeqAt.shaped p && SeqAt.shaped q then some (PyData.eqv p q) else none
    | _, _ => none
def eqIs : List D → List D → Option Bool
  | [], [] => some true
  | a :: as, b :: bs => (eqI a b).bind fun x => (eqIs as bs).map fun y => x && y
  | _, _ => none
def eqLB (S : Store) (a b : D) : Option Bool := match deref S a, deref S b with
  | .lst xs, .lst ys => eqIs xs ys
  | _, _ => none
def gEqL : D → D → Store → Res := fun x y S => match eqLB S x y with
  | some b => .ok (.bl b) S
  | none => .bad
def gNeL : D → D → Store → Res := fun x y S => match eqLB S x y with
  | some b => .ok (.bl (!b)) S
  | none => .bad
theorem eqAt_dict0 {A : Around} {P : Program} {w : World} {s : Shared} {a b : Addr} (hu : A.units < cLine) (ha : (a == sysModules) = false) (hb : (b == sysModules) = false) (da : s.heap.DictOf (mixKind P w) a []) (db : s.heap.DictOf (mixKind P w) b []) : SeqAt.EqAt A s (.ref a) (.ref b) true := fun prog w' => by
  have z : ∀ c, s.heap.DictOf (mixKind P w) c [] → s.heap.DictOf (mixKind prog w') c [] := fun c ⟨o, es, ep, h1, h2, h3, h4, h5, h6⟩ => by
    have e : es = #[] := by
      have := h5.length
      simpa using this
    subst e
    exact ⟨o, #[], ep, h1, h2, h3, fun _ he => by simp at he, .nil, List.nodup_nil⟩
  by_cases hab : a = b
  · subst hab
    exact SeqAt.EqAt.same _ prog w'
  · exact SeqAt.eqP_refs hab fun E Q h => PySem.W.rcP_dicts ha hb (z _ da) (z _ db) hu (fun _ => .nil) E Q h
theorem eqAt_I {A : Around} {W : Wd} {S : Store} {H : Hp} {pins : List (Addr × Obj)} {σ : L2.St} {s : Shared} (hK : X.K = Γ.K) (hu : A.units + 64 < cLine) (ok : Ok Γ W S H) (I : Inv X pins σ H s) {d e : D} {x y : V} {v u : Value} {b : Bool} (h : eqI d e = some b) (r : Rep Γ W d x) (r' : Rep Γ W e y) (rx : RelV x v) (ry : RelV y u) : SeqAt.EqAt A s v u b := by
  unfold eqI at h
  split at h
  · cases h
    simp only [Rep] at r r'
    obtain ⟨a, kvs, vs, rfl, q1, q2, q3, _⟩ := r
    obtain ⟨a', kvs', vs', rfl, q1', q2', q3', _⟩ := r'
    have e1 : kvs = [] := List.map_eq_nil_iff.mp q2
    have e2 : kvs' = [] := List.map_eq_nil_iff.mp q2'
    subst e1 e2
    obtain ⟨_, hS, xs, z1, z2⟩ := dk_of I.hok (ok.f _ _ q1)
    obtain ⟨_, hS', xs', z1', z2'⟩ := dk_of I.hok (ok.f _ _ q1')
    cases z1
    cases z1'
    obtain rfl : v = Value.ref a := rx
    obtain rfl : u = Value.ref a' := ry
    exact eqAt_dict0 (by omega) hS hS' z2 z2'
  · split at h
    · rename_i p q hp hq
      split at h
      · rename_i hs
        cases h
        have hs := Bool.and_eq_true_iff.mp hs
        obtain ⟨as, r1⟩ := Dp.reads I p x v (by rw [hK]; exact dp_of ok.f r hp) rx
        obtain ⟨bs, r2⟩ := Dp.reads I q y u (by rw [hK]; exact dp_of ok.f r' hq) ry
        exact SeqAt.eqAt_reads p q A s v u as bs r1 r2 (SeqAt.canLay_of_shaped hs.1) (SeqAt.canLay_of_shaped hs.2) (SeqAt.room_of_shaped hs.1 hu)
      · cases h
    · cases h
theorem eqAt_Is {A : Around} {W : Wd} {S : Store} {H : Hp} {pins : List (Addr × Obj)} {σ : L2.St} {s : Shared} (hK : X.K = Γ.K) (hu : A.units + 64 < cLine) (ok : Ok Γ W S H) (I : Inv X pins σ H s) : ∀ {ds es : List D} {xs ys : List V} {vs us : List Value} {b : Bool}, eqIs ds es = some b → Reps Γ W ds xs → Reps Γ W es ys → Vals xs vs → Vals ys us →
    ∃ e : Nat → Bool, vs.length = us.length ∧ b = (List.range vs.length).all e ∧ ∀ j (h1 : j < vs.length) (h2 : j < us.length), SeqAt.EqAt A s vs[j] us[j] (e j)
  | [], [], xs, ys, vs, us, b, h, r, r', rv, ru => by
    simp only [Reps] at r r'
    subst r r'
    cases rv
    cases ru
    simp only [eqIs, Option.some.injEq] at h
    subst h
    exact ⟨fun _ => true, rfl, rfl, fun j h1 => absurd h1 (Nat.not_lt_zero _)⟩
  | d :: ds, e :: es, xs, ys, vs, us, b, h, r, r', rv, ru => by
    simp only [Reps] at r r'
    obtain ⟨x, xs', rfl, r1, r2⟩ := r
    obtain ⟨y, ys', rfl, r1', r2'⟩ := r'
    cases rv with
    | cons w1 w2 =>
      cases ru with
      | cons t1 t2 =>
        simp only [eqIs, Option.bind_eq_some_iff, Option.map_eq_some_iff] at h
        obtain ⟨b1, h1, b2, h2, rfl⟩ := h
        obtain ⟨f, l, rfl, q⟩ := eqAt_Is hK hu ok I h2 r2 r2' w2 t2
        have q0 := eqAt_I (A := A) hK hu ok I h1 r1 r1' w1 t1
        refine ⟨fun j => match j with | 0 => b1 | j + 1 => f j, congrArg Nat.succ l, ?_, fun j h1 h2 => ?_⟩
        · rw [List.length_cons, List.range_succ_eq_map, List.all_cons, List.all_map]
          rfl
        · cases j with
          | zero => exact q0
          | succ j => exact q j (Nat.lt_of_succ_lt_succ h1) (Nat.lt_of_succ_lt_succ h2)
  | [], e :: es, _, _, _, _, _, h, _, _, _, _ => by cases h
  | d :: ds, [], _, _, _, _, _, h, _, _, _, _ => by cases h
theorem lst_of {W : Wd} {S : Store} {H : Hp} (ok : Ok Γ W S H) {d : D} {ds : List D} {v : V} (r : Rep Γ W d v) (h : deref S d = .lst ds) : ∃ a vs, v = .ref a ∧ SqL Γ.K H a vs ∧ Reps Γ W ds vs := by
  cases d with
  | cell i =>
    simp only [Rep] at r
    obtain ⟨a, rfl, h2⟩ := r
    obtain ⟨fs, vs, h3, h4, h5⟩ := ok.cell h2
    simp only [deref, h3, D.lst.injEq] at h
    subst h
    exact ⟨a, vs, rfl, .inl (.inl h4), h5⟩
  | lst fs =>
    simp only [deref, D.lst.injEq] at h
    subst h
    simp only [Rep] at r
    obtain ⟨a, vs, rfl, h2, h3⟩ := r
    exact ⟨a, vs, rfl, sqL_H ok.f h2, h3⟩
  | _ => cases h
theorem op_gEqL (hK : X.K = Γ.K) (hu : X.A.units + 66 < cLine) : OpR X (compareOp .Eq) (rD Γ gEqL) := by
  intro pins s σ H x y v u Q I rx ry ⟨W, S, a, b, ok, ra, rb, h⟩
  unfold gEqL eqLB at h
  split at h
  case h_2 => exact h.elim
  rename_i r hr
  split at hr
  case h_2 => cases hr
  rename_i xs ys hx hy
  obtain ⟨p, vs, rfl, q1, q2⟩ := lst_of ok ra hx
  obtain ⟨p', vs', rfl, q1', q2'⟩ := lst_of ok rb hy
  obtain rfl : v = Value.ref p := rx
  obtain rfl : u = Value.ref p' := ry
  obtain ⟨its, rv, pl, _⟩ := I.list (by rw [hK]; exact q1)
  obtain ⟨its', rv', pl', _⟩ := I.list (by rw [hK]; exact q1')
  obtain ⟨e, l, rfl, q⟩ := eqAt_Is (A := X.A.in1) hK (by show X.A.units + 1 + 64 < cLine; omega) ok I hr q2 q2' rv rv'
  exact (SeqAt.RcAt.lists pl.isList pl'.isList (by simpa using l) (by omega) (e := e) fun j h1 h2 => by simpa using q j (by simpa using h1) (by simpa using h2)) _ _ _ _ ⟨.bl _, H, I, rfl, by simpa using h W _ H (Le.refl W) ok (by simp only [Rep])⟩
theorem op_gNeL (hK : X.K = Γ.K) (hu : X.A.units + 66 < cLine) : OpR X (compareOp .NotEq) (rD Γ gNeL) := by
  intro pins s σ H x y v u Q I rx ry ⟨W, S, a, b, ok, ra, rb, h⟩
  unfold gNeL eqLB at h
  split at h
  case h_2 => exact h.elim
  rename_i r hr
  split at hr
  case h_2 => cases hr
  rename_i xs ys hx hy
  obtain ⟨p, vs, rfl, q1, q2⟩ := lst_of ok ra hx
  obtain ⟨p', vs', rfl, q1', q2'⟩ := lst_of ok rb hy
  obtain rfl : v = Value.ref p := rx
  obtain rfl : u = Value.ref p' := ry
  obtain ⟨its, rv, pl, _⟩ := I.list (by rw [hK]; exact q1)
  obtain ⟨its', rv', pl', _⟩ := I.list (by rw [hK]; exact q1')
  obtain ⟨e, l, rfl, q⟩ := eqAt_Is (A := X.A.in1) hK (by show X.A.units + 1 + 64 < cLine; omega) ok I hr q2 q2' rv rv'
  exact (SeqAt.RcNeAt.lists pl.isList pl'.isList (by simpa using l) (by omega) (e := e) fun j h1 h2 => by simpa using q j (by simpa using h1) (by simpa using h2)) _ _ _ _ ⟨.bl _, H, I, rfl, by simpa using h W _ H (Le.refl W) ok (by simp only [Rep])⟩

/-! ### keywords -/
theorem _root_.L2.PK.imp {X : Cx} {ks : List Keyword} {t t' : TA} (h : PK X ks t) (q : ∀ σ H Q, t' σ H Q → t σ H Q) : PK X ks t' := ⟨fun p pins s σ H Q I z => h.run p pins s σ H Q I (q σ H Q z)⟩
theorem dk_nil : PK X [] (dA Γ ξ aNil E) := pk_nil.imp fun σ H Q ⟨W, es, S, P0, ok, fr, h⟩ => h W _ H (Le.refl W) ok Reps.nil
theorem dk_cons {nm : Option Str} {kpos : Pos} {e : Expr} {ks : List Keyword} {f : EF} {g : AF} (he : PE X e (dE Γ ξ f E)) (hr : PK X ks (dA Γ ξ g E)) : PK X (⟨nm, e, kpos⟩ :: ks) (dA Γ ξ (aCons f g) E) :=
  (pk_cons he hr).imp fun σ H Q ⟨W, es, S, P0, ok, fr, h⟩ => ⟨W, es, S, P0, ok, fr, Cont.bindA h fun d S1 W1 v H1 le ok1 rv h1 => ⟨W1, es, S1, P0, ok1, fr.le le, by
    cases e : g es S1 with
    | bad => rw [e] at h1; exact h1.elim
    | exc k fs S' => rw [e] at h1; exact h1
    | ok ds S' =>
      rw [e] at h1
      intro W2 vs H2 l2 ok2 rs
      exact h1 W2 _ H2 l2 ok2 (Reps.cons (rv.mono l2.s) rs)⟩⟩

/-- a def that is called with keywords: m values are written, then the keywords ks; gD puts them in the parameters' order -/
structure KFn (Γ : Pg) (P : Program) (w : World) (mg : Str → Option Value) (base : Heap) (k : Nat) (g : Addr) (m : Nat) (ks : List Str) (sp : Sp) (gV : List V → List V → List V) : Prop where
  ex : ∃ (fd : FuncData) (ps : List Str) (gv : List Value → List Value → List Value), FnOk P w Γ.K mg base (L2.CX P w) k g fd ps sp ∧ KBn Γ.K fd ps m ks gv gV
theorem runK {CX : CXT} {k n : Nat} {f : Addr} {fd : FuncData} {ps ks : List Str} {sp : Sp} {Ex : XK} {g : List Value → List Value → List Value} {gV : List V → List V → List V} {A : Around} {pins : List (Addr × Obj)} {σ : L2.St} {H : Hp} {s : Shared} {Q : VK} {us ws : List Value} {vs zs : List V} (F : FnOk X.prog X.w X.K X.mg X.base CX k f fd ps sp) (hr : Room k A) (hb : KBn X.K fd ps n ks g gV) (hx : PassesAt CX X σ Ex)
    (e0 : Env0 X.prog X.w X.K X.mg X.base A X.stack s H) (I : Inv X pins σ H s) (r : Vals vs us) (rz : Vals zs ws) (l1 : vs.length = n) (l2 : zs.length = ks.length) (h : sp (gV vs zs) H Q Ex) :
    codeAny (model X.prog X.w) A (.call (.ref f) ⟨us, ks.zip ws⟩) (fun r s' => match r with | .ok (.ret v) => EP X pins σ Q v s' | .ok _ => False | .error e => X.xe e s') s :=
  codeAny_mono (F.run A X.stack s H ⟨us, ks.zip ws⟩ (g us ws) (gV vs zs) Q Ex hr e0 (hb.to s us ws I.kIn (r.length.symm.trans l1) (rz.length.symm.trans l2)) (hb.rel r rz) h) fun r s' hq => match r, hq with
    | .error e, hq => hx pins H s e s' I hq
    | .ok (.ret _), hq => I.after hq
    | .ok .next, hq => hq.elim
    | .ok .brk, hq => hq.elim
    | .ok .cont, hq => hq.elim
/-- o.m(k = v, ..) -/
def eMethK (k n m : Nat) (gD : List D → List D → List D) (den : List D → Store → Res) (f : EF) (a : AF) : EF := fun es S => (f es S).bind fun d S1 => if isObj k d then (a es S1).bind fun ds S2 => if ds.length = m then chk n den (gD [d] ds) S2 else .bad else .bad
theorem de_methK {o : Expr} {kws : List Keyword} {ks : List Str} {m : Str} {fo : EF} {fa : AF} {k j n l : Nat} {g : Addr} {pos apos : Pos} {P : Program} {w : World} {mg : Str → Option Value} {base : Heap} {den : List D → Store → Res} {gD : List D → List D → List D} {gV : List V → List V → List V} {pl : Sem Bool} (hh : Here Γ P w mg base l X E) (c : SlF Γ k) (hm : L2.Meth Γ.K (Γ.cl k) m g)
    (G : KFn Γ P w mg base j g 1 ks (spD Γ n den) gV) (hg : ∀ W ds es vs zs, Reps Γ W ds vs → Reps Γ W es zs → Reps Γ W (gD ds es) (gV vs zs)) (ho : PE X o (dE Γ ξ fo E)) (ha : PK X kws (dA Γ ξ fa E)) (hj : j ≤ l := by decide)
    (hall : (backToKw pos (keywordEach kws X.env)).all (·.1.isSome) = true := by rfl) (hks : (backToKw pos (keywordEach kws X.env)).filterMap (·.1) = ks := by rfl)
    (hpl : ((backTo pos (starEach [] X.env)).any (·.1) || (backToKw pos (keywordEach kws X.env)).any (·.1.isNone)) = false := by rfl)
    (ht : eval (.Call (.Attribute o m apos) [] kws pos) X.env = (do
      let ov ← eval o X.env
      standAt apos.atName
      let (f, first) ← holding [ov] (getMethod ov m pl)
      callWith pos f first (backTo pos (starEach [] X.env)) (backToKw pos (keywordEach kws X.env))) := by rfl) :
    PE X (.Call (.Attribute o m apos) [] kws pos) (dE Γ ξ (eMethK k n ks.length gD den fo fa) E) := by
  obtain ⟨h1, h2, h3, h4, h5, h6, h7⟩ := hh
  subst h1 h2 h4 h5
  obtain ⟨fd, ps, gv, hF, hb⟩ := G.ex
  refine ⟨fun pins s σ H Q I ⟨W, ds, S, P0, ok, fr, h⟩ => ?_⟩
  refine PySem.W.methodCall_KW (pl := pl) (thn (ho.run pins s σ H (fun x H1 => ∃ W1 S1 d, Ok Γ W1 S1 H1 ∧ Frame Γ ξ W1 ds σ P0 ∧ Rep Γ W1 d x ∧ Cont Γ (if isObj k d then (fa ds S1).bind fun es S2 => if es.length = ks.length then chk n den (gD [d] es) S2 else .bad else .bad) W1 Q (at_ E σ)) I
    ⟨W, ds, S, P0, ok, fr, h.bind fun d S1 W1 v H1 le ok1 rv h1 => ⟨W1, S1, d, ok1, fr.le le, rv, h1⟩⟩) fun u s1 ⟨x, H1, I1, rx, W1, S1, d, ok1, fr1, rd, h1⟩ => ?_) ht
  split at h1
  case isFalse => exact h1.elim
  rename_i hd
  obtain ⟨fs, rfl⟩ := isObj_of hd
  obtain ⟨a, dx, vs, rfl, q2, q3⟩ := asO ok1 rd
  obtain rfl : u = Value.ref a := rx
  have hm' : L2.Meth X.K (Γ.cl k) m g := by rw [h3]; exact hm
  refine SlX.getmethsl_ok I1 q2 (by rw [h3]; exact c.sc) hm' ?_
  refine PySem.W.callWith_KW0 (first := [.ref a]) (h₀ := X.base) I.ok.mod.kin hm'.kp hall (thn (ha.run pos pins s1 σ H1 (fun vs H2 => ∃ W2 S2 es, Ok Γ W2 S2 H2 ∧ Reps Γ W2 es vs ∧ Rep Γ W2 (.obj k fs) (.ref a) ∧ Cont Γ (if es.length = ks.length then chk n den (gD [.obj k fs] es) S2 else .bad) W2 Q (at_ E σ)) I1
    ⟨W1, ds, S1, P0, ok1, fr1, ContA.bind h1 fun es S2 W2 vs H2 le ok2 rs h2 => ⟨W2, S2, es, ok2, rs, rd.mono le.s, h2⟩⟩) fun us s2 ⟨ws, H2, I2, r, W2, S2, es2, ok2, rs, rd2, h2⟩ => ⟨I2.kIn, ?_⟩) hpl
  split at h2
  case isFalse => exact h2.elim
  rename_i hl
  rw [hks]
  exact wpAny_call (runK (us := [.ref a]) (vs := [.ref a]) (by rw [h3]; exact hF) (h6.mono hj) (by rw [h3]; exact hb) (pass_of h7 σ) I2.env0 I2 (.cons rfl .nil) r rfl (rs.length.trans hl) (spD_of ok2 (hg W2 _ _ _ _ (Reps.cons rd2 Reps.nil) rs) h2))
/-- C(k = v, ..) -/
def eNewK (c n m : Nat) (gD : List D → List D) (F : List D → Store → ResA) (a : AF) : EF := fun es S => (a es S).bind fun ds S1 => if ds.length = m then newD c n F (gD ds) S1 else .bad
structure MakK (Γ : Pg) (P : Program) (w : World) (mg : Str → Option Value) (base : Heap) (k : Nat) (x : Str) (c n : Nat) (ks : List Str) (gV : List V → List V) (F : List D → Store → ResA) : Prop where
  ex : ∃ (fI : Addr) (fd : FuncData) (ps : List Str) (gv : List Value → List Value → List Value) (g : List V → List V → List V), Mk Γ.K (Γ.cl c) fI ∧ FnOk P w Γ.K mg base (L2.CX P w) k fI fd ps (spI Γ c n F) ∧ mg x = some (.ref (Γ.cl c)) ∧ KBn Γ.K fd ps 1 ks gv g ∧ ∀ x zs, zs.length = ks.length → g [x] zs = x :: gV zs
theorem runMkK {CX : CXT} {k : Nat} {f C : Addr} {fd : FuncData} {ps ks : List Str} {sp : Sp} {Ex : XK} {g : List Value → List Value → List Value} {gV : List V → List V → List V} {pins : List (Addr × Obj)} {σ : L2.St} {H : Hp} {s : Shared} {Q : VK} {ws : List Value} {zs : List V} (M : Mk X.K C f) (F : FnOk X.prog X.w X.K X.mg X.base CX k f fd ps sp)
    (hr : Room (k + 1) X.A) (hb : KBn X.K fd ps 1 ks g gV) (hx : PassesAt CX X σ Ex) (I : Inv X pins σ H s) (rz : Vals zs ws) (l2 : zs.length = ks.length)
    (h : ∀ x dx, H x = none → H dx = none → dx ≠ x → sp (gV [.ref x] zs) (upd (upd H dx (.own x)) x (.ins C dx [])) (fun v H2 => v = .non ∧ Q (.ref x) H2) Ex) : wpAny (model X.prog X.w) X.A (call (.ref C) [] (ks.zip ws)) (EP X pins σ Q) X.xe s := by
  let x : Addr := s.heap.objs.size + 1
  let dx : Addr := s.heap.objs.size
  have hs := h x dx (I.hok.fresh (Nat.le_succ _)) (I.hok.fresh (Nat.le_refl _)) (Nat.ne_of_lt (Nat.lt_succ_self _))
  have J := Inv.made (C := C) I
  have rr : Vals [V.ref x] [Value.ref x] := .cons rfl .nil
  have run := F.run _ X.stack _ _ ⟨[Value.ref x], ks.zip ws⟩ (g [Value.ref x] ws) _ _ Ex (hr.make C [] (ks.zip ws)) (J.env0.make C [] (ks.zip ws)) (hb.to _ [Value.ref x] ws J.kIn rfl (rz.length.symm.trans l2)) (hb.rel rr rz) hs
  refine wpAny_call (make_map (f := f) I.kIn M.makes M.init (beq_iff_eq.mp M.fn) (codeAny_mono run fun r s' hq => ?_))
  match r, hq with
  | .error e, hq => exact hx pins _ _ e s' J hq
  | .ok (.ret u), hq =>
    obtain ⟨v, H', J2, rv, ev, q3⟩ := J.after hq
    subst ev
    exact ⟨rv, ⟨V.ref x, H', J2, rfl, q3⟩⟩
  | .ok .next, hq => exact hq.elim
  | .ok .brk, hq => exact hq.elim
  | .ok .cont, hq => exact hq.elim
theorem de_newK {kws : List Keyword} {ks : List Str} {x : Str} {fa : AF} {c n j l : Nat} {p pos : Pos} {P : Program} {w : World} {mg : Str → Option Value} {base : Heap} {F : List D → Store → ResA} {gD : List D → List D} {gV : List V → List V} (hh : Here Γ P w mg base l X E) (M : MakK Γ P w mg base j x c n ks gV F) (hgd : ∀ W ds vs, Reps Γ W ds vs → Reps Γ W (gD ds) (gV vs))
    (ha : PK X kws (dA Γ ξ fa E)) (hj : j + 1 ≤ l := by decide) (hg : Gl X x := by rfl) (hdb : (x == ("__debug__" : Str)) = false := by decide)
    (hall : (backToKw pos (keywordEach kws X.env)).all (·.1.isSome) = true := by rfl) (hks : (backToKw pos (keywordEach kws X.env)).filterMap (·.1) = ks := by rfl)
    (hpl : ((backTo pos (starEach [] X.env)).any (·.1) || (backToKw pos (keywordEach kws X.env)).any (·.1.isNone)) = false := by rfl) :
    PE X (.Call (.Name x p) [] kws pos) (dE Γ ξ (eNewK c n ks.length gD F fa) E) := by
  obtain ⟨h1, h2, h3, h4, h5, h6, h7⟩ := hh
  subst h1 h2 h4 h5
  obtain ⟨fI, fd, ps, gv, g, hM, hF, hm, hb, hgv⟩ := M.ex
  rw [← h3] at hM hF hb
  refine ⟨fun pins s σ H Q I ⟨W, es', S, P0, ok, fr, h⟩ => ?_⟩
  refine wpAny_Call_Name_kw (ld_glob I hg hm ?_ hdb)
  refine PySem.W.callWith_KW0 (h₀ := X.base) I.ok.mod.kin hM.kp hall (thn (ha.run pos pins s σ H (fun vs H1 => ∃ W1 S1 ds1, Ok Γ W1 S1 H1 ∧ Reps Γ W1 ds1 vs ∧ Cont Γ (if ds1.length = ks.length then newD c n F (gD ds1) S1 else .bad) W1 Q (at_ E σ)) I
    ⟨W, es', S, P0, ok, fr, ContA.bind h fun ds1 S1 W1 vs H1 le ok1 rs h1 => ⟨W1, S1, ds1, ok1, rs, h1⟩⟩) fun us s1 ⟨vs, H1, I1, r, W1, S1, ds1, ok1, rs, h1⟩ => ⟨I1.kIn, ?_⟩) hpl
  split at h1
  case isFalse => exact h1.elim
  rename_i hl
  rw [hks]
  refine runMkK (gV := g) hM hF (h6.mono hj) hb (pass_of h7 σ) I1 r (rs.length.trans hl) fun x dx hx hd hne => ?_
  rw [hgv _ _ (rs.length.trans hl)]
  exact spI_of ok1 (hgd W1 _ _ rs) h1 hx hd hne
end
end DL
set_option Elab.async false
set_option linter.all false
set_option maxRecDepth 100000
set_option maxHeartbeats 2000000
set_option autoImplicit false
/-! The data layer, 13: the head's facts. -/
namespace DL
open PySem PySem.Spec PyProof.Rows L2 He

/-! ### addresses by paths -/
def pa (K : PySem.W.Frag) (C : Addr) (f : Str) : Addr := match PySem.W.recIn K (ma K C f) "property" with
  | some (.ref g :: _) => g
  | _ => 0
/-! ### defs at addresses -/
structure DefA where
  at_ : PySem.W.Frag → Addr
  name : Str
  qual : Str
  params : Arguments
  body : List Stmt
  scope : Scope
  dfl : List Dv := []
def fnA (K : PySem.W.Frag) (a : Addr) : FnW := match K.lookup a with
  | some ⟨_, _, .func fd, _⟩ => some (fd.name, fd.qualname, fd.params, fd.body, fd.scope, fd.globals, fd.closure, fd.builtins)
  | _ => none
def DefA.val (d : DefA) : FnW := some (d.name, d.qual, d.params, .stmts d.body, d.scope, mainGlobals, [], builtinsNs)
def DefA.dvs (K : PySem.W.Frag) (d : DefA) : List V := d.dfl.map (Dv.v K)
def DefA.ok (K : PySem.W.Frag) (d : DefA) : Bool := PySem.W.keepIn K (.ref (d.at_ K)) && (match K.lookup (d.at_ K) with
  | some ⟨_, _, .func fd, _⟩ => PySem.W.codeIn K fd.code d.qual && dflB K fd.defaults (d.dvs K)
  | _ => false)
theorem DefA.funD {K : PySem.W.Frag} {d : DefA} (e : fnA K (d.at_ K) = d.val) (c : d.ok K = true) : ∃ fd, FunD K d.name d.qual d.params d.body d.scope (d.dvs K) [] (d.at_ K) fd := by
  obtain ⟨kp, c2⟩ := ba c
  unfold fnA at e
  cases q : K.lookup (d.at_ K) with
  | none =>
    rw [q] at c2
    cases c2
  | some o =>
    obtain ⟨oc, od, dt, osl⟩ := o
    rw [q] at c2 e
    cases dt with
    | func fd =>
      obtain ⟨n1, n2, n3, n4, n5, n6, n7, n8, n9, n10, n11, n12, n13, n14, n15⟩ := fd
      have e2 : (some (n1, n2, n3, n4, n5, n6, n7, n15) : FnW) = some (d.name, d.qual, d.params, .stmts d.body, d.scope, mainGlobals, [], builtinsNs) := e
      simp only [Option.some.injEq, Prod.mk.injEq] at e2
      obtain ⟨h1, h2, h3, h4, h5, h6, h7, h8⟩ := e2
      subst h1 h2 h3 h4 h5 h6 h7 h8
      obtain ⟨k1, k2⟩ := ba (show (PySem.W.codeIn K n13 d.qual && dflB K n8 (d.dvs K)) = true from c2)
      exact ⟨_, ⟨oc, od, n8, n9, n10, n11, n12, n13, n14, osl, rfl, q, k1, dflB_ok k2, .inl rfl⟩, kp⟩
    | _ => cases c2

/-! ### the Hook -/
abbrev AlA : Type := Bool × List FnW
def obsA (fn : List DefA) (ex : PySem.W.Frag → Bool) (K : PySem.W.Frag) : AlA := (ex K && fn.all fun d => d.ok K, fn.map fun d => fnA K (d.at_ K))
def valA (fn : List DefA) : AlA := (true, fn.map DefA.val)
structure SaysA (fn : List DefA) (ex : PySem.W.Frag → Bool) (K : PySem.W.Frag) : Prop where
  more : ex K = true
  def_ : ∀ d ∈ fn, ∃ fd, FunD K d.name d.qual d.params d.body d.scope (d.dvs K) [] (d.at_ K) fd
theorem saysA_of {fn : List DefA} {ex : PySem.W.Frag → Bool} {K : PySem.W.Frag} (e : obsA fn ex K = valA fn) : SaysA fn ex K := by
  obtain ⟨c1, c2⟩ := ba (show (ex K && fn.all fun d => d.ok K) = true from congrArg (fun z : AlA => z.1) e)
  have e2 : fn.map (fun d => fnA K (d.at_ K)) = fn.map DefA.val := congrArg (fun z : AlA => z.2) e
  refine ⟨c1, fun d hd => ?_⟩
  obtain ⟨i, hi, ei⟩ := List.mem_iff_getElem.mp hd
  have e3 : (fn.map fun d => fnA K (d.at_ K))[i]? = (fn.map DefA.val)[i]? := by rw [e2]
  rw [List.getElem?_map, List.getElem?_map, List.getElem?_eq_getElem hi, ei] at e3
  exact DefA.funD (Option.some.inj e3) (List.all_eq_true.mp c2 d hd)
def obsAG (n : Nat) (fn : List DefA) (ex : PySem.W.Frag → Bool) (g : Addr → Option Obj) : AlA := obsA fn ex (frG g (cStatics :: asD g n))
def hookA (n : Nat) (fn : List DefA) (ex : PySem.W.Frag → Bool) : PySem.W.Hook where
  α := AlA
  obs := fun s => obsAG n fn ex s.heap.get?
  val := fun _ => valA fn
  says := fun _ h => ∃ K : PySem.W.Frag, K.In h ∧ SaysA fn ex K
  of := fun _ _ e => ⟨_, frG_in, saysA_of e⟩
  keeps := fun _ _ _ ⟨K, hK, c⟩ k => ⟨K, PySem.W.Frag.In.keeps hK k, c⟩
theorem obsAG_eq {n : Nat} {fn : List DefA} {ex : PySem.W.Frag → Bool} {g : Addr → Option Obj} {s : Shared} (h : ∀ a, g a = s.heap.get? a) : obsAG n fn ex g = (hookA n fn ex).obs s := by
  have e : g = s.heap.get? := funext h
  rw [e] <;> rfl
/-! ### facts by Bools -/
section
variable {K : PySem.W.Frag}
def bOB (a b : Option Bool) : Bool := decide (a = b)
theorem bOB_ok {a b : Option Bool} (h : bOB a b = true) : a = b := of_decide_eq_true h
def bOV (a b : Option Value) : Bool := decide (a = b)
theorem bOV_ok {a b : Option Value} (h : bOV a b = true) : a = b := of_decide_eq_true h
/-- a class with slots -/
def slB (K : PySem.W.Frag) (C : Addr) : Bool := PySem.W.plainGet K C Str.empty && (PySem.W.isClsIn K C && (PySem.W.plainOver K C && eqO (PySem.W.findIn K (.ref C) "__setattr__") (some (some (.builtin "object.__setattr__")))))
theorem slB_ok {C : Addr} (h : slB K C = true) : SlX.SCls K C := by
  obtain ⟨h1, h⟩ := ba h
  obtain ⟨h2, h⟩ := ba h
  obtain ⟨h3, h4⟩ := ba h
  exact ⟨h1, h2, h3, eqO_ok h4⟩
def siB (K : PySem.W.Frag) (C : Addr) : Bool := eqO (PySem.W.findIn K (.ref C) "__class__") (some (some (.builtin "object.__class__"))) && (eqO (PySem.W.specialIn K (.builtin "object.__class__") "__get__") (some (some (.builtin "getset_descriptor.__get__"))) && (bOB (PySem.W.takesIn K (.builtin "object.__class__")) (some true) && bOB (PySem.W.mroIn K C (.type "object")) (some true)))
theorem siB_ok {C : Addr} (h : siB K C = true) : SlX.SIsi K C := by
  obtain ⟨h1, h⟩ := ba h
  obtain ⟨h2, h⟩ := ba h
  obtain ⟨h3, h4⟩ := ba h
  exact ⟨eqO_ok h1, eqO_ok h2, bOB_ok h3, bOB_ok h4⟩
def stB (K : PySem.W.Frag) (C : Addr) (f : Str) (i : Nat) : Bool := eqO (PySem.W.findIn K (.ref C) f) (some (some (.ref (ma K C f)))) && (eqO (PySem.W.specialIn K (.ref (ma K C f)) "__get__") (some (some (.builtin "member_descriptor.__get__"))) && (bOB (PySem.W.takesIn K (.ref (ma K C f))) (some true) &&
  (bOV (PySem.W.typeIn K (.ref (ma K C f))) (some (.type "member_descriptor")) && (decide (PySem.W.slotIn K (ma K C f) C = some i) && decide (i < 1000)))))
theorem stB_ok {C : Addr} {f : Str} {i : Nat} (h : stB K C f i = true) : SlX.Slot1 K C f (ma K C f) i := by
  obtain ⟨h1, h⟩ := ba h
  obtain ⟨h2, h⟩ := ba h
  obtain ⟨h3, h⟩ := ba h
  obtain ⟨h4, h⟩ := ba h
  obtain ⟨h5, h6⟩ := ba h
  exact ⟨eqO_ok h1, eqO_ok h2, bOB_ok h3, bOV_ok h4, of_decide_eq_true h5, of_decide_eq_true h6⟩
def mtB (K : PySem.W.Frag) (C : Addr) (m : Str) : Bool := eqO (PySem.W.findIn K (.ref C) m) (some (some (.ref (ma K C m)))) && (PySem.W.isFn K (.ref (ma K C m)) && PySem.W.keepIn K (.ref (ma K C m)))
theorem mtB_ok {C : Addr} {m : Str} (h : mtB K C m = true) : Meth K C m (ma K C m) := by
  obtain ⟨h1, h⟩ := ba h
  obtain ⟨h2, h3⟩ := ba h
  exact ⟨eqO_ok h1, h2, h3⟩
def prB (K : PySem.W.Frag) (C : Addr) (f : Str) : Bool := eqO (PySem.W.findIn K (.ref C) f) (some (some (.ref (ma K C f)))) && (eqO (PySem.W.specialIn K (.ref (ma K C f)) "__get__") (some (some (.builtin "property.__get__"))) && (bOB (PySem.W.takesIn K (.ref (ma K C f))) (some true) &&
  (match PySem.W.recIn K (ma K C f) "property" with
    | some (.ref _ :: _) => true
    | _ => false)))
theorem prB_ok {Γ : Pg} {k : Nat} {f : Str} (h : prB Γ.K (Γ.cl k) f = true) : PropF Γ k f (pa Γ.K (Γ.cl k) f) := by
  obtain ⟨h1, h⟩ := ba h
  obtain ⟨h2, h⟩ := ba h
  obtain ⟨h3, h4⟩ := ba h
  split at h4
  case h_2 => cases h4
  rename_i g rest q
  have e : pa Γ.K (Γ.cl k) f = g := by
    unfold pa
    rw [q]
  rw [e]
  exact ⟨_, rest, eqO_ok h1, eqO_ok h2, bOB_ok h3, q⟩
def mkB (K : PySem.W.Frag) (C : Addr) : Bool := PySem.W.makesIn K C && (eqO (PySem.W.findIn K (.ref C) "__init__") (some (some (.ref (ma K C "__init__")))) && (PySem.W.isFn K (.ref (ma K C "__init__")) && PySem.W.keepIn K (.ref C)))
theorem mkB_ok {C : Addr} (h : mkB K C = true) : Mk K C (ma K C "__init__") := by
  obtain ⟨h1, h⟩ := ba h
  obtain ⟨h2, h⟩ := ba h
  obtain ⟨h3, h4⟩ := ba h
  exact ⟨h1, eqO_ok h2, h3, h4⟩
def isO (a : Option (Option Value)) : Bool := match a with
  | some none => true
  | some (some (.ref _)) => true
  | _ => false
def bnB (K : PySem.W.Frag) (C : Addr) (op : Operator) : Bool := PySem.W.selfFirst K C && (eqO (PySem.W.findIn K (.ref C) (PySem.dunder op.info.2)) (some (some (.ref (ma K C (PySem.dunder op.info.2))))) && (PySem.W.isFn K (.ref (ma K C (PySem.dunder op.info.2))) &&
  (isO (PySem.W.findIn K (.ref C) (dunderR op.info.2)) && ((PySem.W.findIn K (.type "int") (PySem.dunder op.info.2)).isSome && ((PySem.W.findIn K (.type "int") (dunderR op.info.2)).isSome && bOB (PySem.W.subIn K (.type "int") (.ref C)) (some false))))))
theorem bnB_ok {Γ : Pg} {k : Nat} {op : Operator} (h : bnB Γ.K (Γ.cl k) op = true) : BinF Γ k op (ma Γ.K (Γ.cl k) (PySem.dunder op.info.2)) := by
  obtain ⟨h1, h⟩ := ba h
  obtain ⟨h2, h⟩ := ba h
  obtain ⟨h3, h⟩ := ba h
  obtain ⟨h4, h⟩ := ba h
  obtain ⟨h5, h⟩ := ba h
  obtain ⟨h6, h7⟩ := ba h
  obtain ⟨a, ea⟩ := Option.isSome_iff_exists.mp h5
  obtain ⟨b, eb⟩ := Option.isSome_iff_exists.mp h6
  refine ⟨h1, eqO_ok h2, h3, ?_, ⟨a, b, ea, eb⟩, bOB_ok h7⟩
  unfold isO at h4
  split at h4
  · rename_i q
    exact ⟨_, q, .inl rfl⟩
  · rename_i g q
    exact ⟨_, q, .inr ⟨g, rfl⟩⟩
  · cases h4
/-- an own special of one operand, == -/
def spB (K : PySem.W.Frag) (C : Addr) (m : Str) : Bool := eqO (PySem.W.findIn K (.ref C) m) (some (some (.ref (ma K C m)))) && PySem.W.isFn K (.ref (ma K C m))
theorem spB_ok {C : Addr} {m : Str} (h : spB K C m = true) : PySem.W.findIn K (.ref C) m = some (some (.ref (ma K C m))) ∧ PySem.W.isFn K (.ref (ma K C m)) = true := by
  obtain ⟨h1, h2⟩ := ba h
  exact ⟨eqO_ok h1, h2⟩
def eqFB (K : PySem.W.Frag) (C : Addr) (cs : List Addr) : Bool := spB K C "__eq__" && ((kinds.all fun t => PySem.W.notFirst K C (.type t)) && cs.all fun c => PySem.W.notFirst K C (.ref c))
theorem eqFB_ok {Γ : Pg} {cs : List Nat} {k : Nat} (h : eqFB Γ.K (Γ.cl k) (cs.map Γ.cl) = true) : EqF Γ cs k (ma Γ.K (Γ.cl k) "__eq__") := by
  obtain ⟨h1, h⟩ := ba h
  obtain ⟨h2, h3⟩ := ba h
  obtain ⟨h4, h5⟩ := spB_ok h1
  exact ⟨h4, h5, List.all_eq_true.mp h2, fun j hj => List.all_eq_true.mp h3 _ (List.mem_map_of_mem hj)⟩
def isB (K : PySem.W.Frag) (cl : Nat → Addr) (cs : List Nat) : Bool := (cs.all fun j => kinds.all fun t => bOB (PySem.W.kitOne K (.type t) (.ref (cl j))) (some false)) && ((cs.all fun k => kinds.all fun n => bOB (PySem.W.kitOne K (.ref (cl k)) (.type n)) (some false)) && (cs.all fun k => cs.all fun j => bOB (PySem.W.kitOne K (.ref (cl k)) (.ref (cl j))) (some (k == j))))
theorem isB_ok {Γ : Pg} {cs : List Nat} (h : isB Γ.K Γ.cl cs = true) (o : ∀ k ∈ cs, SlF Γ k) : IsF Γ cs := by
  obtain ⟨h1, h⟩ := ba h
  obtain ⟨h2, h3⟩ := ba h
  exact ⟨fun j hj t ht => bOB_ok (List.all_eq_true.mp (List.all_eq_true.mp h1 j hj) t ht), fun j hj t ht => bOB_ok (List.all_eq_true.mp (List.all_eq_true.mp h2 j hj) t ht), fun j hj t ht => bOB_ok (List.all_eq_true.mp (List.all_eq_true.mp h3 j hj) t ht), o⟩
/-- an own exception, its base a ValueError -/
def oexB (K : PySem.W.Frag) (C : Addr) : Bool := (match K.lookup C with
  | some ⟨.type "type", _, .cls cd, sl⟩ => (match cd.mro, sl.toList with
    | .ref C' :: bm, [_, _, _, _, some (.builtin n), _] => C' == C && n == "ValueError.__new__" && !cd.hasDel && cd.hasDict && PySem.HandSPX.refsVE bm
    | _, _ => false)
  | _ => false) && (eqO (PySem.W.findIn K (.ref C) "__setattr__") (some (some (.builtin "object.__setattr__"))) && (bOB (PySem.W.subIn K (.ref C) (.type "BaseException")) (some true) && (bOV (PySem.W.typeIn K (.ref C)) (some (.type "type")) && PySem.W.keepIn K (.ref C))))
theorem oexB_ok {C : Addr} (h : oexB K C = true) : OexC K C := by
  obtain ⟨h1, h⟩ := ba h
  obtain ⟨h2, h⟩ := ba h
  obtain ⟨h3, h⟩ := ba h
  obtain ⟨h4, h5⟩ := ba h
  refine ⟨?_, eqO_ok h2, bOB_ok h3, bOV_ok h4, h5⟩
  split at h1
  · rename_i dd cd sl ho
    split at h1
    · rename_i C' bm k0 k1 k2 k3 n k5 hm hs
      simp only [Bool.and_eq_true, beq_iff_eq, Bool.not_eq_true'] at h1
      obtain ⟨⟨⟨⟨rfl, rfl⟩, hdel⟩, hdict⟩, hr⟩ := h1
      obtain ⟨nm, bs, mro, ns, qn, hd, sn, sub, ab, col, del⟩ := cd
      dsimp only at hm hdel hdict
      subst hm hdel hdict
      have hsl : sl = #[k0, k1, k2, k3, some (.builtin "ValueError.__new__"), k5] := by
        obtain ⟨l⟩ := sl
        simp only at hs
        rw [hs]
      subst hsl
      exact ⟨nm, qn, ns, bs, bm, sn, sub, ab, col, dd, k0, k1, k2, k3, k5, ho, hr⟩
    · cases h1
  · cases h1
/-- its __init__ -/
def oinB (K : PySem.W.Frag) (C : Addr) : Bool := oexB K C && (eqO (PySem.W.findIn K (.ref C) "__init__") (some (some (.ref (ma K C "__init__")))) && bOV (PySem.W.typeIn K (.ref (ma K C "__init__"))) (some (.type "function")))
theorem oinB_ok {C : Addr} (h : oinB K C = true) : OexC K C ∧ PySem.W.findIn K (.ref C) "__init__" = some (some (.ref (ma K C "__init__"))) ∧ PySem.W.typeIn K (.ref (ma K C "__init__")) = some (.type "function") := by
  obtain ⟨h1, h⟩ := ba h
  obtain ⟨h2, h3⟩ := ba h
  exact ⟨oexB_ok h1, eqO_ok h2, bOV_ok h3⟩
/-- B.__init__ is ValueError's -/
def bsB (K : PySem.W.Frag) (B : Addr) : Bool := PySem.W.readsIn K B (.type "type") && (eqO (PySem.W.specialIn K (.ref B) "__getattribute__") (some (some (.builtin "type.__getattribute__"))) && (match PySem.W.findCls K (.ref B) (.type "type") "__init__" with
  | some (.val (.builtin n)) => n == "ValueError.__init__"
  | _ => false))
theorem bsB_ok {mg : Str → Option Value} {x : Str} {B : Addr} (hm : mg x = some (.ref B)) (h : bsB K B = true) : BaseF K mg x := by
  obtain ⟨h1, h⟩ := ba h
  obtain ⟨h2, h3⟩ := ba h
  split at h3
  case h_2 => cases h3
  rename_i n q
  have e : n = "ValueError.__init__" := by simpa using h3
  subst e
  exact ⟨B, .type "type", hm, ⟨h1, eqO_ok h2⟩, q⟩
def mtsB (K : PySem.W.Frag) (cl : Nat → Addr) (ps : Mts) : Bool := ps.all fun p => bOB (PySem.W.exmOne K (.ref (cl p.1)) (.ref (cl p.2.1))) (some p.2.2)
theorem mtsB_ok {Γ : Pg} {ps : Mts} (h : mtsB Γ.K Γ.cl ps = true) : MtF Γ ps := fun p hp => bOB_ok (List.all_eq_true.mp h p hp)
def xffB (K : PySem.W.Frag) (cl : Nat → Addr) (ks : List Nat) (n : Str) : Bool := ks.all fun k => xfB K (cl k) && eqO (PySem.W.findIn K (.ref (cl k)) n) (some none)
theorem xffB_ok {Γ : Pg} {ks : List Nat} {n : Str} (h : xffB Γ.K Γ.cl ks n = true) : XfF Γ ks n := fun k hk => by
  obtain ⟨h1, h2⟩ := ba (List.all_eq_true.mp h k hk)
  exact ⟨xfB_ok h1, eqO_ok h2⟩
end
end DL
set_option Elab.async false
set_option linter.all false
set_option maxRecDepth 100000
set_option maxHeartbeats 2000000
set_option autoImplicit false
/-! The data layer, 14: the joints between the head's facts and the defs. -/
namespace DL
open PySem PySem.Spec PyProof.Rows L2 He

section
variable {Γ : Pg} {ξ : Xx} {X : Cx} {E : WX} {P : Program} {w : World} {mg : Str → Option Value} {base : Heap} {k : Nat}
/-! ### // and % by what is not 0 -/
def iDivN : D → D → Store → Res := gI (fun i j => .int (i.fdiv j)) fun _ j => decide (j ≠ 0) && decide (bits j < 9000)
def iModN : D → D → Store → Res := gI (fun i j => .int (i.fmod j)) fun _ j => decide (j ≠ 0)
theorem op_fdivA : OpR X (binaryOp .FloorDiv) (rI (fun _ j => j ≠ 0 ∧ j.natAbs.log2 < 9000) fun i j => .int (i.fdiv j)) := opI fun _ _ _ _ _ _ _ hc q => floordiv_int hc.1 q (.inl (PyProof.noPylong_of_log2 hc.2))
theorem op_iDivN : OpR X (binaryOp .FloorDiv) (rD Γ iDivN) := op_gI op_fdivA (fun i j H Q c q => ⟨i, j, rfl, rfl, ⟨of_decide_eq_true (Bool.and_eq_true_iff.mp c).1, of_decide_eq_true (Bool.and_eq_true_iff.mp c).2⟩, q⟩) fun W i j => by simp only [Rep]
theorem op_iModN : OpR X (binaryOp .Mod) (rD Γ iModN) := op_gI op_modN (fun i j H Q c q => ⟨i, j, rfl, rfl, of_decide_eq_true c, q⟩) fun W i j => by simp only [Rep]

/-! ### contexts -/
theorem Here.blk (hh : Here Γ P w mg base k X E) {s : Shared} {H : Hp} {scope : Scope} {cenv : Env} {fp : List Addr} : Here Γ P w mg base k (X.blk s H scope cenv fp) E0 := ⟨hh.p, hh.w, hh.K, hh.mg, hh.base, hh.room, takes0⟩
theorem Here.tr (hh : Here Γ P w mg base k X E) {pn : List (Addr × Obj)} {xe : Value → Shared → Prop} {E' : WX} (tk : Takes (X.tr pn xe) E') : Here Γ P w mg base k (X.tr pn xe) E' := ⟨hh.p, hh.w, hh.K, hh.mg, hh.base, hh.room, tk⟩
theorem here_of {N : List Str} {qual : Str} {scope : Scope} {f : Addr} {cdv : Value} {A : Around} {outer : List Env} {s : Shared} {H : Hp} {Ex : XK} (hr : Room k (A.deeper (envOfC qual scope s.heap.objs.size f cdv))) :
    Here Γ P w mg base k (cxOf (L2.CX P w) P w Γ.K mg base N qual scope f cdv A outer s H Ex) (fun c d _ H => Ex c d H) := ⟨rfl, rfl, rfl, rfl, rfl, hr, takes_of rfl rfl rfl rfl⟩
theorem Here.u64 (hh : Here Γ P w mg base k X E) : X.A.units + 64 < cLine := by have := hh.room.un; omega
theorem Here.u66 (hh : Here Γ P w mg base k X E) : X.A.units + 66 < cLine := by have := hh.room.un; omega

/-! ### what the head tells -/
structure Bs (fn : List DefA) (ck : PySem.W.Frag → List Bool) (K : PySem.W.Frag) (mg : Str → Option Value) : Prop where
  more : ∀ b ∈ ck K, b = true
  def_ : ∀ d ∈ fn, ∃ fd, FunD K d.name d.qual d.params d.body d.scope (d.dvs K) [] (d.at_ K) fd
  mg : ∃ h : Heap, K.In h ∧ h.Ns mainGlobals mg
variable {fn : List DefA} {cks : PySem.W.Frag → List Bool} {K : PySem.W.Frag}
theorem Bs.ck (B : Bs fn cks K mg) (i : Nat) {b : Bool} (h : (cks K)[i]? = some b := by rfl) : b = true := B.more b (List.mem_of_getElem? h)
theorem Bs.glo (B : Bs fn cks K mg) {x : Str} (c : (Fa.glo x).ok K = true) : mg x = some (.ref (ga K x)) := by
  obtain ⟨h, X, G⟩ := B.mg
  exact glo_ok X G c
theorem Bs.free (B : Bs fn cks K mg) {x : Str} (c : (Fa.free x).ok K = true) : mg x = none := by
  obtain ⟨h, X, G⟩ := B.mg
  exact free_ok X G c
theorem Bs.int (B : Bs fn cks K mg) {x : Str} {i : Int} (c : (Fa.int x i).ok K = true) : GlobF Γ mg x (.int i) := by
  obtain ⟨h, X, G⟩ := B.mg
  obtain ⟨t, e⟩ := int_ok X G c
  exact ⟨_, .int i, e, ⟨t, rfl⟩, fun W => by simp only [Rep]⟩
theorem Bs.str (B : Bs fn cks K mg) {x z : Str} (c : (Fa.str x z).ok K = true) : GlobF Γ mg x (.str z) := by
  obtain ⟨h, X, G⟩ := B.mg
  obtain ⟨t, e⟩ := str_ok X G c
  exact ⟨_, .str z, e, ⟨t, rfl⟩, fun W => by simp only [Rep]⟩
theorem Bs.cls (B : Bs fn cks K mg) {x : Str} {j : Nat} (c : (Fa.glo x).ok K = true) (hj : Γ.cl j = ga K x) : GlobF Γ mg x (.cls j) := ⟨_, .ref (ga K x), B.glo c, rfl, fun W => by simp only [Rep, hj]⟩

/-! ### a def, by its body's reading -/
theorem fnk_of {d : DefA} {fd : FuncData} {N ps : List Str} {n m : Nat} {body : SF} (F : FunD Γ.K d.name d.qual d.params d.body d.scope (d.dvs Γ.K) [] (d.at_ Γ.K) fd) (sc : FnScope N ps d.scope) (hn : ps.length = n) (hN : N.length = m)
    (hb : ∀ (cdv : Value) (A : Around) (outer : List Env) (s : Shared) (H : Hp) (Ex : XK), Room k (A.deeper (envOfC d.qual d.scope s.heap.objs.size (d.at_ Γ.K) cdv)) →
      PSs (cxOf (L2.CX P w) P w Γ.K mg base N d.qual d.scope (d.at_ Γ.K) cdv A outer s H Ex) d.body (dS Γ ξ body (fun c d' _ H => Ex c d' H))) :
    FnOk P w Γ.K mg base (L2.CX P w) (k + 1) (d.at_ Γ.K) fd ps (spD Γ n (fnD m body)) :=
  F.ok sc (spD_len hn) fun cdv A outer s H vs Q Ex hr hsp => ⟨_, hb cdv A outer s H Ex hr, enter hN hsp⟩
theorem cal_of {x : Str} {d : DefA} {N ps : List Str} {n m : Nat} {body : SF} (B : Bs fn cks Γ.K mg) (i : Nat) (sc : FnScope N ps d.scope) (hg : (Fa.glo x).ok Γ.K = true)
    (hb : ∀ (cdv : Value) (A : Around) (outer : List Env) (s : Shared) (H : Hp) (Ex : XK), Room k (A.deeper (envOfC d.qual d.scope s.heap.objs.size (d.at_ Γ.K) cdv)) →
      PSs (cxOf (L2.CX P w) P w Γ.K mg base N d.qual d.scope (d.at_ Γ.K) cdv A outer s H Ex) d.body (dS Γ ξ body (fun c d' _ H => Ex c d' H)))
    (hbd : ∀ (kV doc pm : Value) (an : Option Addr) (cdv ct : Value) (us : List Value), us.length = ps.length → bindArgs (PySem.W.fnOf d.name d.qual d.params d.body d.scope .none kV doc pm an cdv ct) ⟨us, []⟩ = pure (ps.zip us))
    (hd : fn[i]? = some d := by rfl) (ha : d.at_ Γ.K = ga Γ.K x := by rfl) (hdf : d.dfl = [] := by rfl) (hn : ps.length = n := by rfl) (hN : N.length = m := by rfl) : Cal Γ P w mg base (k + 1) x n (fnD m body) := by
  obtain ⟨fd, F⟩ := B.def_ d (List.mem_of_getElem? hd)
  have F' : FunD Γ.K d.name d.qual d.params d.body d.scope [] [] (d.at_ Γ.K) fd := by
    have e : d.dvs Γ.K = [] := by
      unfold DefA.dvs
      rw [hdf]
      rfl
    rw [← e]
    exact F
  exact ⟨_, fd, ps, fnk_of F sc hn hN hb, by rw [ha]; exact B.glo hg, F.kp, F'.bindsN hbd⟩
/-- a method, a getter -/
theorem calR_of {d : DefA} {N ps : List Str} {n m : Nat} {body : SF} {g : Addr} (B : Bs fn cks Γ.K mg) (i : Nat) (sc : FnScope N ps d.scope)
    (hb : ∀ (cdv : Value) (A : Around) (outer : List Env) (s : Shared) (H : Hp) (Ex : XK), Room k (A.deeper (envOfC d.qual d.scope s.heap.objs.size (d.at_ Γ.K) cdv)) →
      PSs (cxOf (L2.CX P w) P w Γ.K mg base N d.qual d.scope (d.at_ Γ.K) cdv A outer s H Ex) d.body (dS Γ ξ body (fun c d' _ H => Ex c d' H)))
    (hbd : ∀ (kV doc pm : Value) (an : Option Addr) (cdv ct : Value) (us : List Value), us.length = ps.length → bindArgs (PySem.W.fnOf d.name d.qual d.params d.body d.scope .none kV doc pm an cdv ct) ⟨us, []⟩ = pure (ps.zip us))
    (hd : fn[i]? = some d := by rfl) (ha : d.at_ Γ.K = g := by rfl) (hdf : d.dfl = [] := by rfl) (hn : ps.length = n := by rfl) (hN : N.length = m := by rfl) : CalR Γ P w mg base (k + 1) g n (fnD m body) := by
  obtain ⟨fd, F⟩ := B.def_ d (List.mem_of_getElem? hd)
  have F' : FunD Γ.K d.name d.qual d.params d.body d.scope [] [] (d.at_ Γ.K) fd := by
    have e : d.dvs Γ.K = [] := by
      unfold DefA.dvs
      rw [hdf]
      rfl
    rw [← e]
    exact F
  rw [← ha]
  exact ⟨((fnk_of F sc hn hN hb).raw (F'.bindsN hbd) .nil).imp fun vs H Q E h => by rw [List.append_nil]; exact h⟩
/-- the same def, called with keywords -/
theorem kfn_of {d : DefA} {N ps ks : List Str} {n m j : Nat} {body : SF} {g : Addr} {gv : List Value → List Value → List Value} {gV : List V → List V → List V} (B : Bs fn cks Γ.K mg) (i : Nat) (sc : FnScope N ps d.scope)
    (hb : ∀ (cdv : Value) (A : Around) (outer : List Env) (s : Shared) (H : Hp) (Ex : XK), Room k (A.deeper (envOfC d.qual d.scope s.heap.objs.size (d.at_ Γ.K) cdv)) →
      PSs (cxOf (L2.CX P w) P w Γ.K mg base N d.qual d.scope (d.at_ Γ.K) cdv A outer s H Ex) d.body (dS Γ ξ body (fun c d' _ H => Ex c d' H)))
    (hbd : ∀ (kV doc pm : Value) (an : Option Addr) (cdv ct : Value) (us ws : List Value), us.length = j → ws.length = ks.length → bindArgs (PySem.W.fnOf d.name d.qual d.params d.body d.scope .none kV doc pm an cdv ct) ⟨us, ks.zip ws⟩ = pure (ps.zip (gv us ws)))
    (hrel : ∀ {vs : List V} {us : List Value} {zs : List V} {ws : List Value}, Vals vs us → Vals zs ws → Vals (gV vs zs) (gv us ws))
    (hd : fn[i]? = some d := by rfl) (ha : d.at_ Γ.K = g := by rfl) (hdf : d.dfl = [] := by rfl) (hn : ps.length = n := by rfl) (hN : N.length = m := by rfl) : KFn Γ P w mg base (k + 1) g j ks (spD Γ n (fnD m body)) gV := by
  obtain ⟨fd, F⟩ := B.def_ d (List.mem_of_getElem? hd)
  obtain ⟨oc, od, dV, kV, doc, pm, an, cdv, ct, osl, e, lk, hcd, hD, hK⟩ := F.ex
  have ed : d.dvs Γ.K = [] := by
    unfold DefA.dvs
    rw [hdf]
    rfl
  have eV : dV = .none := by
    rcases hD with ⟨_, z⟩ | ⟨z, _⟩
    · exact z
    · exact absurd ed z
  subst eV
  rw [← ha]
  exact ⟨fd, ps, gv, fnk_of F sc hn hN hb, ⟨fun s us ws _ l1 l2 => by rw [e]; exact .of_eq (hbd kV doc pm an cdv ct us ws l1 l2), hrel⟩⟩
/-- __init__ of a class with two slots -/
theorem init_of {sw : Bool} {d : DefA} {fd : FuncData} {N ps : List Str} {n m c : Nat} {body : SF} {f1 f2 : EF} {n1 n2 : Str} (F : FunD Γ.K d.name d.qual d.params d.body d.scope (d.dvs Γ.K) [] (d.at_ Γ.K) fd) (sc : FnScope N ps d.scope) (hn : ps.length = n + 1) (hN : N.length = m)
    (cs : SlF Γ c) (t1 : SlotF Γ c n1 (ix1 sw)) (t2 : SlotF Γ c n2 (ix2 sw))
    (hb : ∀ (ξ : Xx) (cdv : Value) (A : Around) (outer : List Env) (s : Shared) (H : Hp) (Ex : XK), Room k (A.deeper (envOfC d.qual d.scope s.heap.objs.size (d.at_ Γ.K) cdv)) →
      PSs (cxOf (L2.CX P w) P w Γ.K mg base N d.qual d.scope (d.at_ Γ.K) cdv A outer s H Ex) d.body (tSeq (dS Γ ξ body (fun c' d' _ H => Ex c' d' H)) (tSeq (SlX.sSl Γ.K (tVar 0) (dE Γ ξ f1 (fun c' d' _ H => Ex c' d' H)) n1) (SlX.sSl Γ.K (tVar 0) (dE Γ ξ f2 (fun c' d' _ H => Ex c' d' H)) n2)))) :
    FnOk P w Γ.K mg base (L2.CX P w) (k + 1) (d.at_ Γ.K) fd ps (spI Γ c n (initD sw m body f1 f2)) :=
  F.ok sc (spI_len hn) fun cdv A outer s H vs Q Ex hr hsp => by
    obtain ⟨ξ, z⟩ := enterI rfl hN cs t1 t2 hsp
    exact ⟨_, hb ξ cdv A outer s H Ex hr, z⟩
theorem mak_of {d : DefA} {ps : List Str} {n c : Nat} {x : Str} {dfl : List D} {FF : List D → Store → ResA} (B : Bs fn cks Γ.K mg) (i : Nat) (hg : (Fa.glo x).ok Γ.K = true) (hmk : mkB Γ.K (ga Γ.K x) = true)
    (hI : ∀ fd, FunD Γ.K d.name d.qual d.params d.body d.scope (d.dvs Γ.K) [] (d.at_ Γ.K) fd → FnOk P w Γ.K mg base (L2.CX P w) k (d.at_ Γ.K) fd ps (spI Γ c n FF))
    (hbd : ∀ fd, FunD Γ.K d.name d.qual d.params d.body d.scope (d.dvs Γ.K) [] (d.at_ Γ.K) fd → ∃ (dvs : List V) (ds : List Value), Binds Γ.K fd ps ds ∧ Vals dvs ds ∧ ∀ W, Reps Γ W dfl dvs)
    (hd : fn[i]? = some d := by rfl) (ha : d.at_ Γ.K = ma Γ.K (ga Γ.K x) "__init__" := by rfl) (hc : Γ.cl c = ga Γ.K x := by rfl) : Mak Γ P w mg base k x c n dfl FF := by
  obtain ⟨fd, F⟩ := B.def_ d (List.mem_of_getElem? hd)
  obtain ⟨dvs, ds, b1, b2, b3⟩ := hbd fd F
  have z := hI fd F
  rw [ha] at z
  exact ⟨_, fd, ps, ds, dvs, by rw [hc]; exact mkB_ok hmk, z, by rw [hc]; exact B.glo hg, b1, b2, b3⟩
theorem makK_of {d : DefA} {ps ks : List Str} {n c : Nat} {x : Str} {gV : List V → List V} {FF : List D → Store → ResA} (B : Bs fn cks Γ.K mg) (i : Nat) (hg : (Fa.glo x).ok Γ.K = true) (hmk : mkB Γ.K (ga Γ.K x) = true)
    (hI : ∀ fd, FunD Γ.K d.name d.qual d.params d.body d.scope (d.dvs Γ.K) [] (d.at_ Γ.K) fd → FnOk P w Γ.K mg base (L2.CX P w) k (d.at_ Γ.K) fd ps (spI Γ c n FF))
    (hbd : ∀ fd, FunD Γ.K d.name d.qual d.params d.body d.scope (d.dvs Γ.K) [] (d.at_ Γ.K) fd → ∃ (gv : List Value → List Value → List Value) (g : List V → List V → List V), KBn Γ.K fd ps 1 ks gv g ∧ ∀ x zs, zs.length = ks.length → g [x] zs = x :: gV zs)
    (hd : fn[i]? = some d := by rfl) (ha : d.at_ Γ.K = ma Γ.K (ga Γ.K x) "__init__" := by rfl) (hc : Γ.cl c = ga Γ.K x := by rfl) : MakK Γ P w mg base k x c n ks gV FF := by
  obtain ⟨fd, F⟩ := B.def_ d (List.mem_of_getElem? hd)
  obtain ⟨gv, g, b1, b2⟩ := hbd fd F
  have z := hI fd F
  rw [ha] at z
  exact ⟨_, fd, ps, gv, g, by rw [hc]; exact mkB_ok hmk, z, by rw [hc]; exact B.glo hg, b1, b2⟩
/-- with one default, or without: how such a def binds -/
theorem binds_dfl {d : DefA} {fd : FuncData} {ps : List Str} {dfl : List D} (F : FunD Γ.K d.name d.qual d.params d.body d.scope (d.dvs Γ.K) [] (d.at_ Γ.K) fd) (n j : Nat) (hne : d.dvs Γ.K ≠ []) (hn : n + ((d.dvs Γ.K).length - j) = ps.length) (hr : ∀ W, Reps Γ W dfl ((d.dvs Γ.K).drop j))
    (h : ∀ (T : Addr) (kV doc pm : Value) (an : Option Addr) (cdv ct : Value) (us its : List Value), us.length = n → its.length = (d.dvs Γ.K).length →
      ∃ k, bindArgs (PySem.W.fnOf d.name d.qual d.params d.body d.scope (.ref T) kV doc pm an cdv ct) ⟨us, []⟩ = seqItems? (.ref T) >>= k ∧ k (some its.toArray) = pure (ps.zip (us ++ its.drop j))) :
    ∃ (dvs : List V) (ds : List Value), Binds Γ.K fd ps ds ∧ Vals dvs ds ∧ ∀ W, Reps Γ W dfl dvs := by
  obtain ⟨ds, r, b⟩ := F.binds1 (ps := ps) n j hne hn h
  exact ⟨_, ds, b, r, hr⟩
theorem kbind_dfl {d : DefA} {fd : FuncData} {ps ks : List Str} {n : Nat} {gv : List Value → List Value → List Value} {gV : List V → List V → List V} (F : FunD Γ.K d.name d.qual d.params d.body d.scope (d.dvs Γ.K) [] (d.at_ Γ.K) fd) (hne : d.dvs Γ.K ≠ [])
    (hrel : ∀ {vs : List V} {us : List Value} {zs : List V} {ws : List Value}, Vals vs us → Vals zs ws → Vals (gV vs zs) (gv us ws))
    (h : ∀ (T : Addr) (kV doc pm : Value) (an : Option Addr) (cdv ct : Value) (us its ws : List Value), us.length = n → ws.length = ks.length → its.length = (d.dvs Γ.K).length →
      ∃ k, bindArgs (PySem.W.fnOf d.name d.qual d.params d.body d.scope (.ref T) kV doc pm an cdv ct) ⟨us, ks.zip ws⟩ = seqItems? (.ref T) >>= k ∧ k (some its.toArray) = pure (ps.zip (gv us ws))) :
    KBn Γ.K fd ps n ks gv gV := by
  obtain ⟨oc, od, dV, kV, doc, pm, an, cdv, ct, osl, e, lk, hcd, hD, hK⟩ := F.ex
  rcases hD with ⟨z, _⟩ | ⟨_, T, o, its, m, rfl, lT, oT, rT⟩
  · exact absurd z hne
  · refine ⟨fun s us ws X l1 l2 => ?_, hrel⟩
    obtain ⟨k, e1, e2⟩ := h T kV doc pm an cdv ct us its ws l1 l2 rT.length.symm
    rw [e]
    refine BindsTo.of_looks fun M => ?_
    rw [e1]
    exact looks_items X lT oT (.of_pure e2)
/-- an own exception with a field -/
theorem exf_of {d : DefA} {N ps : List Str} {c : Nat} {x f t : Str} (B : Bs fn cks Γ.K mg) (i : Nat) (sc : FnScope N ps d.scope) (hg : (Fa.glo x).ok Γ.K = true) (ho : oinB Γ.K (ga Γ.K x) = true) (hno : eqO (PySem.W.findIn Γ.K (.ref (ga Γ.K x)) f) (some none) = true)
    (hb : ∀ (cdv : Value) (A : Around) (outer : List Env) (s : Shared) (H : Hp) (Ex : XK), PSs (cxOf (L2.CX P w) P w Γ.K mg base N d.qual d.scope (d.at_ Γ.K) cdv A outer s H Ex) d.body (tXInit Γ.K t f))
    (hbd : ∀ (kV doc pm : Value) (an : Option Addr) (cdv ct : Value) (us : List Value), us.length = ps.length → bindArgs (PySem.W.fnOf d.name d.qual d.params d.body d.scope .none kV doc pm an cdv ct) ⟨us, []⟩ = pure (ps.zip us))
    (hN : N.length = 2 := by rfl) (hn : ps.length = 2 := by rfl) (hd : fn[i]? = some d := by rfl) (hdf : d.dfl = [] := by rfl) (ha : d.at_ Γ.K = ma Γ.K (ga Γ.K x) "__init__" := by rfl) (hc : Γ.cl c = ga Γ.K x := by rfl) : ExF Γ P w mg base (k + 1) x c f := by
  obtain ⟨fd, F⟩ := B.def_ d (List.mem_of_getElem? hd)
  have F' : FunD Γ.K d.name d.qual d.params d.body d.scope [] [] (d.at_ Γ.K) fd := by
    have e : d.dvs Γ.K = [] := by
      unfold DefA.dvs
      rw [hdf]
      rfl
    rw [← e]
    exact F
  obtain ⟨h1, h2, h3⟩ := oinB_ok ho
  have z : FnOk P w Γ.K mg base (L2.CX P w) (k + 1) (d.at_ Γ.K) fd ps (spX (ga Γ.K x) f) := F.ok sc (fun vs H Q E h => by
    obtain ⟨a, v, rfl, _⟩ := h
    rw [hn]
    rfl) fun cdv A outer s H vs Q Ex hr hsp => ⟨_, hb cdv A outer s H Ex, xinit h1 (eqO_ok hno) hN hsp⟩
  rw [ha] at z
  exact ⟨_, fd, ps, by rw [hc]; exact h1, by rw [hc]; exact h2, h3, by rw [hc]; exact z, F'.bindsN hbd, by rw [hc]; exact B.glo hg⟩
theorem exf0_of {d : DefA} {N ps : List Str} {c : Nat} {x t : Str} (B : Bs fn cks Γ.K mg) (i : Nat) (sc : FnScope N ps d.scope) (hg : (Fa.glo x).ok Γ.K = true) (ho : oinB Γ.K (ga Γ.K x) = true)
    (hb : ∀ (cdv : Value) (A : Around) (outer : List Env) (s : Shared) (H : Hp) (Ex : XK), PSs (cxOf (L2.CX P w) P w Γ.K mg base N d.qual d.scope (d.at_ Γ.K) cdv A outer s H Ex) d.body (tXInit0 Γ.K t))
    (hbd : ∀ (kV doc pm : Value) (an : Option Addr) (cdv ct : Value) (us : List Value), us.length = ps.length → bindArgs (PySem.W.fnOf d.name d.qual d.params d.body d.scope .none kV doc pm an cdv ct) ⟨us, []⟩ = pure (ps.zip us))
    (hn : ps.length = 1 := by rfl) (hd : fn[i]? = some d := by rfl) (hdf : d.dfl = [] := by rfl) (ha : d.at_ Γ.K = ma Γ.K (ga Γ.K x) "__init__" := by rfl) (hc : Γ.cl c = ga Γ.K x := by rfl) : ExF0 Γ P w mg base (k + 1) x c := by
  obtain ⟨fd, F⟩ := B.def_ d (List.mem_of_getElem? hd)
  have F' : FunD Γ.K d.name d.qual d.params d.body d.scope [] [] (d.at_ Γ.K) fd := by
    have e : d.dvs Γ.K = [] := by
      unfold DefA.dvs
      rw [hdf]
      rfl
    rw [← e]
    exact F
  obtain ⟨h1, h2, h3⟩ := oinB_ok ho
  have z : FnOk P w Γ.K mg base (L2.CX P w) (k + 1) (d.at_ Γ.K) fd ps (spX0 (ga Γ.K x)) := F.ok sc (fun vs H Q E h => by
    obtain ⟨a, rfl, _⟩ := h
    rw [hn]
    rfl) fun cdv A outer s H vs Q Ex hr hsp => ⟨_, hb cdv A outer s H Ex, xinit0 h1 hsp⟩
  rw [ha] at z
  exact ⟨_, fd, ps, by rw [hc]; exact h1, by rw [hc]; exact h2, h3, by rw [hc]; exact z, F'.bindsN hbd, by rw [hc]; exact B.glo hg⟩
end
end DL
set_option Elab.async false
set_option linter.all false
set_option maxRecDepth 100000
set_option maxHeartbeats 2000000
set_option autoImplicit false
/-! The data layer, 15: words for printed terms. -/
namespace DL
open PySem PySem.Spec PyProof.Rows L2 He
section
variable {Γ : Pg} {ξ : Xx} {X : Cx} {E : WX}
theorem ds_lcs {i : Nat} {y : Str} {py : Pos} {elt tg iter : Expr} {ifs : List Expr} {scope : Scope} {own : List (Str × Nat)} {pos spos : Pos} {fi : AF} {t : TF} {ix : List Nat} {fc fe : EF} (hc : X.calm = true) (hN : X.N.Nodup) (ok : BlkOk X.N X.env.scope scope own) (hi : PI X tg iter (dI Γ ξ fi E))
    (hg : ∀ (s : Shared) (H : Hp) (C : Addr) (cl : List (Str × Addr)) (fp : List Addr), PG (X.blk s H scope (PySem.compEnvC scope cl C X.env) fp) tg (dG Γ ξ t ix)) (ht : ∀ (s : Shared) (H : Hp) (C : Addr) (cl : List (Str × Addr)) (fp : List Addr), PTs (X.blk s H scope (PySem.compEnvC scope cl C X.env) fp) ifs (dT Γ ξ fc E0))
    (he : ∀ (s : Shared) (H : Hp) (C : Addr) (cl : List (Str × Addr)) (fp : List Addr), PE (X.blk s H scope (PySem.compEnvC scope cl C X.env) fp) elt (dE Γ ξ fe E0))
    (hy : X.N[i]? = some y := by rfl) (hyl : X.env.scope.names.lookup y = some .local := by rfl) (hsw : swapsWith (.ListComp elt [⟨tg, iter, ifs, 0⟩] scope pos) (some (.Name y py)) spos.line X.env = pure true := by rfl)
    (hix : ∀ j ∈ ix, j ∈ own.map (·.2) := by decide) (hs : ∀ x, foldedSetIterable iter X.env x = pure x := by intro _; rfl) :
    PS X (.Assign [.Name y py] (.ListComp elt [⟨tg, iter, ifs, 0⟩] scope pos) spos) (dS Γ ξ (sAsg (tgN i) (eLc (own.map (·.2)) fi t fc fe)) E) := ds_setLc hc hN hi ok hg ht he (ps_setLc hc hN hy hyl hsw hi ok hg ht he hs) hix
theorem Reps.rev {W : Wd} : ∀ {ds : List D} {vs : List V}, Reps Γ W ds vs → Reps Γ W ds.reverse vs.reverse
  | [], vs, h => by simp only [Reps] at h; subst h; exact Reps.nil
  | d :: ds, vs, h => by
    simp only [Reps] at h
    obtain ⟨v, vs', rfl, h1, h2⟩ := h
    rw [List.reverse_cons, List.reverse_cons]
    exact (Reps.rev h2).append (Reps.cons h1 Reps.nil)
theorem valsRev : ∀ {vs : List V} {us : List Value}, Vals vs us → Vals vs.reverse us.reverse
  | _, _, .nil => .nil
  | _, _, .cons h r => by
    rw [List.reverse_cons, List.reverse_cons]
    exact (valsRev r).append (.cons h .nil)
end
end DL
set_option Elab.async false
set_option linter.all false
set_option maxRecDepth 100000
set_option maxHeartbeats 2000000
set_option autoImplicit false
/-! The data layer, 16: a law's end. -/
namespace DL
open PySem PySem.Spec PyProof.Rows L2 He
theorem sp_law {K : PySem.W.Frag} {cl : Nat → Addr} {den : List D → Store → Res} {H : Hp} {a : Addr} {ns : List Int} {S : Store} (hS : SqL K H a (ns.map V.int)) (h : den [.lst (ns.map D.int)] [] = .ok (.bl true) S) :
    spD ⟨K, cl⟩ 1 den [.ref a] H (fun v _ => v = .bl true) fun _ _ _ => False := by
  have reps : ∀ (W : Wd) (ns : List Int), Reps ⟨K, cl⟩ W (ns.map D.int) (ns.map V.int) := fun W ns => by
    induction ns with
    | nil => exact Reps.nil
    | cons n r ih => exact Reps.cons (by simp only [Rep]) ih
  refine ⟨⟨H, fun _ => none, []⟩, [], [.lst (ns.map D.int)], ⟨fun a o h => h, fun a o h => ?_, fun i a h => ?_, List.nodup_nil, rfl, fun i a ds h => ?_⟩, Reps.cons ?_ Reps.nil, rfl, ?_⟩
  · cases h
  · cases h
  · cases h
  · simp only [Rep]
    exact ⟨a, _, rfl, hS, reps _ ns⟩
  · rw [h]
    intro W' v H' l ok r
    simpa only [Rep] using r
theorem walk_dl {l : PySem.W.OpenLaw} {n k : Nat} {q : Program} {loose : List Str} {XP : (Str → Option Value) → Heap → Prop} {YP : World → Heap → Prop} {d : DefRec} {x : Str}
    (hn : l.most = some n) (hn2 : n ≤ sizeLine) (hdf : d.params.defaults = []) (hr : Room k callerA)
    (F : ∀ (w : World) (mg : Str → Option Value) (fa : Addr) (h : Heap), YP w h → h.Ns mainGlobals mg → mg d.name = some (.ref fa) →
      ∃ (K : PySem.W.Frag) (fd : FuncData) (cl : Nat → Addr) (den : List D → Store → Res), K.In h ∧ (∀ (s : Shared) (u : Value), BindsTo s fd ⟨[u], []⟩ [(x, u)]) ∧
        (∀ ns : List Int, ns.length ≤ n → (∀ z ∈ ns, Builtin.Int.intBits z ≤ 1048576) → ∃ S, den [.lst (ns.map D.int)] [] = .ok (.bl true) S) ∧
        ∀ base : Heap, K.In base → base.Ns mainGlobals mg → FnOk l.prog w K mg base (L2.CX l.prog w) k fa fd [x] (spD ⟨K, cl⟩ 1 den)) :
    PySem.W.WalkO q loose XP YP l.row.toRowW d [] (fun f vs => PySem.call f vs) := by
  refine Att.attach_callB hn hdf fun w s₀ s₁ mg mb fa o pm cd doc a vs ns G Y ho hd hcd hmg hobj hints hlen hbits hg => ?_
  obtain ⟨K, fd, cl, den, KX, hb, hsp, hF⟩ := F w mg fa _ Y G.T.g hmg
  obtain ⟨S, e⟩ := hsp ns hlen hbits
  refine law_call KX G.T.g G.T.b G.T.builtins G.T.nolimit hg hobj hints (Nat.le_trans hlen hn2) hr hF hb (fun H hO hS => sp_law hS e) fun H e s' z => ?_
  obtain ⟨_, _, _, _, _, _, _, _, _, _, _, _, z⟩ := z
  exact z.elim
/-- a global def is at the address its name tells -/
theorem cal_fn {Γ : Pg} {P : Program} {w : World} {mg : Str → Option Value} {base : Heap} {k n : Nat} {x : Str} {den : List D → Store → Res} {fa : Addr} (c : Cal Γ P w mg base k x n den) (h : mg x = some (.ref fa)) : ∃ (fd : FuncData) (ps : List Str), FnOk P w Γ.K mg base (L2.CX P w) k fa fd ps (spD Γ n den) := by
  obtain ⟨f, fd, ps, F, h1, _, _⟩ := c.ex
  rw [h] at h1
  cases h1
  exact ⟨fd, ps, F⟩
end DL
set_option Elab.async false
set_option linter.all false
set_option maxRecDepth 100000
set_option maxHeartbeats 2000000
set_option autoImplicit false
/-! The data layer, 17: evaluation. -/
namespace DL
open PySem L2

section
variable {es : List SD} {S S' : Store} {d x y : D} {ds : List D} {k : Nat} {fs : List (Str × D)}
@[simp] theorem Res.bind_ok {f : D → Store → Res} : (Res.ok d S).bind f = f d S := rfl
@[simp] theorem Res.bind_exc {f : D → Store → Res} : (Res.exc k fs S).bind f = .exc k fs S := rfl
@[simp] theorem Res.bindA_ok {f : D → Store → ResA} : (Res.ok d S).bindA f = f d S := rfl
@[simp] theorem Res.bindA_exc {f : D → Store → ResA} : (Res.exc k fs S).bindA f = .exc k fs S := rfl
@[simp] theorem ResA.bind_ok {f : List D → Store → Res} : (ResA.ok ds S).bind f = f ds S := rfl
@[simp] theorem ResA.bind_exc {f : List D → Store → Res} : (ResA.exc k fs S).bind f = .exc k fs S := rfl
@[simp] theorem ResA.bindL_ok {f : List D → Store → ResA} : (ResA.ok ds S).bindL f = f ds S := rfl
@[simp] theorem ResA.bindL_exc {f : List D → Store → ResA} : (ResA.exc k fs S).bindL f = .exc k fs S := rfl
@[simp] theorem Res.nox_ok : (Res.ok d S).nox = .ok d S := rfl
@[simp] theorem Fl.bind_next {f : SF} : (Fl.next es S).bind f = f es S := rfl
@[simp] theorem Fl.bind_ret {f : SF} : (Fl.ret d S).bind f = .ret d S := rfl
@[simp] theorem Fl.bind_brk {f : SF} : (Fl.brk es S).bind f = .brk es S := rfl
@[simp] theorem Fl.bind_ct {f : SF} : (Fl.ct es S).bind f = .ct es S := rfl
@[simp] theorem Fl.bind_exc {f : SF} : (Fl.exc k fs es S).bind f = .exc k fs es S := rfl
@[simp] theorem Res.toS_ok {f : D → Store → Fl} : (Res.ok d S).toS es f = f d S := rfl
@[simp] theorem Res.toS_exc {f : D → Store → Fl} : (Res.exc k fs S).toS es f = .exc k fs es S := rfl
@[simp] theorem eVar_eq {i : Nat} : eVar i es S = match es[i]? with | some (.val d) => .ok d S | _ => .bad := rfl
@[simp] theorem eVarT_acc {i : Nat} : eVarT i es S = match es[i]? with | some (.val d) => .ok d S | some (.acc ds) => .ok (.lst ds) S | _ => .bad := by
  unfold eVarT
  rfl
@[simp] theorem eC_eq : eC d es S = .ok d S := rfl
@[simp] theorem eOp2_eq {g : D → D → Store → Res} {a b : EF} : eOp2 g a b es S = (a es S).bind fun x S1 => (b es S1).bind fun y S2 => (g x y S2).nox := rfl
@[simp] theorem eOp1_eq {g : D → Store → Res} {a : EF} : eOp1 g a es S = (a es S).bind fun x S1 => (g x S1).nox := rfl
@[simp] theorem aNil_eq : aNil es S = .ok [] S := rfl
@[simp] theorem aCons_eq {f : EF} {g : AF} : aCons f g es S = (f es S).bindA fun d S1 => (g es S1).bindL fun ds S2 => .ok (d :: ds) S2 := rfl
@[simp] theorem eCall_eq {n : Nat} {den : List D → Store → Res} {a : AF} : eCall n den a es S = (a es S).bind (chk n den) := rfl
@[simp] theorem chk_eq {n : Nat} {f : List D → Store → Res} : chk n f ds S = if ds.length = n then f ds S else .bad := rfl
@[simp] theorem eTup_eq {a : AF} : eTup a es S = (a es S).bind fun ds S1 => if ds.length ≤ 16777216 then .ok (.tup ds) S1 else .bad := rfl
@[simp] theorem eLst_eq {a : AF} : eLst a es S = (a es S).bind fun ds S1 => if ds.length ≤ 16777216 then .ok (.lst ds) S1 else .bad := rfl
@[simp] theorem eCell_eq {a : AF} : eCell a es S = (a es S).bind fun ds S1 => if ds.length ≤ 16777216 then .ok (.cell S1.length) (S1 ++ [ds]) else .bad := rfl
@[simp] theorem eNot_eq {f : EF} : eNot f es S = (f es S).bind nB := rfl
@[simp] theorem nB_eq {b : Bool} : nB (.bl b) S = .ok (.bl (!b)) S := rfl
@[simp] theorem eAnd_eq {a b : EF} : eAnd a b es S = (a es S).bind fun d S1 => match d with | .bl true => b es S1 | .bl false => .ok (.bl false) S1 | _ => .bad := rfl
@[simp] theorem eOr_eq {a b : EF} : eOr a b es S = (a es S).bind fun d S1 => match d with | .bl false => b es S1 | .bl true => .ok (.bl true) S1 | _ => .bad := rfl
@[simp] theorem eIf_eq {c a b : EF} : eIf c a b es S = (c es S).bind fun d S1 => match d with | .bl true => a es S1 | .bl false => b es S1 | _ => .bad := rfl
@[simp] theorem sSeq_eq {f g : SF} : sSeq f g es S = (f es S).bind g := rfl
@[simp] theorem sPass_eq : sPass es S = .next es S := rfl
@[simp] theorem sBrk_eq : sBrk es S = .brk es S := rfl
@[simp] theorem sExpr_eq {f : EF} : sExpr f es S = (f es S).toS es fun _ S' => .next es S' := rfl
@[simp] theorem sIf_eq {c : EF} {a b : SF} : sIf c a b es S = (c es S).toS es fun d S1 => match d with | .bl true => a es S1 | .bl false => b es S1 | _ => .bad := by
  unfold sIf
  rfl
@[simp] theorem sAsg_eq {t : TF} {f : EF} : sAsg t f es S = (f es S).toS es fun d S1 => match t d es with | some es1 => .next es1 S1 | none => .bad := by
  unfold sAsg
  rfl
@[simp] theorem tgN_eq {i : Nat} : tgN i d es = some (es.set i (.val d)) := rfl
@[simp] theorem tsNil_eq : tsNil [] es = some es := rfl
@[simp] theorem tsCons_eq {t : TF} {u : TFs} : tsCons t u (d :: ds) es = (t d es).bind (u ds) := by
  unfold tsCons
  rfl
@[simp] theorem tgT_tup {n : Nat} {t : TFs} : tgT n t (.tup ds) es = if ds.length = n then t ds es else none := by
  unfold tgT
  rfl
@[simp] theorem sPar_eq {i j : Nat} {a : AF} : sPar i j a es S = match a es S with | .ok [d1, d2] S1 => .next ((es.set i (.val d1)).set j (.val d2)) S1 | .exc k fs S1 => .exc k fs es S1 | _ => .bad := rfl
@[simp] theorem frz1_val : frz1 (.val d) = .val d := rfl
@[simp] theorem frz1_no : frz1 .no = .no := rfl
@[simp] theorem frz1_acc : frz1 (.acc ds) = .val (.lst ds) := rfl
@[simp] theorem frz1_exn : frz1 (.exn k fs) = .exn k fs := rfl
@[simp] theorem frz1_slf : frz1 .slf = .slf := rfl
@[simp] theorem sRet_eq {f : EF} : sRet f es S = match f (es.map frz1) S with | .ok d S1 => .ret d S1 | .exc k fs S1 => .exc k fs (es.map frz1) S1 | .bad => .bad := rfl
@[simp] theorem sRetN_eq : sRetN es S = .ret .non S := rfl
@[simp] theorem forL_nil {t : TF} {b : SF} : forL t b [] es S = .next es S := rfl
@[simp] theorem sFor_eq {it : AF} {t : TF} {b : SF} : sFor it t b es S = match it es S with | .ok ds S1 => forL t b ds es S1 | .exc k fs S1 => .exc k fs es S1 | .bad => .bad := rfl
@[simp] theorem itSeq_eq {f : EF} : itSeq f es S = (f es S).bindA fun d S1 => match d with | .lst ds => .ok ds S1 | .tup ds => .ok ds S1 | .str z => .ok (z.cps.toList.map fun c => .str ⟨#[c]⟩) S1 | _ => .bad := by
  unfold itSeq
  rfl
@[simp] theorem itZip_eq {a : AF} : itZip a es S = (a es S).bindL fun ds S1 => match ds with
  | [.lst xs, .lst ys] => .ok ((xs.zip ys).map fun p => .tup [p.1, p.2]) S1
  | [.tup xs, .tup ys] => .ok ((xs.zip ys).map fun p => .tup [p.1, p.2]) S1
  | _ => .bad := rfl
@[simp] theorem itRange1_eq {a : AF} : itRange1 a es S = (a es S).bindL fun ds S1 => match ds with
  | [.int n] => if -(2 ^ 62) ≤ n ∧ n < 2 ^ 62 then .ok ((List.range n.toNat).map fun (i : Nat) => D.int i) S1 else .bad
  | _ => .bad := rfl
@[simp] theorem iAdd_eq {i j : Int} : iAdd (.int i) (.int j) S = .ok (.int (i + j)) S := rfl
@[simp] theorem iSub_eq {i j : Int} : iSub (.int i) (.int j) S = .ok (.int (i - j)) S := rfl
@[simp] theorem iLt_eq {i j : Int} : iLt (.int i) (.int j) S = .ok (.bl (decide (i < j))) S := rfl
@[simp] theorem iLe_eq {i j : Int} : iLe (.int i) (.int j) S = .ok (.bl (decide (i ≤ j))) S := rfl
@[simp] theorem iGt_eq {i j : Int} : iGt (.int i) (.int j) S = .ok (.bl (decide (j < i))) S := rfl
@[simp] theorem iGe_eq {i j : Int} : iGe (.int i) (.int j) S = .ok (.bl (decide (j ≤ i))) S := rfl
@[simp] theorem iNeg_eq {i : Int} : iNeg (.int i) S = .ok (.int (-i)) S := rfl
theorem iMul_ok {i j : Int} (h : bits i + bits j < 1000000) : iMul (.int i) (.int j) S = .ok (.int (i * j)) S := by
  show (if decide (bits i + bits j < 1000000) = true then _ else _) = _
  rw [if_pos (decide_eq_true h)]
theorem iDiv_ok {i j : Int} (h : 0 < j) (h2 : bits j < 9000) : iDiv (.int i) (.int j) S = .ok (.int (i / j)) S := by
  show (if (decide (0 < j) && decide (bits j < 9000)) = true then _ else _) = _
  rw [if_pos (by simp [h, h2])]
theorem iMod_ok {i j : Int} (h : 0 < j) : iMod (.int i) (.int j) S = .ok (.int (i % j)) S := by
  show (if decide (0 < j) = true then _ else _) = _
  rw [if_pos (by simp [h])]
theorem iDivN_ok {i j : Int} (h : j ≠ 0) (h2 : bits j < 9000) : iDivN (.int i) (.int j) S = .ok (.int (i.fdiv j)) S := by
  show (if (decide (j ≠ 0) && decide (bits j < 9000)) = true then _ else _) = _
  rw [if_pos (by simp [h, h2])]
theorem iModN_ok {i j : Int} (h : j ≠ 0) : iModN (.int i) (.int j) S = .ok (.int (i.fmod j)) S := by
  show (if decide (j ≠ 0) = true then _ else _) = _
  rw [if_pos (by simp [h])]
theorem iPow_ok {i j : Int} (h : 0 ≤ j) (h2 : j ≤ 1000000) (h3 : i.natAbs < 2 ^ 64) : iPow (.int i) (.int j) S = .ok (.int (i ^ j.toNat)) S := by
  show (if (decide (0 ≤ j) && decide (j ≤ 1000000) && decide (i.natAbs < 2 ^ 64)) = true then _ else _) = _
  rw [if_pos (by simp [h, h2, h3])]
@[simp] theorem gAbs_eq {i : Int} : gAbs (.int i) S = .ok (.int (if i < 0 then -i else i)) S := rfl
@[simp] theorem gMax_eq {i j : Int} : gMax (.int i) (.int j) S = .ok (.int (if j > i then j else i)) S := rfl
@[simp] theorem gMin_eq {i j : Int} : gMin (.int i) (.int j) S = .ok (.int (if j < i then j else i)) S := rfl
@[simp] theorem gLen_lst : gLen (.lst ds) S = .ok (.int ds.length) S := rfl
@[simp] theorem gLen_tup : gLen (.tup ds) S = .ok (.int ds.length) S := rfl
@[simp] theorem gTupOf_lst : gTupOf (.lst ds) S = .ok (.tup ds) S := rfl
@[simp] theorem gListOf_lst : gListOf (.lst ds) S = .ok (.lst ds) S := rfl
@[simp] theorem gSlot_0 {j : Nat} : gSlot j 0 (.obj j (d :: ds)) S = .ok d S := by simp [gSlot]
@[simp] theorem gSlot_1 {j : Nat} : gSlot j 1 (.obj j (x :: d :: ds)) S = .ok d S := by simp [gSlot]
@[simp] theorem gIx_tup0 : gIx (.tup (d :: ds)) (.int 0) S = .ok d S := by
  have e : L2.atI (d :: ds) 0 = some d := by
    unfold L2.atI ixN
    simp
  show (match L2.atI (d :: ds) 0 with | some d => Res.ok d S | none => .bad) = _
  rw [e]
@[simp] theorem gIx_tup1 : gIx (.tup (x :: d :: ds)) (.int 1) S = .ok d S := by
  have e : L2.atI (x :: d :: ds) 1 = some d := by
    unfold L2.atI ixN
    simp
    rw [if_pos (by omega)]
    rfl
  show (match L2.atI (x :: d :: ds) 1 with | some d => Res.ok d S | none => .bad) = _
  rw [e]
theorem atI_nat {α : Type} {l : List α} {i : Nat} {a : α} (h : l[i]? = some a) : L2.atI l (i : Int) = some a := by
  have hl : i < l.length := (List.getElem?_eq_some_iff.mp h).1
  unfold L2.atI ixN
  rw [if_pos (by omega), if_pos (by omega)]
  simpa using h
theorem gIx_lst {i : Nat} (h : ds[i]? = some d) : gIx (.lst ds) (.int i) S = .ok d S := by
  show (match L2.atI ds (i : Int) with | some d => Res.ok d S | none => .bad) = _
  rw [atI_nat h]
theorem gIx_cell {c i : Nat} (hc : S[c]? = some ds) (h : ds[i]? = some d) : gIx (.cell c) (.int i) S = .ok d S := by
  have e : deref S (.cell c) = .lst ds := by
    unfold deref
    simp only [hc]
  unfold gIx
  rw [e]
  show (match L2.atI ds (i : Int) with | some d => Res.ok d S | none => .bad) = _
  rw [atI_nat h]
@[simp] theorem gProp_eq {j : Nat} {den : List D → Store → Res} : gProp j den (.obj j ds) S = den [.obj j ds] S := by
  unfold gProp isObj chk
  simp
@[simp] theorem gOwn1_eq {j : Nat} {den : List D → Store → Res} : gOwn1 j den (.obj j ds) S = den [.obj j ds] S := by
  unfold gOwn1 isObj chk
  simp
@[simp] theorem gOwn_obj {j : Nat} {den : List D → Store → Res} {fs : List D} : gOwn j den (.obj j ds) (.obj j fs) S = den [.obj j ds, .obj j fs] S := by
  unfold gOwn isObj chk
  simp
@[simp] theorem gOwn_int {j : Nat} {den : List D → Store → Res} {i : Int} : gOwn j den (.obj j ds) (.int i) S = den [.obj j ds, .int i] S := by
  unfold gOwn isObj chk
  simp
@[simp] theorem eMeth_eq {j n : Nat} {den : List D → Store → Res} {f : EF} {a : AF} : eMeth j n den f a es S = (f es S).bind fun d S1 => if isObj j d then (a es S1).bind fun ds S2 => chk n den (d :: ds) S2 else .bad := rfl
@[simp] theorem eMethK_eq {j n m : Nat} {gD : List D → List D → List D} {den : List D → Store → Res} {f : EF} {a : AF} : eMethK j n m gD den f a es S = (f es S).bind fun d S1 => if isObj j d then (a es S1).bind fun ds S2 => if ds.length = m then chk n den (gD [d] ds) S2 else .bad else .bad := rfl
@[simp] theorem isObj_eq {j : Nat} : isObj j (.obj j ds) = true := by
  unfold isObj
  simp
@[simp] theorem eNew_eq {c n : Nat} {dfl : List D} {F : List D → Store → ResA} {a : AF} : eNew c n dfl F a es S = (a es S).bind fun ds S1 => newD c n F (ds ++ dfl) S1 := rfl
@[simp] theorem eNewK_eq {c n m : Nat} {gD : List D → List D} {F : List D → Store → ResA} {a : AF} : eNewK c n m gD F a es S = (a es S).bind fun ds S1 => if ds.length = m then newD c n F (gD ds) S1 else .bad := rfl
@[simp] theorem gEq_int {i j : Int} : gEq (.int i) (.int j) S = .ok (.bl (decide (i = j))) S := by
  show Res.ok (.bl (i == j)) S = _
  congr
@[simp] theorem gNe_int {i j : Int} : gNe (.int i) (.int j) S = .ok (.bl (!decide (i = j))) S := by
  show Res.ok (.bl (!(i == j))) S = _
  congr
@[simp] theorem gEq_fr {a b c e : Int} : gEq (.tup [.int a, .int b]) (.tup [.int c, .int e]) S = .ok (.bl (decide (a = c) && decide (b = e))) S := by
  show Res.ok (.bl (a == c && (b == e && true))) S = _
  rw [Bool.and_true]
  congr
@[simp] theorem gNe_bls3 {a b c a' b' c' : Bool} : gNe (.lst [.bl a, .bl b, .bl c]) (.lst [.bl a', .bl b', .bl c']) S = .ok (.bl (!(a == a' && (b == b' && c == c')))) S := by
  show Res.ok (.bl (!(a == a' && (b == b' && (c == c' && true))))) S = _
  rw [Bool.and_true]
@[simp] theorem gOr_left {g1 g2 : D → D → Store → Res} (h : g1 x y S = .ok d S') : gOr g1 g2 x y S = .ok d S' := by
  unfold gOr
  rw [h]
theorem fnD_eq {N : Nat} {body : SF} : fnD N body ds S = match body (startD N ds) S with | .next _ S' => .ok .non S' | .ret d S' => .ok d S' | .exc k fs _ S' => .exc k fs S' | _ => .bad := rfl
theorem initD_eq {sw : Bool} {N : Nat} {body : SF} {f1 f2 : EF} : initD sw N body f1 f2 ds S = match body (startI N ds) S with
  | .next es S1 => if isSlf es = true then (f1 es S1).bindA fun d1 S2 => (f2 es S2).bindA fun d2 S3 => .ok (ord sw d1 d2) S3 else .bad
  | .exc k fs _ S1 => .exc k fs S1
  | _ => .bad := rfl
@[simp] theorem isi_int_int {cs : List Nat} {i : Int} : gIsi cs (.int i) (.ty "int") S = .ok (.bl true) S := by
  have e : tyIs "int" "int" = some true := by decide +kernel
  show (match tyIs "int" "int" with | some b => Res.ok (.bl b) S | none => .bad) = _
  rw [e]
@[simp] theorem isi_int_bool {cs : List Nat} {i : Int} : gIsi cs (.int i) (.ty "bool") S = .ok (.bl false) S := by
  have e : tyIs "int" "bool" = some false := by decide +kernel
  show (match tyIs "int" "bool" with | some b => Res.ok (.bl b) S | none => .bad) = _
  rw [e]
@[simp] theorem isi_int_cls {cs : List Nat} {i : Int} {j : Nat} (h : j ∈ cs) : gIsi cs (.int i) (.cls j) S = .ok (.bl false) S := by
  unfold gIsi isi1 kind
  simp only [if_pos h]
@[simp] theorem isi_obj_ty {cs : List Nat} {j : Nat} {n : String} (h : j ∈ cs) (hn : n ∈ kinds) : gIsi cs (.obj j ds) (.ty n) S = .ok (.bl false) S := by
  unfold gIsi isi1 kind
  simp only [if_pos (And.intro h hn)]
@[simp] theorem isi_obj_cls {cs : List Nat} {i j : Nat} (h : i ∈ cs) (hj : j ∈ cs) : gIsi cs (.obj i ds) (.cls j) S = .ok (.bl (i == j)) S := by
  unfold gIsi isi1 kind
  simp only [if_pos (And.intro h hj)]
/-! ### sizes -/
theorem bits_lt {i : Int} {n : Nat} (h : i.natAbs < 2 ^ n) (hn : 0 < n) : bits i < n := PySem.Flt.log2_lt_of hn h
theorem bits_small {i : Int} (h : i.natAbs < 2 ^ 8000) : bits i < 9000 := Nat.lt_trans (bits_lt h (by decide)) (by decide)
end
end DL
set_option Elab.async false
set_option linter.all false
set_option maxRecDepth 100000
set_option maxHeartbeats 2000000
set_option autoImplicit false
namespace K02
open PySem PySem.Spec PyProof.Rows L2 He DL
def top (i : Nat) : Stmt := PySem.Challenge.pw_rowpicks_k02_ratios_reckoned.main.body.getD i (.Pass ⟨0, 0, 0, 0⟩)
def clf (K : PySem.W.Frag) : Nat → Addr
  | 0 => ga K "Ratio"
  | 1 => ga K "PickError"
  | 2 => ga K "InvalidNumber"
  | 3 => ga K "ByZero"
  | _ => 0
abbrev GG (K : PySem.W.Frag) : Pg := ⟨K, clf K⟩
def sNil : SF := fun es S => .next es S
def cks (K : PySem.W.Frag) : List Bool := [stB K (ga K "Ratio") "down" 0,
  slB K (ga K "Ratio"),
  siB K (ga K "Ratio"),
  prB K (ga K "Ratio") "bottom",
  stB K (ga K "Ratio") "up" 1,
  prB K (ga K "Ratio") "top",
  (Fa.glo "_law_told").ok K,
  (Fa.free "isinstance").ok K,
  (Fa.glo "Ratio").ok K,
  isB K (clf K) [0],
  (Fa.glo "_law_same").ok K,
  (Fa.free "bool").ok K,
  (Fa.free "int").ok K,
  (Fa.glo "is_integer").ok K,
  (Fa.glo "PickError").ok K,
  bsB K (ga K "PickError"),
  (Fa.glo "InvalidNumber").ok K,
  oinB K (ga K "InvalidNumber"),
  eqO (PySem.W.findIn K (.ref (ga K "InvalidNumber")) "value") (some none),
  (Fa.glo "ByZero").ok K,
  oinB K (ga K "ByZero"),
  (Fa.free "abs").ok K,
  (Fa.glo "common_divisor").ok K,
  mkB K (ga K "Ratio"),
  (Fa.free "max").ok K,
  (Fa.free "min").ok K,
  (Fa.free "len").ok K,
  (Fa.free "range").ok K,
  (Fa.glo "parts").ok K,
  mtB K (ga K "Ratio") "over",
  (Fa.glo "is_number").ok K,
  (Fa.glo "as_ratio").ok K,
  xffB K (clf K) [2] "value",
  mtsB K (clf K) [(1, 3, false), (1, 2, false), (2, 3, false), (2, 2, true), (3, 3, true), (3, 2, false)],
  (Fa.glo "_law_caught").ok K,
  bnB K (ga K "Ratio") .Add,
  (Fa.glo "total").ok K,
  eqFB K (ga K "Ratio") [ga K "Ratio"],
  (Fa.glo "is_amount").ok K,
  (Fa.glo "_law_odd_right").ok K,
  (Fa.glo "_law_take").ok K,
  bnB K (ga K "Ratio") .Mult,
  (Fa.glo "power").ok K,
  (Fa.glo "_law_given").ok K,
  (Fa.glo "_law_frac").ok K,
  (Fa.glo "_law_times").ok K,
  (Fa.glo "_law_number").ok K,
  (Fa.free "zip").ok K,
  (Fa.glo "dot").ok K,
  (Fa.free "tuple").ok K,
  (Fa.glo "_law_plus").ok K,
  (Fa.glo "_law_lists_right").ok K,
  mtB K (ga K "Ratio") "floor",
  spB K (ga K "Ratio") "__neg__",
  mtB K (ga K "Ratio") "below",
  (Fa.glo "_law_less").ok K,
  (Fa.glo "_law_minus").ok K,
  bnB K (ga K "Ratio") .Sub,
  (Fa.glo "_law_pair_right").ok K,
  (Fa.glo "_law_bag").ok K,
  (Fa.glo "_law_cell").ok K,
  (Fa.glo "law").ok K]
abbrev s_Ratio_bottom : Stmt := inClass (top 12) 3
def d_Ratio_bottom : DefA := ⟨fun K => pa K (ga K "Ratio") "bottom", "bottom", "Ratio.bottom", defArgs s_Ratio_bottom, defBody s_Ratio_bottom, defScope s_Ratio_bottom, []⟩
abbrev s_Ratio_top : Stmt := inClass (top 12) 2
def d_Ratio_top : DefA := ⟨fun K => pa K (ga K "Ratio") "top", "top", "Ratio.top", defArgs s_Ratio_top, defBody s_Ratio_top, defScope s_Ratio_top, []⟩
abbrev s__law_told : Stmt := top 28
def d__law_told : DefA := ⟨fun K => ga K "_law_told", "_law_told", "_law_told", defArgs s__law_told, defBody s__law_told, defScope s__law_told, []⟩
abbrev s__law_same : Stmt := top 31
def d__law_same : DefA := ⟨fun K => ga K "_law_same", "_law_same", "_law_same", defArgs s__law_same, defBody s__law_same, defScope s__law_same, []⟩
abbrev s_is_integer : Stmt := top 8
def d_is_integer : DefA := ⟨fun K => ga K "is_integer", "is_integer", "is_integer", defArgs s_is_integer, defBody s_is_integer, defScope s_is_integer, []⟩
abbrev s_InvalidNumberd__initd_ : Stmt := inClass (top 2) 0
def d_InvalidNumberd__initd_ : DefA := ⟨fun K => ma K (ga K "InvalidNumber") "__init__", "__init__", "InvalidNumber.__init__", defArgs s_InvalidNumberd__initd_, defBody s_InvalidNumberd__initd_, defScope s_InvalidNumberd__initd_, []⟩
abbrev s_ByZerod__initd_ : Stmt := inClass (top 4) 0
def d_ByZerod__initd_ : DefA := ⟨fun K => ma K (ga K "ByZero") "__init__", "__init__", "ByZero.__init__", defArgs s_ByZerod__initd_, defBody s_ByZerod__initd_, defScope s_ByZerod__initd_, []⟩
abbrev s_common_divisor : Stmt := top 9
def d_common_divisor : DefA := ⟨fun K => ga K "common_divisor", "common_divisor", "common_divisor", defArgs s_common_divisor, defBody s_common_divisor, defScope s_common_divisor, []⟩
abbrev s_Ratiod__initd_ : Stmt := inClass (top 12) 1
def d_Ratiod__initd_ : DefA := ⟨fun K => ma K (ga K "Ratio") "__init__", "__init__", "Ratio.__init__", defArgs s_Ratiod__initd_, defBody s_Ratiod__initd_, defScope s_Ratiod__initd_, [.int 1]⟩
abbrev s_parts : Stmt := top 10
def d_parts : DefA := ⟨fun K => ga K "parts", "parts", "parts", defArgs s_parts, defBody s_parts, defScope s_parts, []⟩
abbrev s_Ratio_over : Stmt := inClass (top 12) 8
def d_Ratio_over : DefA := ⟨fun K => ma K (ga K "Ratio") "over", "over", "Ratio.over", defArgs s_Ratio_over, defBody s_Ratio_over, defScope s_Ratio_over, []⟩
abbrev s_is_number : Stmt := top 13
def d_is_number : DefA := ⟨fun K => ga K "is_number", "is_number", "is_number", defArgs s_is_number, defBody s_is_number, defScope s_is_number, []⟩
abbrev s_as_ratio : Stmt := top 15
def d_as_ratio : DefA := ⟨fun K => ga K "as_ratio", "as_ratio", "as_ratio", defArgs s_as_ratio, defBody s_as_ratio, defScope s_as_ratio, []⟩
abbrev s__law_caught : Stmt := top 34
def d__law_caught : DefA := ⟨fun K => ga K "_law_caught", "_law_caught", "_law_caught", defArgs s__law_caught, defBody s__law_caught, defScope s__law_caught, []⟩
abbrev s_Ratiod__addd_ : Stmt := inClass (top 12) 5
def d_Ratiod__addd_ : DefA := ⟨fun K => ma K (ga K "Ratio") "__add__", "__add__", "Ratio.__add__", defArgs s_Ratiod__addd_, defBody s_Ratiod__addd_, defScope s_Ratiod__addd_, []⟩
abbrev s_total : Stmt := top 16
def d_total : DefA := ⟨fun K => ga K "total", "total", "total", defArgs s_total, defBody s_total, defScope s_total, []⟩
abbrev s_Ratiod__eqd_ : Stmt := inClass (top 12) 10
def d_Ratiod__eqd_ : DefA := ⟨fun K => ma K (ga K "Ratio") "__eq__", "__eq__", "Ratio.__eq__", defArgs s_Ratiod__eqd_, defBody s_Ratiod__eqd_, defScope s_Ratiod__eqd_, []⟩
abbrev s_is_amount : Stmt := top 14
def d_is_amount : DefA := ⟨fun K => ga K "is_amount", "is_amount", "is_amount", defArgs s_is_amount, defBody s_is_amount, defScope s_is_amount, []⟩
abbrev s__law_odd_right : Stmt := top 35
def d__law_odd_right : DefA := ⟨fun K => ga K "_law_odd_right", "_law_odd_right", "_law_odd_right", defArgs s__law_odd_right, defBody s__law_odd_right, defScope s__law_odd_right, []⟩
abbrev s__law_take : Stmt := top 22
def d__law_take : DefA := ⟨fun K => ga K "_law_take", "_law_take", "_law_take", defArgs s__law_take, defBody s__law_take, defScope s__law_take, []⟩
abbrev s_Ratiod__muld_ : Stmt := inClass (top 12) 7
def d_Ratiod__muld_ : DefA := ⟨fun K => ma K (ga K "Ratio") "__mul__", "__mul__", "Ratio.__mul__", defArgs s_Ratiod__muld_, defBody s_Ratiod__muld_, defScope s_Ratiod__muld_, []⟩
abbrev s_power : Stmt := top 18
def d_power : DefA := ⟨fun K => ga K "power", "power", "power", defArgs s_power, defBody s_power, defScope s_power, []⟩
abbrev s__law_given : Stmt := top 29
def d__law_given : DefA := ⟨fun K => ga K "_law_given", "_law_given", "_law_given", defArgs s__law_given, defBody s__law_given, defScope s__law_given, []⟩
abbrev s__law_frac : Stmt := top 23
def d__law_frac : DefA := ⟨fun K => ga K "_law_frac", "_law_frac", "_law_frac", defArgs s__law_frac, defBody s__law_frac, defScope s__law_frac, []⟩
abbrev s__law_times : Stmt := top 26
def d__law_times : DefA := ⟨fun K => ga K "_law_times", "_law_times", "_law_times", defArgs s__law_times, defBody s__law_times, defScope s__law_times, []⟩
abbrev s__law_number : Stmt := top 30
def d__law_number : DefA := ⟨fun K => ga K "_law_number", "_law_number", "_law_number", defArgs s__law_number, defBody s__law_number, defScope s__law_number, []⟩
abbrev s_dot : Stmt := top 17
def d_dot : DefA := ⟨fun K => ga K "dot", "dot", "dot", defArgs s_dot, defBody s_dot, defScope s_dot, []⟩
abbrev s__law_plus : Stmt := top 24
def d__law_plus : DefA := ⟨fun K => ga K "_law_plus", "_law_plus", "_law_plus", defArgs s__law_plus, defBody s__law_plus, defScope s__law_plus, []⟩
abbrev s__law_lists_right : Stmt := top 33
def d__law_lists_right : DefA := ⟨fun K => ga K "_law_lists_right", "_law_lists_right", "_law_lists_right", defArgs s__law_lists_right, defBody s__law_lists_right, defScope s__law_lists_right, []⟩
abbrev s_Ratio_floor : Stmt := inClass (top 12) 12
def d_Ratio_floor : DefA := ⟨fun K => ma K (ga K "Ratio") "floor", "floor", "Ratio.floor", defArgs s_Ratio_floor, defBody s_Ratio_floor, defScope s_Ratio_floor, []⟩
abbrev s_Ratiod__negd_ : Stmt := inClass (top 12) 9
def d_Ratiod__negd_ : DefA := ⟨fun K => ma K (ga K "Ratio") "__neg__", "__neg__", "Ratio.__neg__", defArgs s_Ratiod__negd_, defBody s_Ratiod__negd_, defScope s_Ratiod__negd_, []⟩
abbrev s_Ratio_below : Stmt := inClass (top 12) 11
def d_Ratio_below : DefA := ⟨fun K => ma K (ga K "Ratio") "below", "below", "Ratio.below", defArgs s_Ratio_below, defBody s_Ratio_below, defScope s_Ratio_below, []⟩
abbrev s__law_less : Stmt := top 27
def d__law_less : DefA := ⟨fun K => ga K "_law_less", "_law_less", "_law_less", defArgs s__law_less, defBody s__law_less, defScope s__law_less, []⟩
abbrev s__law_minus : Stmt := top 25
def d__law_minus : DefA := ⟨fun K => ga K "_law_minus", "_law_minus", "_law_minus", defArgs s__law_minus, defBody s__law_minus, defScope s__law_minus, []⟩
abbrev s_Ratiod__subd_ : Stmt := inClass (top 12) 6
def d_Ratiod__subd_ : DefA := ⟨fun K => ma K (ga K "Ratio") "__sub__", "__sub__", "Ratio.__sub__", defArgs s_Ratiod__subd_, defBody s_Ratiod__subd_, defScope s_Ratiod__subd_, []⟩
abbrev s__law_pair_right : Stmt := top 32
def d__law_pair_right : DefA := ⟨fun K => ga K "_law_pair_right", "_law_pair_right", "_law_pair_right", defArgs s__law_pair_right, defBody s__law_pair_right, defScope s__law_pair_right, []⟩
abbrev s__law_bag : Stmt := top 21
def d__law_bag : DefA := ⟨fun K => ga K "_law_bag", "_law_bag", "_law_bag", defArgs s__law_bag, defBody s__law_bag, defScope s__law_bag, []⟩
abbrev s__law_cell : Stmt := top 20
def d__law_cell : DefA := ⟨fun K => ga K "_law_cell", "_law_cell", "_law_cell", defArgs s__law_cell, defBody s__law_cell, defScope s__law_cell, []⟩
abbrev s_law : Stmt := top 36
def d_law : DefA := ⟨fun K => ga K "law", "law", "law", defArgs s_law, defBody s_law, defScope s_law, []⟩
def fns : List DefA := [d_Ratio_bottom, d_Ratio_top, d__law_told, d__law_same, d_is_integer, d_InvalidNumberd__initd_, d_ByZerod__initd_, d_common_divisor, d_Ratiod__initd_, d_parts, d_Ratio_over, d_is_number, d_as_ratio, d__law_caught, d_Ratiod__addd_, d_total, d_Ratiod__eqd_, d_is_amount, d__law_odd_right, d__law_take, d_Ratiod__muld_, d_power, d__law_given, d__law_frac, d__law_times, d__law_number, d_dot, d__law_plus, d__law_lists_right, d_Ratio_floor, d_Ratiod__negd_, d_Ratio_below, d__law_less, d__law_minus, d_Ratiod__subd_, d__law_pair_right, d__law_bag, d__law_cell, d_law]
abbrev BB (K : PySem.W.Frag) (mg : Str → Option Value) : Prop := Bs fns cks K mg
section
variable {P : Program} {w : World} {K : PySem.W.Frag} {mg : Str → Option Value} {base : Heap}
theorem k0 (B : BB K mg) : stB K (ga K "Ratio") "down" 0 = true := B.ck 0
theorem k1 (B : BB K mg) : slB K (ga K "Ratio") = true := B.ck 1
theorem k2 (B : BB K mg) : siB K (ga K "Ratio") = true := B.ck 2
theorem k3 (B : BB K mg) : prB K (ga K "Ratio") "bottom" = true := B.ck 3
theorem k4 (B : BB K mg) : stB K (ga K "Ratio") "up" 1 = true := B.ck 4
theorem k5 (B : BB K mg) : prB K (ga K "Ratio") "top" = true := B.ck 5
theorem k6 (B : BB K mg) : (Fa.glo "_law_told").ok K = true := B.ck 6
theorem k7 (B : BB K mg) : (Fa.free "isinstance").ok K = true := B.ck 7
theorem k8 (B : BB K mg) : (Fa.glo "Ratio").ok K = true := B.ck 8
theorem k9 (B : BB K mg) : isB K (clf K) [0] = true := B.ck 9
theorem k10 (B : BB K mg) : (Fa.glo "_law_same").ok K = true := B.ck 10
theorem k11 (B : BB K mg) : (Fa.free "bool").ok K = true := B.ck 11
theorem k12 (B : BB K mg) : (Fa.free "int").ok K = true := B.ck 12
theorem k13 (B : BB K mg) : (Fa.glo "is_integer").ok K = true := B.ck 13
theorem k14 (B : BB K mg) : (Fa.glo "PickError").ok K = true := B.ck 14
theorem k15 (B : BB K mg) : bsB K (ga K "PickError") = true := B.ck 15
theorem k16 (B : BB K mg) : (Fa.glo "InvalidNumber").ok K = true := B.ck 16
theorem k17 (B : BB K mg) : oinB K (ga K "InvalidNumber") = true := B.ck 17
theorem k18 (B : BB K mg) : eqO (PySem.W.findIn K (.ref (ga K "InvalidNumber")) "value") (some none) = true := B.ck 18
theorem k19 (B : BB K mg) : (Fa.glo "ByZero").ok K = true := B.ck 19
theorem k20 (B : BB K mg) : oinB K (ga K "ByZero") = true := B.ck 20
theorem k21 (B : BB K mg) : (Fa.free "abs").ok K = true := B.ck 21
theorem k22 (B : BB K mg) : (Fa.glo "common_divisor").ok K = true := B.ck 22
theorem k23 (B : BB K mg) : mkB K (ga K "Ratio") = true := B.ck 23
theorem k24 (B : BB K mg) : (Fa.free "max").ok K = true := B.ck 24
theorem k25 (B : BB K mg) : (Fa.free "min").ok K = true := B.ck 25
theorem k26 (B : BB K mg) : (Fa.free "len").ok K = true := B.ck 26
theorem k27 (B : BB K mg) : (Fa.free "range").ok K = true := B.ck 27
theorem k28 (B : BB K mg) : (Fa.glo "parts").ok K = true := B.ck 28
theorem k29 (B : BB K mg) : mtB K (ga K "Ratio") "over" = true := B.ck 29
theorem k30 (B : BB K mg) : (Fa.glo "is_number").ok K = true := B.ck 30
theorem k31 (B : BB K mg) : (Fa.glo "as_ratio").ok K = true := B.ck 31
theorem k32 (B : BB K mg) : xffB K (clf K) [2] "value" = true := B.ck 32
theorem k33 (B : BB K mg) : mtsB K (clf K) [(1, 3, false), (1, 2, false), (2, 3, false), (2, 2, true), (3, 3, true), (3, 2, false)] = true := B.ck 33
theorem k34 (B : BB K mg) : (Fa.glo "_law_caught").ok K = true := B.ck 34
theorem k35 (B : BB K mg) : bnB K (ga K "Ratio") .Add = true := B.ck 35
theorem k36 (B : BB K mg) : (Fa.glo "total").ok K = true := B.ck 36
theorem k37 (B : BB K mg) : eqFB K (ga K "Ratio") [ga K "Ratio"] = true := B.ck 37
theorem k38 (B : BB K mg) : (Fa.glo "is_amount").ok K = true := B.ck 38
theorem k39 (B : BB K mg) : (Fa.glo "_law_odd_right").ok K = true := B.ck 39
theorem k40 (B : BB K mg) : (Fa.glo "_law_take").ok K = true := B.ck 40
theorem k41 (B : BB K mg) : bnB K (ga K "Ratio") .Mult = true := B.ck 41
theorem k42 (B : BB K mg) : (Fa.glo "power").ok K = true := B.ck 42
theorem k43 (B : BB K mg) : (Fa.glo "_law_given").ok K = true := B.ck 43
theorem k44 (B : BB K mg) : (Fa.glo "_law_frac").ok K = true := B.ck 44
theorem k45 (B : BB K mg) : (Fa.glo "_law_times").ok K = true := B.ck 45
theorem k46 (B : BB K mg) : (Fa.glo "_law_number").ok K = true := B.ck 46
theorem k47 (B : BB K mg) : (Fa.free "zip").ok K = true := B.ck 47
theorem k48 (B : BB K mg) : (Fa.glo "dot").ok K = true := B.ck 48
theorem k49 (B : BB K mg) : (Fa.free "tuple").ok K = true := B.ck 49
theorem k50 (B : BB K mg) : (Fa.glo "_law_plus").ok K = true := B.ck 50
theorem k51 (B : BB K mg) : (Fa.glo "_law_lists_right").ok K = true := B.ck 51
theorem k52 (B : BB K mg) : mtB K (ga K "Ratio") "floor" = true := B.ck 52
theorem k53 (B : BB K mg) : spB K (ga K "Ratio") "__neg__" = true := B.ck 53
theorem k54 (B : BB K mg) : mtB K (ga K "Ratio") "below" = true := B.ck 54
theorem k55 (B : BB K mg) : (Fa.glo "_law_less").ok K = true := B.ck 55
theorem k56 (B : BB K mg) : (Fa.glo "_law_minus").ok K = true := B.ck 56
theorem k57 (B : BB K mg) : bnB K (ga K "Ratio") .Sub = true := B.ck 57
theorem k58 (B : BB K mg) : (Fa.glo "_law_pair_right").ok K = true := B.ck 58
theorem k59 (B : BB K mg) : (Fa.glo "_law_bag").ok K = true := B.ck 59
theorem k60 (B : BB K mg) : (Fa.glo "_law_cell").ok K = true := B.ck 60
theorem k61 (B : BB K mg) : (Fa.glo "law").ok K = true := B.ck 61
theorem st0_down (B : BB K mg) : SlotF (GG K) 0 "down" 0 := ⟨_, stB_ok (k0 B)⟩
theorem sl0 (B : BB K mg) : SlF (GG K) 0 := ⟨slB_ok (k1 B), siB_ok (k2 B)⟩
theorem st0_up (B : BB K mg) : SlotF (GG K) 0 "up" 1 := ⟨_, stB_ok (k4 B)⟩
theorem isf (B : BB K mg) : IsF (GG K) [0] := isB_ok (k9 B) (fun k hk => by
  simp only [List.mem_cons, List.not_mem_nil, or_false] at hk
  subst hk
  · exact (sl0 B))
theorem eqf0 (B : BB K mg) : EqF (GG K) [0] 0 (ma K (ga K "Ratio") "__eq__") := eqFB_ok (Γ := GG K) (cs := [0]) (k := 0) (k37 B)
theorem sc_Ratio_bottom : FnScope ["self"] ["self"] (defScope s_Ratio_bottom) := ⟨rfl, rfl, rfl, by decide +kernel, rfl, by decide +kernel, by decide +kernel⟩
noncomputable def b_Ratio_bottom : SF := (sRet (eOp1 (gSlot 0 0) (eVar 0)))
noncomputable def D_Ratio_bottom : List D → Store → Res := fnD 1 b_Ratio_bottom
theorem p_Ratio_bottom (B : BB K mg) {ξ : Xx} (cdv : Value) (A : Around) (outer : List Env) (s : Shared) (H : Hp) (Ex : XK) (hr : Room 0 (A.deeper (envOfC d_Ratio_bottom.qual d_Ratio_bottom.scope s.heap.objs.size (d_Ratio_bottom.at_ (GG K).K) cdv))) :
    PSs (cxOf (L2.CX P w) P w (GG K).K mg base ["self"] d_Ratio_bottom.qual d_Ratio_bottom.scope (d_Ratio_bottom.at_ (GG K).K) cdv A outer s H Ex) d_Ratio_bottom.body (dS (GG K) ξ b_Ratio_bottom (fun c d' _ H => Ex c d' H)) := by
  have hh : Here (GG K) P w mg base 0 (cxOf (L2.CX P w) P w (GG K).K mg base ["self"] d_Ratio_bottom.qual d_Ratio_bottom.scope (d_Ratio_bottom.at_ (GG K).K) cdv A outer s H Ex) (fun c d' _ H => Ex c d' H) := here_of hr
  exact (dss_one (ds_ret (de_slot hh.K (sl0 B) (st0_down B) (de_var 0))))
theorem c_Ratio_bottom (B : BB K mg) : CalR (GG K) P w mg base 1 (pa K (ga K "Ratio") "bottom") 1 D_Ratio_bottom := calR_of (Γ := GG K) (k := 0) (d := d_Ratio_bottom) (ξ := ⟨0, .none, none⟩) (body := b_Ratio_bottom) B 0 sc_Ratio_bottom (p_Ratio_bottom B) (fun _ _ _ _ _ _ us hl => match us, hl with | [_], _ => rfl)
theorem sc_Ratio_top : FnScope ["self"] ["self"] (defScope s_Ratio_top) := ⟨rfl, rfl, rfl, by decide +kernel, rfl, by decide +kernel, by decide +kernel⟩
noncomputable def b_Ratio_top : SF := (sRet (eOp1 (gSlot 0 1) (eVar 0)))
noncomputable def D_Ratio_top : List D → Store → Res := fnD 1 b_Ratio_top
theorem p_Ratio_top (B : BB K mg) {ξ : Xx} (cdv : Value) (A : Around) (outer : List Env) (s : Shared) (H : Hp) (Ex : XK) (hr : Room 0 (A.deeper (envOfC d_Ratio_top.qual d_Ratio_top.scope s.heap.objs.size (d_Ratio_top.at_ (GG K).K) cdv))) :
    PSs (cxOf (L2.CX P w) P w (GG K).K mg base ["self"] d_Ratio_top.qual d_Ratio_top.scope (d_Ratio_top.at_ (GG K).K) cdv A outer s H Ex) d_Ratio_top.body (dS (GG K) ξ b_Ratio_top (fun c d' _ H => Ex c d' H)) := by
  have hh : Here (GG K) P w mg base 0 (cxOf (L2.CX P w) P w (GG K).K mg base ["self"] d_Ratio_top.qual d_Ratio_top.scope (d_Ratio_top.at_ (GG K).K) cdv A outer s H Ex) (fun c d' _ H => Ex c d' H) := here_of hr
  exact (dss_one (ds_ret (de_slot hh.K (sl0 B) (st0_up B) (de_var 0))))
theorem c_Ratio_top (B : BB K mg) : CalR (GG K) P w mg base 1 (pa K (ga K "Ratio") "top") 1 D_Ratio_top := calR_of (Γ := GG K) (k := 0) (d := d_Ratio_top) (ξ := ⟨0, .none, none⟩) (body := b_Ratio_top) B 1 sc_Ratio_top (p_Ratio_top B) (fun _ _ _ _ _ _ us hl => match us, hl with | [_], _ => rfl)
theorem sc__law_told : FnScope ["_law_figure"] ["_law_figure"] (defScope s__law_told) := ⟨rfl, rfl, rfl, by decide +kernel, rfl, by decide +kernel, by decide +kernel⟩
noncomputable def b__law_told : SF := (sRet (eTup (aCons (eOp1 (gProp 0 D_Ratio_top) (eVar 0)) (aCons (eOp1 (gProp 0 D_Ratio_bottom) (eVar 0)) aNil))))
noncomputable def D__law_told : List D → Store → Res := fnD 1 b__law_told
theorem p__law_told (B : BB K mg) {ξ : Xx} (cdv : Value) (A : Around) (outer : List Env) (s : Shared) (H : Hp) (Ex : XK) (hr : Room 2 (A.deeper (envOfC d__law_told.qual d__law_told.scope s.heap.objs.size (d__law_told.at_ (GG K).K) cdv))) :
    PSs (cxOf (L2.CX P w) P w (GG K).K mg base ["_law_figure"] d__law_told.qual d__law_told.scope (d__law_told.at_ (GG K).K) cdv A outer s H Ex) d__law_told.body (dS (GG K) ξ b__law_told (fun c d' _ H => Ex c d' H)) := by
  have hh : Here (GG K) P w mg base 2 (cxOf (L2.CX P w) P w (GG K).K mg base ["_law_figure"] d__law_told.qual d__law_told.scope (d__law_told.at_ (GG K).K) cdv A outer s H Ex) (fun c d' _ H => Ex c d' H) := here_of hr
  exact (dss_one (ds_ret (de_tup (da_cons (de_prop hh (sl0 B) (prB_ok (Γ := GG K) (k5 B)) (c_Ratio_top B) (de_var 0)) (da_cons (de_prop hh (sl0 B) (prB_ok (Γ := GG K) (k3 B)) (c_Ratio_bottom B) (de_var 0)) da_nil)))))
theorem c__law_told (B : BB K mg) : Cal (GG K) P w mg base 3 "_law_told" 1 D__law_told := cal_of (Γ := GG K) (k := 2) (d := d__law_told) (ξ := ⟨0, .none, none⟩) (body := b__law_told) B 2 sc__law_told (k6 B) (p__law_told B) (fun _ _ _ _ _ _ us hl => match us, hl with | [_], _ => rfl)
theorem sc__law_same : FnScope ["_law_built", "_law_x"] ["_law_built", "_law_x"] (defScope s__law_same) := ⟨rfl, rfl, rfl, by decide +kernel, rfl, by decide +kernel, by decide +kernel⟩
noncomputable def b__law_same : SF := (sRet (eAnd (eOp2 (gIsi [0]) (eVar 0) (eC (.cls 0))) (eOp2 gEq (eCall 1 D__law_told (aCons (eVar 0) aNil)) (eVar 1))))
noncomputable def D__law_same : List D → Store → Res := fnD 2 b__law_same
theorem p__law_same (B : BB K mg) {ξ : Xx} (cdv : Value) (A : Around) (outer : List Env) (s : Shared) (H : Hp) (Ex : XK) (hr : Room 3 (A.deeper (envOfC d__law_same.qual d__law_same.scope s.heap.objs.size (d__law_same.at_ (GG K).K) cdv))) :
    PSs (cxOf (L2.CX P w) P w (GG K).K mg base ["_law_built", "_law_x"] d__law_same.qual d__law_same.scope (d__law_same.at_ (GG K).K) cdv A outer s H Ex) d__law_same.body (dS (GG K) ξ b__law_same (fun c d' _ H => Ex c d' H)) := by
  have hh : Here (GG K) P w mg base 3 (cxOf (L2.CX P w) P w (GG K).K mg base ["_law_built", "_law_x"] d__law_same.qual d__law_same.scope (d__law_same.at_ (GG K).K) cdv A outer s H Ex) (fun c d' _ H => Ex c d' H) := here_of hr
  exact (dss_one (ds_ret (de_and (de_b2 (cr_isi hh.K (isf B)) (B.free (k7 B)) (by decide +kernel) (de_var 0) (de_glob hh.mg (B.cls (k8 B) rfl))) (de_one (de_cmp (op_gEq hh.K hh.u64) (de_call hh (c__law_told B) (da_cons (de_var 0) da_nil)) (de_var 1))))))
theorem c__law_same (B : BB K mg) : Cal (GG K) P w mg base 4 "_law_same" 2 D__law_same := cal_of (Γ := GG K) (k := 3) (d := d__law_same) (ξ := ⟨0, .none, none⟩) (body := b__law_same) B 3 sc__law_same (k10 B) (p__law_same B) (fun _ _ _ _ _ _ us hl => match us, hl with | [_, _], _ => rfl)
theorem sc_is_integer : FnScope ["value"] ["value"] (defScope s_is_integer) := ⟨rfl, rfl, rfl, by decide +kernel, rfl, by decide +kernel, by decide +kernel⟩
noncomputable def b_is_integer : SF := (sRet (eAnd (eOp2 (gIsi [0]) (eVar 0) (eC (.ty "int"))) (eNot (eOp2 (gIsi [0]) (eVar 0) (eC (.ty "bool"))))))
noncomputable def D_is_integer : List D → Store → Res := fnD 1 b_is_integer
theorem p_is_integer (B : BB K mg) {ξ : Xx} (cdv : Value) (A : Around) (outer : List Env) (s : Shared) (H : Hp) (Ex : XK) (hr : Room 0 (A.deeper (envOfC d_is_integer.qual d_is_integer.scope s.heap.objs.size (d_is_integer.at_ (GG K).K) cdv))) :
    PSs (cxOf (L2.CX P w) P w (GG K).K mg base ["value"] d_is_integer.qual d_is_integer.scope (d_is_integer.at_ (GG K).K) cdv A outer s H Ex) d_is_integer.body (dS (GG K) ξ b_is_integer (fun c d' _ H => Ex c d' H)) := by
  have hh : Here (GG K) P w mg base 0 (cxOf (L2.CX P w) P w (GG K).K mg base ["value"] d_is_integer.qual d_is_integer.scope (d_is_integer.at_ (GG K).K) cdv A outer s H Ex) (fun c d' _ H => Ex c d' H) := here_of hr
  exact (dss_one (ds_ret (de_and (de_b2 (cr_isi hh.K (isf B)) (B.free (k7 B)) (by decide +kernel) (de_var 0) (de_ty (B.free (k12 B)) (by decide +kernel))) (de_one (de_not (de_b2 (cr_isi hh.K (isf B)) (B.free (k7 B)) (by decide +kernel) (de_var 0) (de_ty (B.free (k11 B)) (by decide +kernel))))))))
theorem c_is_integer (B : BB K mg) : Cal (GG K) P w mg base 1 "is_integer" 1 D_is_integer := cal_of (Γ := GG K) (k := 0) (d := d_is_integer) (ξ := ⟨0, .none, none⟩) (body := b_is_integer) B 4 sc_is_integer (k13 B) (p_is_integer B) (fun _ _ _ _ _ _ us hl => match us, hl with | [_], _ => rfl)
theorem sc_InvalidNumberd__initd_ : FnScope ["self", "value"] ["self", "value"] (defScope s_InvalidNumberd__initd_) := ⟨rfl, rfl, rfl, by decide +kernel, rfl, by decide +kernel, by decide +kernel⟩
theorem c_InvalidNumberd__initd_ (B : BB K mg) : ExF (GG K) P w mg base 1 "InvalidNumber" 2 "value" := exf_of (d := d_InvalidNumberd__initd_) (t := "a value is not a number that is asked for here") B 5 sc_InvalidNumberd__initd_ (k16 B) (k17 B) (k18 B) (fun _ _ _ _ _ _ => pss_cons (ps_expr (pe_binit (bsB_ok (B.glo (k14 B)) (k15 B)) (pa_cons (pv 0) (pa_cons pe_str pa_nil)))) (pss_one (ps_ost (pv 0) (pv 1)))) (fun _ _ _ _ _ _ us hl => match us, hl with | [_, _], _ => rfl)
theorem sc_ByZerod__initd_ : FnScope ["self"] ["self"] (defScope s_ByZerod__initd_) := ⟨rfl, rfl, rfl, by decide +kernel, rfl, by decide +kernel, by decide +kernel⟩
theorem c_ByZerod__initd_ (B : BB K mg) : ExF0 (GG K) P w mg base 1 "ByZero" 3 := exf0_of (d := d_ByZerod__initd_) (t := "a number is divided by 0") B 6 sc_ByZerod__initd_ (k19 B) (k20 B) (fun _ _ _ _ _ _ => pss_one (ps_expr (pe_binit (bsB_ok (B.glo (k14 B)) (k15 B)) (pa_cons (pv 0) (pa_cons pe_str pa_nil))))) (fun _ _ _ _ _ _ us hl => match us, hl with | [_], _ => rfl)
theorem sc_common_divisor : FnScope ["one", "other"] ["one", "other"] (defScope s_common_divisor) := ⟨rfl, rfl, rfl, by decide +kernel, rfl, by decide +kernel, by decide +kernel⟩
noncomputable def b_common_divisor : SF := (sSeq (sWhile (eOp2 gNe (eVar 1) (eC (.int 0))) (sPar 0 1 (aCons (eVar 1) (aCons (eOp2 iModN (eVar 0) (eVar 1)) aNil))))
    (sRet (eOp1 gAbs (eVar 0))))
noncomputable def D_common_divisor : List D → Store → Res := fnD 2 b_common_divisor
theorem p_common_divisor (B : BB K mg) {ξ : Xx} (cdv : Value) (A : Around) (outer : List Env) (s : Shared) (H : Hp) (Ex : XK) (hr : Room 0 (A.deeper (envOfC d_common_divisor.qual d_common_divisor.scope s.heap.objs.size (d_common_divisor.at_ (GG K).K) cdv))) :
    PSs (cxOf (L2.CX P w) P w (GG K).K mg base ["one", "other"] d_common_divisor.qual d_common_divisor.scope (d_common_divisor.at_ (GG K).K) cdv A outer s H Ex) d_common_divisor.body (dS (GG K) ξ b_common_divisor (fun c d' _ H => Ex c d' H)) := by
  have hh : Here (GG K) P w mg base 0 (cxOf (L2.CX P w) P w (GG K).K mg base ["one", "other"] d_common_divisor.qual d_common_divisor.scope (d_common_divisor.at_ (GG K).K) cdv A outer s H Ex) (fun c d' _ H => Ex c d' H) := here_of hr
  exact (dss_cons (ds_while (passes_of rfl) (dt_cmp (op_gNe hh.K hh.u64) (de_var 1) de_int) (dss_one (ds_par rfl sc_common_divisor.nd (da_cons (de_var 1) (da_cons (de_op op_iModN (de_var 0) (de_var 1)) da_nil)))))
    (dss_one (ds_ret (de_b1 (cr_abs) (B.free (k21 B)) (by decide +kernel) (dv_of (de_var 0))))))
theorem c_common_divisor (B : BB K mg) : Cal (GG K) P w mg base 1 "common_divisor" 2 D_common_divisor := cal_of (Γ := GG K) (k := 0) (d := d_common_divisor) (ξ := ⟨0, .none, none⟩) (body := b_common_divisor) B 7 sc_common_divisor (k22 B) (p_common_divisor B) (fun _ _ _ _ _ _ us hl => match us, hl with | [_, _], _ => rfl)
theorem sc_Ratiod__initd_ : FnScope ["self", "top", "bottom", "piece"] ["self", "top", "bottom"] (defScope s_Ratiod__initd_) := ⟨rfl, rfl, rfl, by decide +kernel, rfl, by decide +kernel, by decide +kernel⟩
noncomputable def b_Ratiod__initd_ : SF := (sSeq (sIf (eNot (eCall 1 D_is_integer (aCons (eVar 1) aNil))) (sRaise 2 "value" (eVar 1)) sNil)
    (sSeq (sIf (eNot (eCall 1 D_is_integer (aCons (eVar 2) aNil))) (sRaise 2 "value" (eVar 2)) sNil)
    (sSeq (sIf (eOp2 gEq (eVar 2) (eC (.int 0))) (sRaise0 3) sNil)
    (sSeq (sAsg (tgN 3) (eIf (eOp2 iGt (eVar 2) (eC (.int 0))) (eCall 2 D_common_divisor (aCons (eVar 1) (aCons (eVar 2) aNil))) (eOp1 iNeg (eCall 2 D_common_divisor (aCons (eVar 1) (aCons (eVar 2) aNil))))))
    sPass))))
noncomputable def I_Ratiod__initd_ : List D → Store → ResA := initD true 4 b_Ratiod__initd_ (eOp2 iDivN (eVar 1) (eVar 3)) (eOp2 iDivN (eVar 2) (eVar 3))
theorem i_Ratiod__initd_ (B : BB K mg) {fd : FuncData} (F : FunD (GG K).K d_Ratiod__initd_.name d_Ratiod__initd_.qual d_Ratiod__initd_.params d_Ratiod__initd_.body d_Ratiod__initd_.scope (d_Ratiod__initd_.dvs (GG K).K) [] (d_Ratiod__initd_.at_ (GG K).K) fd) : FnOk P w (GG K).K mg base (L2.CX P w) 3 (d_Ratiod__initd_.at_ (GG K).K) fd ["self", "top", "bottom"] (spI (GG K) 0 2 I_Ratiod__initd_) := init_of (sw := true) (Γ := GG K) (k := 2) (d := d_Ratiod__initd_) (body := b_Ratiod__initd_) F sc_Ratiod__initd_ rfl rfl (sl0 B) (st0_up B) (st0_down B) fun ξ cdv A outer s H Ex hr => by
  have hh : Here (GG K) P w mg base 2 (cxOf (L2.CX P w) P w (GG K).K mg base ["self", "top", "bottom", "piece"] d_Ratiod__initd_.qual d_Ratiod__initd_.scope (d_Ratiod__initd_.at_ (GG K).K) cdv A outer s H Ex) (fun c d' _ H => Ex c d' H) := here_of hr
  exact (di_cons (ds_if (dt_not (dt_val (de_call hh (c_is_integer B) (da_cons (de_var 1) da_nil)))) (dss_one (ds_raise hh (c_InvalidNumberd__initd_ B) rfl (de_var 1))) dss_nil)
    (di_cons (ds_if (dt_not (dt_val (de_call hh (c_is_integer B) (da_cons (de_var 2) da_nil)))) (dss_one (ds_raise hh (c_InvalidNumberd__initd_ B) rfl (de_var 2))) dss_nil)
    (di_cons (ds_if (dt_cmp (op_gEq hh.K hh.u64) (de_var 2) de_int) (dss_one (ds_raise0 hh (c_ByZerod__initd_ B) rfl)) dss_nil)
    (di_cons (ds_set sc_Ratiod__initd_.nd (de_if (dt_cmp op_iGt (de_var 2) de_int) (de_call hh (c_common_divisor B) (da_cons (de_var 1) (da_cons (de_var 2) da_nil))) (de_un un_iNeg (de_call hh (c_common_divisor B) (da_cons (de_var 1) (da_cons (de_var 2) da_nil))))))
    (di_tail (pss_cons (SlX.ps_sl (pv 0) (de_op op_iDivN (de_var 1) (de_var 3))) (pss_one (SlX.ps_sl (pv 0) (de_op op_iDivN (de_var 2) (de_var 3))))))))))
theorem mkk_Ratiod__initd__bottom_top (B : BB K mg) : MakK (GG K) P w mg base 3 "Ratio" 0 2 ["bottom", "top"] (fun zs => zs.reverse) I_Ratiod__initd_ := makK_of (ps := ["self", "top", "bottom"]) (d := d_Ratiod__initd_) B 8 (k8 B) (k23 B) (fun fd F => i_Ratiod__initd_ B F) (fun fd F => ⟨fun vs zs => vs ++ zs.reverse, fun vs zs => vs ++ zs.reverse, kbind_dfl F (by intro h; cases h) (fun r1 r2 => r1.append (valsRev r2)) (fun _ _ _ _ _ _ _ us its ws hu hw hi => match us, ws, its, hu, hw, hi with | [_], [_, _], [_], _, _, _ => ⟨_, rfl, rfl⟩), fun x zs hz => rfl⟩)
theorem mk_Ratiod__initd__1 (B : BB K mg) : Mak (GG K) P w mg base 3 "Ratio" 0 2 [.int 1] I_Ratiod__initd_ := mak_of (ps := ["self", "top", "bottom"]) (d := d_Ratiod__initd_) B 8 (k8 B) (k23 B) (fun fd F => i_Ratiod__initd_ B F) (fun fd F => binds_dfl F 2 0 (by intro h; cases h) rfl (fun W => by show Reps (GG K) W [.int 1] _; exact Reps.cons (by simp only [Rep]; rfl) (Reps.nil)) (fun _ _ _ _ _ _ _ us its hu hi => match us, its, hu, hi with | [_, _], [_], _, _ => ⟨_, rfl, rfl⟩))
theorem mk_Ratiod__initd__2 (B : BB K mg) : Mak (GG K) P w mg base 3 "Ratio" 0 2 [] I_Ratiod__initd_ := mak_of (ps := ["self", "top", "bottom"]) (d := d_Ratiod__initd_) B 8 (k8 B) (k23 B) (fun fd F => i_Ratiod__initd_ B F) (fun fd F => binds_dfl F 3 1 (by intro h; cases h) rfl (fun W => by show Reps (GG K) W [] _; exact Reps.nil) (fun _ _ _ _ _ _ _ us its hu hi => match us, its, hu, hi with | [_, _, _], [_], _, _ => ⟨_, rfl, rfl⟩))
theorem sc_parts : FnScope ["number"] ["number"] (defScope s_parts) := ⟨rfl, rfl, rfl, by decide +kernel, rfl, by decide +kernel, by decide +kernel⟩
noncomputable def b_parts : SF := (sSeq (sIf (eOp2 (gIsi [0]) (eVar 0) (eC (.cls 0))) (sRet (eTup (aCons (eOp1 (gProp 0 D_Ratio_top) (eVar 0)) (aCons (eOp1 (gProp 0 D_Ratio_bottom) (eVar 0)) aNil)))) sNil)
    (sRet (eTup (aCons (eVar 0) (aCons (eC (.int 1)) aNil)))))
noncomputable def D_parts : List D → Store → Res := fnD 1 b_parts
theorem p_parts (B : BB K mg) {ξ : Xx} (cdv : Value) (A : Around) (outer : List Env) (s : Shared) (H : Hp) (Ex : XK) (hr : Room 2 (A.deeper (envOfC d_parts.qual d_parts.scope s.heap.objs.size (d_parts.at_ (GG K).K) cdv))) :
    PSs (cxOf (L2.CX P w) P w (GG K).K mg base ["number"] d_parts.qual d_parts.scope (d_parts.at_ (GG K).K) cdv A outer s H Ex) d_parts.body (dS (GG K) ξ b_parts (fun c d' _ H => Ex c d' H)) := by
  have hh : Here (GG K) P w mg base 2 (cxOf (L2.CX P w) P w (GG K).K mg base ["number"] d_parts.qual d_parts.scope (d_parts.at_ (GG K).K) cdv A outer s H Ex) (fun c d' _ H => Ex c d' H) := here_of hr
  exact (dss_cons (ds_if (dt_val (de_b2 (cr_isi hh.K (isf B)) (B.free (k7 B)) (by decide +kernel) (de_var 0) (de_glob hh.mg (B.cls (k8 B) rfl)))) (dss_one (ds_ret (de_tup (da_cons (de_prop hh (sl0 B) (prB_ok (Γ := GG K) (k5 B)) (c_Ratio_top B) (de_var 0)) (da_cons (de_prop hh (sl0 B) (prB_ok (Γ := GG K) (k3 B)) (c_Ratio_bottom B) (de_var 0)) da_nil))))) dss_nil)
    (dss_one (ds_ret (de_tup (da_cons (de_var 0) (da_cons de_int da_nil))))))
theorem c_parts (B : BB K mg) : Cal (GG K) P w mg base 3 "parts" 1 D_parts := cal_of (Γ := GG K) (k := 2) (d := d_parts) (ξ := ⟨0, .none, none⟩) (body := b_parts) B 9 sc_parts (k28 B) (p_parts B) (fun _ _ _ _ _ _ us hl => match us, hl with | [_], _ => rfl)
theorem sc_Ratio_over : FnScope ["self", "number", "top", "bottom"] ["self", "number"] (defScope s_Ratio_over) := ⟨rfl, rfl, rfl, by decide +kernel, rfl, by decide +kernel, by decide +kernel⟩
noncomputable def b_Ratio_over : SF := (sSeq (sAsg (tgT 2 (tsCons (tgN 2) (tsCons (tgN 3) tsNil))) (eCall 1 D_parts (aCons (eVar 1) aNil)))
    (sRet (eNew 0 2 [] I_Ratiod__initd_ (aCons (eOp2 iMul (eOp1 (gSlot 0 1) (eVar 0)) (eVar 3)) (aCons (eOp2 iMul (eOp1 (gSlot 0 0) (eVar 0)) (eVar 2)) aNil)))))
noncomputable def D_Ratio_over : List D → Store → Res := fnD 4 b_Ratio_over
theorem p_Ratio_over (B : BB K mg) {ξ : Xx} (cdv : Value) (A : Around) (outer : List Env) (s : Shared) (H : Hp) (Ex : XK) (hr : Room 4 (A.deeper (envOfC d_Ratio_over.qual d_Ratio_over.scope s.heap.objs.size (d_Ratio_over.at_ (GG K).K) cdv))) :
    PSs (cxOf (L2.CX P w) P w (GG K).K mg base ["self", "number", "top", "bottom"] d_Ratio_over.qual d_Ratio_over.scope (d_Ratio_over.at_ (GG K).K) cdv A outer s H Ex) d_Ratio_over.body (dS (GG K) ξ b_Ratio_over (fun c d' _ H => Ex c d' H)) := by
  have hh : Here (GG K) P w mg base 4 (cxOf (L2.CX P w) P w (GG K).K mg base ["self", "number", "top", "bottom"] d_Ratio_over.qual d_Ratio_over.scope (d_Ratio_over.at_ (GG K).K) cdv A outer s H Ex) (fun c d' _ H => Ex c d' H) := here_of hr
  exact (dss_cons (ds_asg (de_call hh (c_parts B) (da_cons (de_var 1) da_nil)) (dg_tup hh.K rfl (dgs_cons (dg_name sc_Ratio_over.nd) (dgs_cons (dg_name sc_Ratio_over.nd) dgs_nil))))
    (dss_one (ds_ret (de_new hh (mk_Ratiod__initd__2 B) (da_cons (de_op op_iMul (de_slot hh.K (sl0 B) (st0_up B) (de_var 0)) (de_var 3)) (da_cons (de_op op_iMul (de_slot hh.K (sl0 B) (st0_down B) (de_var 0)) (de_var 2)) da_nil))))))
theorem c_Ratio_over (B : BB K mg) : CalR (GG K) P w mg base 5 (ma K (ga K "Ratio") "over") 2 D_Ratio_over := calR_of (Γ := GG K) (k := 4) (d := d_Ratio_over) (ξ := ⟨0, .none, none⟩) (body := b_Ratio_over) B 10 sc_Ratio_over (p_Ratio_over B) (fun _ _ _ _ _ _ us hl => match us, hl with | [_, _], _ => rfl)
theorem sc_is_number : FnScope ["value"] ["value"] (defScope s_is_number) := ⟨rfl, rfl, rfl, by decide +kernel, rfl, by decide +kernel, by decide +kernel⟩
noncomputable def b_is_number : SF := (sRet (eOr (eOp2 (gIsi [0]) (eVar 0) (eC (.cls 0))) (eCall 1 D_is_integer (aCons (eVar 0) aNil))))
noncomputable def D_is_number : List D → Store → Res := fnD 1 b_is_number
theorem p_is_number (B : BB K mg) {ξ : Xx} (cdv : Value) (A : Around) (outer : List Env) (s : Shared) (H : Hp) (Ex : XK) (hr : Room 1 (A.deeper (envOfC d_is_number.qual d_is_number.scope s.heap.objs.size (d_is_number.at_ (GG K).K) cdv))) :
    PSs (cxOf (L2.CX P w) P w (GG K).K mg base ["value"] d_is_number.qual d_is_number.scope (d_is_number.at_ (GG K).K) cdv A outer s H Ex) d_is_number.body (dS (GG K) ξ b_is_number (fun c d' _ H => Ex c d' H)) := by
  have hh : Here (GG K) P w mg base 1 (cxOf (L2.CX P w) P w (GG K).K mg base ["value"] d_is_number.qual d_is_number.scope (d_is_number.at_ (GG K).K) cdv A outer s H Ex) (fun c d' _ H => Ex c d' H) := here_of hr
  exact (dss_one (ds_ret (de_or (de_b2 (cr_isi hh.K (isf B)) (B.free (k7 B)) (by decide +kernel) (de_var 0) (de_glob hh.mg (B.cls (k8 B) rfl))) (de_one (de_call hh (c_is_integer B) (da_cons (de_var 0) da_nil))))))
theorem c_is_number (B : BB K mg) : Cal (GG K) P w mg base 2 "is_number" 1 D_is_number := cal_of (Γ := GG K) (k := 1) (d := d_is_number) (ξ := ⟨0, .none, none⟩) (body := b_is_number) B 11 sc_is_number (k30 B) (p_is_number B) (fun _ _ _ _ _ _ us hl => match us, hl with | [_], _ => rfl)
theorem sc_as_ratio : FnScope ["number"] ["number"] (defScope s_as_ratio) := ⟨rfl, rfl, rfl, by decide +kernel, rfl, by decide +kernel, by decide +kernel⟩
noncomputable def b_as_ratio : SF := (sSeq (sIf (eNot (eCall 1 D_is_number (aCons (eVar 0) aNil))) (sRaise 2 "value" (eVar 0)) sNil)
    (sRet (eNew 0 2 [] I_Ratiod__initd_ (aCons (eOp2 gIx (eCall 1 D_parts (aCons (eVar 0) aNil)) (eC (.int 0))) (aCons (eOp2 gIx (eCall 1 D_parts (aCons (eVar 0) aNil)) (eC (.int 1))) aNil)))))
noncomputable def D_as_ratio : List D → Store → Res := fnD 1 b_as_ratio
theorem p_as_ratio (B : BB K mg) {ξ : Xx} (cdv : Value) (A : Around) (outer : List Env) (s : Shared) (H : Hp) (Ex : XK) (hr : Room 4 (A.deeper (envOfC d_as_ratio.qual d_as_ratio.scope s.heap.objs.size (d_as_ratio.at_ (GG K).K) cdv))) :
    PSs (cxOf (L2.CX P w) P w (GG K).K mg base ["number"] d_as_ratio.qual d_as_ratio.scope (d_as_ratio.at_ (GG K).K) cdv A outer s H Ex) d_as_ratio.body (dS (GG K) ξ b_as_ratio (fun c d' _ H => Ex c d' H)) := by
  have hh : Here (GG K) P w mg base 4 (cxOf (L2.CX P w) P w (GG K).K mg base ["number"] d_as_ratio.qual d_as_ratio.scope (d_as_ratio.at_ (GG K).K) cdv A outer s H Ex) (fun c d' _ H => Ex c d' H) := here_of hr
  exact (dss_cons (ds_if (dt_not (dt_val (de_call hh (c_is_number B) (da_cons (de_var 0) da_nil)))) (dss_one (ds_raise hh (c_InvalidNumberd__initd_ B) rfl (de_var 0))) dss_nil)
    (dss_one (ds_ret (de_new hh (mk_Ratiod__initd__2 B) (da_cons (de_ix hh.K (dv_of (de_call hh (c_parts B) (da_cons (de_var 0) da_nil))) de_int) (da_cons (de_ix hh.K (dv_of (de_call hh (c_parts B) (da_cons (de_var 0) da_nil))) de_int) da_nil))))))
theorem c_as_ratio (B : BB K mg) : Cal (GG K) P w mg base 5 "as_ratio" 1 D_as_ratio := cal_of (Γ := GG K) (k := 4) (d := d_as_ratio) (ξ := ⟨0, .none, none⟩) (body := b_as_ratio) B 12 sc_as_ratio (k31 B) (p_as_ratio B) (fun _ _ _ _ _ _ us hl => match us, hl with | [_], _ => rfl)
theorem sc__law_caught : FnScope ["_law_way", "_law_one", "_law_other", "e"] ["_law_way", "_law_one", "_law_other"] (defScope s__law_caught) := ⟨rfl, rfl, rfl, by decide +kernel, rfl, by decide +kernel, by decide +kernel⟩
noncomputable def b__law_caught : SF := (sSeq (sTry [(1, 3, false), (1, 2, false), (2, 3, false), (2, 2, true), (3, 3, true), (3, 2, false)] (sIf (eOp2 gEq (eVar 0) (eC (.int 0))) (sExpr (eNew 0 2 [] I_Ratiod__initd_ (aCons (eVar 1) (aCons (eVar 2) aNil)))) (sIf (eOp2 gEq (eVar 0) (eC (.int 1))) (sExpr (eMeth 0 2 D_Ratio_over (eNew 0 2 [] I_Ratiod__initd_ (aCons (eC (.int 1)) (aCons (eC (.int 3)) aNil))) (aCons (eVar 2) aNil))) (sExpr (eCall 1 D_as_ratio (aCons (eVar 1) aNil))))) [(3, none, (sRet (eLst (aCons (eC (.str "zero")) aNil)))), (2, some 3, (sRet (eLst (aCons (eC (.str "number")) (aCons (eXf [2] 3 "value") aNil)))))])
    (sRet (eLst aNil)))
noncomputable def D__law_caught : List D → Store → Res := fnD 4 b__law_caught
theorem p__law_caught (B : BB K mg) {ξ : Xx} (cdv : Value) (A : Around) (outer : List Env) (s : Shared) (H : Hp) (Ex : XK) (hr : Room 5 (A.deeper (envOfC d__law_caught.qual d__law_caught.scope s.heap.objs.size (d__law_caught.at_ (GG K).K) cdv))) :
    PSs (cxOf (L2.CX P w) P w (GG K).K mg base ["_law_way", "_law_one", "_law_other", "e"] d__law_caught.qual d__law_caught.scope (d__law_caught.at_ (GG K).K) cdv A outer s H Ex) d__law_caught.body (dS (GG K) ξ b__law_caught (fun c d' _ H => Ex c d' H)) := by
  have hh : Here (GG K) P w mg base 5 (cxOf (L2.CX P w) P w (GG K).K mg base ["_law_way", "_law_one", "_law_other", "e"] d__law_caught.qual d__law_caught.scope (d__law_caught.at_ (GG K).K) cdv A outer s H Ex) (fun c d' _ H => Ex c d' H) := here_of hr
  exact (dss_cons (ds_try rfl rfl sc__law_caught.nd hh.tk hh.K (mtsB_ok (Γ := GG K) (k33 B)) (fun W pn xe tk po => (dss_one (ds_if (dt_cmp (op_gEq (hh.tr tk).K (hh.tr tk).u64) (de_var 0) de_int) (dss_one (ds_expr (de_new (hh.tr tk) (mk_Ratiod__initd__2 B) (da_cons (de_var 1) (da_cons (de_var 2) da_nil))))) (dss_one (ds_if (dt_cmp (op_gEq (hh.tr tk).K (hh.tr tk).u64) (de_var 0) de_int) (dss_one (ds_expr (de_meth (hh.tr tk) (sl0 B) (mtB_ok (k29 B)) (c_Ratio_over B) (de_new (hh.tr tk) (mk_Ratiod__initd__2 B) (da_cons de_int (da_cons de_int da_nil))) (da_cons (de_var 2) da_nil)))) (dss_one (ds_expr (de_call (hh.tr tk) (c_as_ratio B) (da_cons (de_var 1) da_nil))))))))) (HdsA.plain ⟨rfl, by decide, .inl (B.glo (k19 B))⟩ (fun _ _ _ _ _ hz hf => (dss_one (ds_ret (de_lst (da_cons de_str da_nil))))) (HdsA.named (i := 3) ⟨rfl, by decide, .inl (B.glo (k16 B))⟩ rfl rfl (fun _ _ _ _ _ hz hf => (dss_one (ds_ret (de_lst (da_cons de_str (da_cons (de_xf hh.K (xffB_ok (k32 B)) hz hf (pv 3)) da_nil)))))) HdsA.nil)))
    (dss_one (ds_ret (de_lst da_nil))))
theorem c__law_caught (B : BB K mg) : Cal (GG K) P w mg base 6 "_law_caught" 3 D__law_caught := cal_of (Γ := GG K) (k := 5) (d := d__law_caught) (ξ := ⟨0, .none, none⟩) (body := b__law_caught) B 13 sc__law_caught (k34 B) (p__law_caught B) (fun _ _ _ _ _ _ us hl => match us, hl with | [_, _, _], _ => rfl)
theorem sc_Ratiod__addd_ : FnScope ["self", "other", "top", "bottom"] ["self", "other"] (defScope s_Ratiod__addd_) := ⟨rfl, rfl, rfl, by decide +kernel, rfl, by decide +kernel, by decide +kernel⟩
noncomputable def b_Ratiod__addd_ : SF := (sSeq (sAsg (tgT 2 (tsCons (tgN 2) (tsCons (tgN 3) tsNil))) (eCall 1 D_parts (aCons (eVar 1) aNil)))
    (sRet (eNew 0 2 [] I_Ratiod__initd_ (aCons (eOp2 iAdd (eOp2 iMul (eOp1 (gSlot 0 1) (eVar 0)) (eVar 3)) (eOp2 iMul (eVar 2) (eOp1 (gSlot 0 0) (eVar 0)))) (aCons (eOp2 iMul (eOp1 (gSlot 0 0) (eVar 0)) (eVar 3)) aNil)))))
noncomputable def D_Ratiod__addd_ : List D → Store → Res := fnD 4 b_Ratiod__addd_
theorem p_Ratiod__addd_ (B : BB K mg) {ξ : Xx} (cdv : Value) (A : Around) (outer : List Env) (s : Shared) (H : Hp) (Ex : XK) (hr : Room 4 (A.deeper (envOfC d_Ratiod__addd_.qual d_Ratiod__addd_.scope s.heap.objs.size (d_Ratiod__addd_.at_ (GG K).K) cdv))) :
    PSs (cxOf (L2.CX P w) P w (GG K).K mg base ["self", "other", "top", "bottom"] d_Ratiod__addd_.qual d_Ratiod__addd_.scope (d_Ratiod__addd_.at_ (GG K).K) cdv A outer s H Ex) d_Ratiod__addd_.body (dS (GG K) ξ b_Ratiod__addd_ (fun c d' _ H => Ex c d' H)) := by
  have hh : Here (GG K) P w mg base 4 (cxOf (L2.CX P w) P w (GG K).K mg base ["self", "other", "top", "bottom"] d_Ratiod__addd_.qual d_Ratiod__addd_.scope (d_Ratiod__addd_.at_ (GG K).K) cdv A outer s H Ex) (fun c d' _ H => Ex c d' H) := here_of hr
  exact (dss_cons (ds_asg (de_call hh (c_parts B) (da_cons (de_var 1) da_nil)) (dg_tup hh.K rfl (dgs_cons (dg_name sc_Ratiod__addd_.nd) (dgs_cons (dg_name sc_Ratiod__addd_.nd) dgs_nil))))
    (dss_one (ds_ret (de_new hh (mk_Ratiod__initd__2 B) (da_cons (de_op op_iAdd (de_op op_iMul (de_slot hh.K (sl0 B) (st0_up B) (de_var 0)) (de_var 3)) (de_op op_iMul (de_var 2) (de_slot hh.K (sl0 B) (st0_down B) (de_var 0)))) (da_cons (de_op op_iMul (de_slot hh.K (sl0 B) (st0_down B) (de_var 0)) (de_var 3)) da_nil))))))
theorem c_Ratiod__addd_ (B : BB K mg) : CalR (GG K) P w mg base 5 (ma K (ga K "Ratio") "__add__") 2 D_Ratiod__addd_ := calR_of (Γ := GG K) (k := 4) (d := d_Ratiod__addd_) (ξ := ⟨0, .none, none⟩) (body := b_Ratiod__addd_) B 14 sc_Ratiod__addd_ (p_Ratiod__addd_ B) (fun _ _ _ _ _ _ us hl => match us, hl with | [_, _], _ => rfl)
theorem sc_total : FnScope ["numbers", "found", "number"] ["numbers"] (defScope s_total) := ⟨rfl, rfl, rfl, by decide +kernel, rfl, by decide +kernel, by decide +kernel⟩
noncomputable def b_total : SF := (sSeq (sAsg (tgN 1) (eNew 0 2 [.int 1] I_Ratiod__initd_ (aCons (eC (.int 0)) aNil)))
    (sSeq (sFor (itSeq (eVar 0)) (tgN 2) (sAsg (tgN 1) (eOp2 (gOwn 0 D_Ratiod__addd_) (eVar 1) (eVar 2))))
    (sRet (eVar 1))))
noncomputable def D_total : List D → Store → Res := fnD 3 b_total
theorem p_total (B : BB K mg) {ξ : Xx} (cdv : Value) (A : Around) (outer : List Env) (s : Shared) (H : Hp) (Ex : XK) (hr : Room 5 (A.deeper (envOfC d_total.qual d_total.scope s.heap.objs.size (d_total.at_ (GG K).K) cdv))) :
    PSs (cxOf (L2.CX P w) P w (GG K).K mg base ["numbers", "found", "number"] d_total.qual d_total.scope (d_total.at_ (GG K).K) cdv A outer s H Ex) d_total.body (dS (GG K) ξ b_total (fun c d' _ H => Ex c d' H)) := by
  have hh : Here (GG K) P w mg base 5 (cxOf (L2.CX P w) P w (GG K).K mg base ["numbers", "found", "number"] d_total.qual d_total.scope (d_total.at_ (GG K).K) cdv A outer s H Ex) (fun c d' _ H => Ex c d' H) := here_of hr
  exact (dss_cons (ds_set sc_total.nd (de_new hh (mk_Ratiod__initd__1 B) (da_cons de_int da_nil)))
    (dss_cons (ds_for (passes_of rfl) rfl (di_seq hh.K (de_var 0)) (dg_name sc_total.nd) (dss_one (ds_set sc_total.nd (de_op (op_own hh (bnB_ok (k35 B)) (c_Ratiod__addd_ B)) (de_var 1) (de_var 2)))))
    (dss_one (ds_ret (de_var 1)))))
theorem c_total (B : BB K mg) : Cal (GG K) P w mg base 6 "total" 1 D_total := cal_of (Γ := GG K) (k := 5) (d := d_total) (ξ := ⟨0, .none, none⟩) (body := b_total) B 15 sc_total (k36 B) (p_total B) (fun _ _ _ _ _ _ us hl => match us, hl with | [_], _ => rfl)
theorem sc_Ratiod__eqd_ : FnScope ["self", "other"] ["self", "other"] (defScope s_Ratiod__eqd_) := ⟨rfl, rfl, rfl, by decide +kernel, rfl, by decide +kernel, by decide +kernel⟩
noncomputable def b_Ratiod__eqd_ : SF := (sSeq (sIf (eNot (eCall 1 D_is_number (aCons (eVar 1) aNil))) (sRet (eC (.bl false))) sNil)
    (sRet (eOp2 gEq (eTup (aCons (eOp1 (gSlot 0 1) (eVar 0)) (aCons (eOp1 (gSlot 0 0) (eVar 0)) aNil))) (eCall 1 D_parts (aCons (eVar 1) aNil)))))
noncomputable def D_Ratiod__eqd_ : List D → Store → Res := fnD 2 b_Ratiod__eqd_
theorem p_Ratiod__eqd_ (B : BB K mg) {ξ : Xx} (cdv : Value) (A : Around) (outer : List Env) (s : Shared) (H : Hp) (Ex : XK) (hr : Room 3 (A.deeper (envOfC d_Ratiod__eqd_.qual d_Ratiod__eqd_.scope s.heap.objs.size (d_Ratiod__eqd_.at_ (GG K).K) cdv))) :
    PSs (cxOf (L2.CX P w) P w (GG K).K mg base ["self", "other"] d_Ratiod__eqd_.qual d_Ratiod__eqd_.scope (d_Ratiod__eqd_.at_ (GG K).K) cdv A outer s H Ex) d_Ratiod__eqd_.body (dS (GG K) ξ b_Ratiod__eqd_ (fun c d' _ H => Ex c d' H)) := by
  have hh : Here (GG K) P w mg base 3 (cxOf (L2.CX P w) P w (GG K).K mg base ["self", "other"] d_Ratiod__eqd_.qual d_Ratiod__eqd_.scope (d_Ratiod__eqd_.at_ (GG K).K) cdv A outer s H Ex) (fun c d' _ H => Ex c d' H) := here_of hr
  exact (dss_cons (ds_if (dt_not (dt_val (de_call hh (c_is_number B) (da_cons (de_var 1) da_nil)))) (dss_one (ds_ret de_bl)) dss_nil)
    (dss_one (ds_ret (de_cmp (op_gEq hh.K hh.u64) (de_tup (da_cons (de_slot hh.K (sl0 B) (st0_up B) (de_var 0)) (da_cons (de_slot hh.K (sl0 B) (st0_down B) (de_var 0)) da_nil))) (de_call hh (c_parts B) (da_cons (de_var 1) da_nil))))))
theorem c_Ratiod__eqd_ (B : BB K mg) : CalR (GG K) P w mg base 4 (ma K (ga K "Ratio") "__eq__") 2 D_Ratiod__eqd_ := calR_of (Γ := GG K) (k := 3) (d := d_Ratiod__eqd_) (ξ := ⟨0, .none, none⟩) (body := b_Ratiod__eqd_) B 16 sc_Ratiod__eqd_ (p_Ratiod__eqd_ B) (fun _ _ _ _ _ _ us hl => match us, hl with | [_, _], _ => rfl)
theorem sc_is_amount : FnScope ["value"] ["value"] (defScope s_is_amount) := ⟨rfl, rfl, rfl, by decide +kernel, rfl, by decide +kernel, by decide +kernel⟩
noncomputable def b_is_amount : SF := (sRet (eAnd (eCall 1 D_is_number (aCons (eVar 0) aNil)) (eOp2 iGe (eOp2 gIx (eCall 1 D_parts (aCons (eVar 0) aNil)) (eC (.int 0))) (eC (.int 0)))))
noncomputable def D_is_amount : List D → Store → Res := fnD 1 b_is_amount
theorem p_is_amount (B : BB K mg) {ξ : Xx} (cdv : Value) (A : Around) (outer : List Env) (s : Shared) (H : Hp) (Ex : XK) (hr : Room 3 (A.deeper (envOfC d_is_amount.qual d_is_amount.scope s.heap.objs.size (d_is_amount.at_ (GG K).K) cdv))) :
    PSs (cxOf (L2.CX P w) P w (GG K).K mg base ["value"] d_is_amount.qual d_is_amount.scope (d_is_amount.at_ (GG K).K) cdv A outer s H Ex) d_is_amount.body (dS (GG K) ξ b_is_amount (fun c d' _ H => Ex c d' H)) := by
  have hh : Here (GG K) P w mg base 3 (cxOf (L2.CX P w) P w (GG K).K mg base ["value"] d_is_amount.qual d_is_amount.scope (d_is_amount.at_ (GG K).K) cdv A outer s H Ex) (fun c d' _ H => Ex c d' H) := here_of hr
  exact (dss_one (ds_ret (de_and (de_call hh (c_is_number B) (da_cons (de_var 0) da_nil)) (de_one (de_cmp op_iGe (de_ix hh.K (dv_of (de_call hh (c_parts B) (da_cons (de_var 0) da_nil))) de_int) de_int)))))
theorem c_is_amount (B : BB K mg) : Cal (GG K) P w mg base 4 "is_amount" 1 D_is_amount := cal_of (Γ := GG K) (k := 3) (d := d_is_amount) (ξ := ⟨0, .none, none⟩) (body := b_is_amount) B 17 sc_is_amount (k38 B) (p_is_amount B) (fun _ _ _ _ _ _ us hl => match us, hl with | [_], _ => rfl)
theorem sc__law_odd_right : FnScope ["_law_odd", "_law_x"] ["_law_odd", "_law_x"] (defScope s__law_odd_right) := ⟨rfl, rfl, rfl, by decide +kernel, rfl, by decide +kernel, by decide +kernel⟩
noncomputable def b__law_odd_right : SF := (sSeq (sIf (eOr (eOp2 (gIs true) (eCall 1 D_is_number (aCons (eVar 0) aNil)) (eC (.bl false))) (eOr (eOp2 (gIs true) (eCall 1 D_is_amount (aCons (eVar 0) aNil)) (eC (.bl false))) (eOp2 (gOwnEq [0] 0 D_Ratiod__eqd_) (eNew 0 2 [] I_Ratiod__initd_ (aCons (eOp2 gIx (eVar 1) (eC (.int 0))) (aCons (eOp2 gIx (eVar 1) (eC (.int 1))) aNil))) (eVar 0)))) (sRet (eC (.bl false))) sNil)
    (sSeq (sIf (eOr (eOp2 (gOr gNe gNeL) (eCall 3 D__law_caught (aCons (eC (.int 2)) (aCons (eVar 0) (aCons (eC .non) aNil)))) (eLst (aCons (eC (.str "number")) (aCons (eVar 0) aNil)))) (eOp2 (gOr gNe gNeL) (eCall 3 D__law_caught (aCons (eC (.int 0)) (aCons (eVar 0) (aCons (eC .non) aNil)))) (eLst (aCons (eC (.str "number")) (aCons (eVar 0) aNil))))) (sRet (eC (.bl false))) sNil)
    (sSeq (sIf (eOp2 (gOr gNe gNeL) (eCall 3 D__law_caught (aCons (eC (.int 0)) (aCons (eVar 0) (aCons (eC (.int 0)) aNil)))) (eLst (aCons (eC (.str "number")) (aCons (eVar 0) aNil)))) (sRet (eC (.bl false))) sNil)
    (sRet (eOp2 (gOr gEq gEqL) (eCall 3 D__law_caught (aCons (eC (.int 0)) (aCons (eC (.int 5)) (aCons (eVar 0) aNil)))) (eLst (aCons (eC (.str "number")) (aCons (eVar 0) aNil))))))))
noncomputable def D__law_odd_right : List D → Store → Res := fnD 2 b__law_odd_right
theorem p__law_odd_right (B : BB K mg) {ξ : Xx} (cdv : Value) (A : Around) (outer : List Env) (s : Shared) (H : Hp) (Ex : XK) (hr : Room 6 (A.deeper (envOfC d__law_odd_right.qual d__law_odd_right.scope s.heap.objs.size (d__law_odd_right.at_ (GG K).K) cdv))) :
    PSs (cxOf (L2.CX P w) P w (GG K).K mg base ["_law_odd", "_law_x"] d__law_odd_right.qual d__law_odd_right.scope (d__law_odd_right.at_ (GG K).K) cdv A outer s H Ex) d__law_odd_right.body (dS (GG K) ξ b__law_odd_right (fun c d' _ H => Ex c d' H)) := by
  have hh : Here (GG K) P w mg base 6 (cxOf (L2.CX P w) P w (GG K).K mg base ["_law_odd", "_law_x"] d__law_odd_right.qual d__law_odd_right.scope (d__law_odd_right.at_ (GG K).K) cdv A outer s H Ex) (fun c d' _ H => Ex c d' H) := here_of hr
  exact (dss_cons (ds_if (PW.pt (dw_or (dt_cmp op_gIsNot (de_call hh (c_is_number B) (da_cons (de_var 0) da_nil)) de_bl) (dw_or (dt_cmp op_gIsNot (de_call hh (c_is_amount B) (da_cons (de_var 0) da_nil)) de_bl) (dw_or1 (dt_cmp (op_ownEq hh (eqf0 B) (c_Ratiod__eqd_ B)) (de_new hh (mk_Ratiod__initd__2 B) (da_cons (de_ix hh.K (dv_of (de_var 1)) de_int) (da_cons (de_ix hh.K (dv_of (de_var 1)) de_int) da_nil))) (de_var 0)))))) (dss_one (ds_ret de_bl)) dss_nil)
    (dss_cons (ds_if (PW.pt (dw_or (dt_cmp (op_or (op_gNe hh.K hh.u64) (op_gNeL hh.K hh.u66)) (de_call hh (c__law_caught B) (da_cons de_int (da_cons (de_var 0) (da_cons de_non da_nil)))) (de_lst (da_cons de_str (da_cons (de_var 0) da_nil)))) (dw_or1 (dt_cmp (op_or (op_gNe hh.K hh.u64) (op_gNeL hh.K hh.u66)) (de_call hh (c__law_caught B) (da_cons de_int (da_cons (de_var 0) (da_cons de_non da_nil)))) (de_lst (da_cons de_str (da_cons (de_var 0) da_nil))))))) (dss_one (ds_ret de_bl)) dss_nil)
    (dss_cons (ds_if (dt_cmp (op_or (op_gNe hh.K hh.u64) (op_gNeL hh.K hh.u66)) (de_call hh (c__law_caught B) (da_cons de_int (da_cons (de_var 0) (da_cons de_int da_nil)))) (de_lst (da_cons de_str (da_cons (de_var 0) da_nil)))) (dss_one (ds_ret de_bl)) dss_nil)
    (dss_one (ds_ret (de_cmp (op_or (op_gEq hh.K hh.u64) (op_gEqL hh.K hh.u66)) (de_call hh (c__law_caught B) (da_cons de_int (da_cons de_int (da_cons (de_var 0) da_nil)))) (de_lst (da_cons de_str (da_cons (de_var 0) da_nil)))))))))
theorem c__law_odd_right (B : BB K mg) : Cal (GG K) P w mg base 7 "_law_odd_right" 2 D__law_odd_right := cal_of (Γ := GG K) (k := 6) (d := d__law_odd_right) (ξ := ⟨0, .none, none⟩) (body := b__law_odd_right) B 18 sc__law_odd_right (k39 B) (p__law_odd_right B) (fun _ _ _ _ _ _ us hl => match us, hl with | [_, _], _ => rfl)
theorem sc__law_take : FnScope ["_law_bag_here", "_law_many", "_law_digit", "_law_mixed"] ["_law_bag_here", "_law_many"] (defScope s__law_take) := ⟨rfl, rfl, rfl, by decide +kernel, rfl, by decide +kernel, by decide +kernel⟩
noncomputable def b__law_take : SF := (sSeq (sIf (eOp2 iGt (eOp2 gIx (eVar 0) (eC (.int 0))) (eC (.int 0))) (sSeq (sAsg (tgN 2) (eOp2 iMod (eOp2 gIx (eVar 0) (eC (.int 0))) (eVar 1)))
    (sSeq (sStore (eVar 0) (eC (.int 0)) (eOp2 iDiv (eOp2 gIx (eVar 0) (eC (.int 0))) (eVar 1)))
    (sRet (eVar 2)))) sNil)
    (sSeq (sStore (eVar 0) (eC (.int 2)) (eOp2 iAdd (eOp2 gIx (eVar 0) (eC (.int 2))) (eC (.int 1))))
    (sSeq (sAsg (tgN 3) (eOp2 iMod (eOp2 iPow (eOp2 iAdd (eOp2 iAdd (eOp2 gIx (eVar 0) (eC (.int 1))) (eOp2 iMul (eC (.int 86028121)) (eOp2 gIx (eVar 0) (eC (.int 2))))) (eC (.int 947))) (eC (.int 5))) (eC (.int 2147483647))))
    (sSeq (sAsg (tgN 3) (eOp2 iMod (eOp2 iPow (eOp2 iAdd (eVar 3) (eOp2 iMul (eC (.int 104729)) (eOp2 gIx (eVar 0) (eC (.int 2))))) (eC (.int 3))) (eC (.int 2147483587))))
    (sRet (eOp2 iMod (eOp2 iDiv (eVar 3) (eC (.int 16))) (eVar 1)))))))
noncomputable def D__law_take : List D → Store → Res := fnD 4 b__law_take
theorem p__law_take (B : BB K mg) {ξ : Xx} (cdv : Value) (A : Around) (outer : List Env) (s : Shared) (H : Hp) (Ex : XK) (hr : Room 0 (A.deeper (envOfC d__law_take.qual d__law_take.scope s.heap.objs.size (d__law_take.at_ (GG K).K) cdv))) :
    PSs (cxOf (L2.CX P w) P w (GG K).K mg base ["_law_bag_here", "_law_many", "_law_digit", "_law_mixed"] d__law_take.qual d__law_take.scope (d__law_take.at_ (GG K).K) cdv A outer s H Ex) d__law_take.body (dS (GG K) ξ b__law_take (fun c d' _ H => Ex c d' H)) := by
  have hh : Here (GG K) P w mg base 0 (cxOf (L2.CX P w) P w (GG K).K mg base ["_law_bag_here", "_law_many", "_law_digit", "_law_mixed"] d__law_take.qual d__law_take.scope (d__law_take.at_ (GG K).K) cdv A outer s H Ex) (fun c d' _ H => Ex c d' H) := here_of hr
  exact (dss_cons (ds_if (dt_cmp op_iGt (de_ix hh.K (dv_of (de_var 0)) de_int) de_int) (dss_cons (ds_set sc__law_take.nd (de_op op_iMod (de_ix hh.K (dv_of (de_var 0)) de_int) (de_var 1)))
    (dss_cons (ds_store (de_var 0) de_int (de_op op_iDiv (de_ix hh.K (dv_of (de_var 0)) de_int) (de_var 1)))
    (dss_one (ds_ret (de_var 2))))) dss_nil)
    (dss_cons (ds_store (de_var 0) de_int (de_op op_iAdd (de_ix hh.K (dv_of (de_var 0)) de_int) de_int))
    (dss_cons (ds_set sc__law_take.nd (de_op op_iMod (de_op op_iPow (de_op op_iAdd (de_op op_iAdd (de_ix hh.K (dv_of (de_var 0)) de_int) (de_op op_iMul de_int (de_ix hh.K (dv_of (de_var 0)) de_int))) de_int) de_int) de_int))
    (dss_cons (ds_set sc__law_take.nd (de_op op_iMod (de_op op_iPow (de_op op_iAdd (de_var 3) (de_op op_iMul de_int (de_ix hh.K (dv_of (de_var 0)) de_int))) de_int) de_int))
    (dss_one (ds_ret (de_op op_iMod (de_op op_iDiv (de_var 3) de_int) (de_var 1))))))))
theorem c__law_take (B : BB K mg) : Cal (GG K) P w mg base 1 "_law_take" 2 D__law_take := cal_of (Γ := GG K) (k := 0) (d := d__law_take) (ξ := ⟨0, .none, none⟩) (body := b__law_take) B 19 sc__law_take (k40 B) (p__law_take B) (fun _ _ _ _ _ _ us hl => match us, hl with | [_, _], _ => rfl)
theorem sc_Ratiod__muld_ : FnScope ["self", "other", "top", "bottom"] ["self", "other"] (defScope s_Ratiod__muld_) := ⟨rfl, rfl, rfl, by decide +kernel, rfl, by decide +kernel, by decide +kernel⟩
noncomputable def b_Ratiod__muld_ : SF := (sSeq (sAsg (tgT 2 (tsCons (tgN 2) (tsCons (tgN 3) tsNil))) (eCall 1 D_parts (aCons (eVar 1) aNil)))
    (sRet (eNew 0 2 [] I_Ratiod__initd_ (aCons (eOp2 iMul (eOp1 (gSlot 0 1) (eVar 0)) (eVar 2)) (aCons (eOp2 iMul (eOp1 (gSlot 0 0) (eVar 0)) (eVar 3)) aNil)))))
noncomputable def D_Ratiod__muld_ : List D → Store → Res := fnD 4 b_Ratiod__muld_
theorem p_Ratiod__muld_ (B : BB K mg) {ξ : Xx} (cdv : Value) (A : Around) (outer : List Env) (s : Shared) (H : Hp) (Ex : XK) (hr : Room 4 (A.deeper (envOfC d_Ratiod__muld_.qual d_Ratiod__muld_.scope s.heap.objs.size (d_Ratiod__muld_.at_ (GG K).K) cdv))) :
    PSs (cxOf (L2.CX P w) P w (GG K).K mg base ["self", "other", "top", "bottom"] d_Ratiod__muld_.qual d_Ratiod__muld_.scope (d_Ratiod__muld_.at_ (GG K).K) cdv A outer s H Ex) d_Ratiod__muld_.body (dS (GG K) ξ b_Ratiod__muld_ (fun c d' _ H => Ex c d' H)) := by
  have hh : Here (GG K) P w mg base 4 (cxOf (L2.CX P w) P w (GG K).K mg base ["self", "other", "top", "bottom"] d_Ratiod__muld_.qual d_Ratiod__muld_.scope (d_Ratiod__muld_.at_ (GG K).K) cdv A outer s H Ex) (fun c d' _ H => Ex c d' H) := here_of hr
  exact (dss_cons (ds_asg (de_call hh (c_parts B) (da_cons (de_var 1) da_nil)) (dg_tup hh.K rfl (dgs_cons (dg_name sc_Ratiod__muld_.nd) (dgs_cons (dg_name sc_Ratiod__muld_.nd) dgs_nil))))
    (dss_one (ds_ret (de_new hh (mk_Ratiod__initd__2 B) (da_cons (de_op op_iMul (de_slot hh.K (sl0 B) (st0_up B) (de_var 0)) (de_var 2)) (da_cons (de_op op_iMul (de_slot hh.K (sl0 B) (st0_down B) (de_var 0)) (de_var 3)) da_nil))))))
theorem c_Ratiod__muld_ (B : BB K mg) : CalR (GG K) P w mg base 5 (ma K (ga K "Ratio") "__mul__") 2 D_Ratiod__muld_ := calR_of (Γ := GG K) (k := 4) (d := d_Ratiod__muld_) (ξ := ⟨0, .none, none⟩) (body := b_Ratiod__muld_) B 20 sc_Ratiod__muld_ (p_Ratiod__muld_ B) (fun _ _ _ _ _ _ us hl => match us, hl with | [_, _], _ => rfl)
theorem sc_power : FnScope ["number", "exponent", "found", "turn"] ["number", "exponent"] (defScope s_power) := ⟨rfl, rfl, rfl, by decide +kernel, rfl, by decide +kernel, by decide +kernel⟩
noncomputable def b_power : SF := (sSeq (sAsg (tgN 2) (eNew 0 2 [.int 1] I_Ratiod__initd_ (aCons (eC (.int 1)) aNil)))
    (sSeq (sFor (itRange1 (aCons (eVar 1) aNil)) (tgN 3) (sAsg (tgN 2) (eOp2 (gOwn 0 D_Ratiod__muld_) (eVar 2) (eVar 0))))
    (sRet (eVar 2))))
noncomputable def D_power : List D → Store → Res := fnD 4 b_power
theorem p_power (B : BB K mg) {ξ : Xx} (cdv : Value) (A : Around) (outer : List Env) (s : Shared) (H : Hp) (Ex : XK) (hr : Room 5 (A.deeper (envOfC d_power.qual d_power.scope s.heap.objs.size (d_power.at_ (GG K).K) cdv))) :
    PSs (cxOf (L2.CX P w) P w (GG K).K mg base ["number", "exponent", "found", "turn"] d_power.qual d_power.scope (d_power.at_ (GG K).K) cdv A outer s H Ex) d_power.body (dS (GG K) ξ b_power (fun c d' _ H => Ex c d' H)) := by
  have hh : Here (GG K) P w mg base 5 (cxOf (L2.CX P w) P w (GG K).K mg base ["number", "exponent", "found", "turn"] d_power.qual d_power.scope (d_power.at_ (GG K).K) cdv A outer s H Ex) (fun c d' _ H => Ex c d' H) := here_of hr
  exact (dss_cons (ds_set sc_power.nd (de_new hh (mk_Ratiod__initd__1 B) (da_cons de_int da_nil)))
    (dss_cons (ds_for (passes_of rfl) rfl (di_range1 (da_cons (de_var 1) da_nil) (B.free (k27 B))) (dg_name sc_power.nd) (dss_one (ds_set sc_power.nd (de_op (op_own hh (bnB_ok (k41 B)) (c_Ratiod__muld_ B)) (de_var 2) (de_var 0)))))
    (dss_one (ds_ret (de_var 2)))))
theorem c_power (B : BB K mg) : Cal (GG K) P w mg base 6 "power" 2 D_power := cal_of (Γ := GG K) (k := 5) (d := d_power) (ξ := ⟨0, .none, none⟩) (body := b_power) B 21 sc_power (k42 B) (p_power B) (fun _ _ _ _ _ _ us hl => match us, hl with | [_, _], _ => rfl)
theorem sc__law_given : FnScope ["_law_x"] ["_law_x"] (defScope s__law_given) := ⟨rfl, rfl, rfl, by decide +kernel, rfl, by decide +kernel, by decide +kernel⟩
noncomputable def b__law_given : SF := (sRet (eIf (eOp2 gEq (eOp2 gIx (eVar 0) (eC (.int 1))) (eC (.int 1))) (eOp2 gIx (eVar 0) (eC (.int 0))) (eNew 0 2 [] I_Ratiod__initd_ (aCons (eOp2 gIx (eVar 0) (eC (.int 0))) (aCons (eOp2 gIx (eVar 0) (eC (.int 1))) aNil)))))
noncomputable def D__law_given : List D → Store → Res := fnD 1 b__law_given
theorem p__law_given (B : BB K mg) {ξ : Xx} (cdv : Value) (A : Around) (outer : List Env) (s : Shared) (H : Hp) (Ex : XK) (hr : Room 4 (A.deeper (envOfC d__law_given.qual d__law_given.scope s.heap.objs.size (d__law_given.at_ (GG K).K) cdv))) :
    PSs (cxOf (L2.CX P w) P w (GG K).K mg base ["_law_x"] d__law_given.qual d__law_given.scope (d__law_given.at_ (GG K).K) cdv A outer s H Ex) d__law_given.body (dS (GG K) ξ b__law_given (fun c d' _ H => Ex c d' H)) := by
  have hh : Here (GG K) P w mg base 4 (cxOf (L2.CX P w) P w (GG K).K mg base ["_law_x"] d__law_given.qual d__law_given.scope (d__law_given.at_ (GG K).K) cdv A outer s H Ex) (fun c d' _ H => Ex c d' H) := here_of hr
  exact (dss_one (ds_ret (de_if (dt_cmp (op_gEq hh.K hh.u64) (de_ix hh.K (dv_of (de_var 0)) de_int) de_int) (de_ix hh.K (dv_of (de_var 0)) de_int) (de_new hh (mk_Ratiod__initd__2 B) (da_cons (de_ix hh.K (dv_of (de_var 0)) de_int) (da_cons (de_ix hh.K (dv_of (de_var 0)) de_int) da_nil))))))
theorem c__law_given (B : BB K mg) : Cal (GG K) P w mg base 5 "_law_given" 1 D__law_given := cal_of (Γ := GG K) (k := 4) (d := d__law_given) (ξ := ⟨0, .none, none⟩) (body := b__law_given) B 22 sc__law_given (k43 B) (p__law_given B) (fun _ _ _ _ _ _ us hl => match us, hl with | [_], _ => rfl)
theorem sc__law_frac : FnScope ["_law_up", "_law_down", "_law_one", "_law_other"] ["_law_up", "_law_down"] (defScope s__law_frac) := ⟨rfl, rfl, rfl, by decide +kernel, rfl, by decide +kernel, by decide +kernel⟩
noncomputable def b__law_frac : SF := (sSeq (sPar 2 3 (aCons (eOp1 gAbs (eVar 0)) (aCons (eOp1 gAbs (eVar 1)) aNil)))
    (sSeq (sWhile (eOp2 gNe (eVar 3) (eC (.int 0))) (sPar 2 3 (aCons (eVar 3) (aCons (eOp2 iModN (eVar 2) (eVar 3)) aNil))))
    (sSeq (sAsg (tgN 2) (eIf (eOp2 iGt (eVar 1) (eC (.int 0))) (eVar 2) (eOp1 iNeg (eVar 2))))
    (sRet (eTup (aCons (eOp2 iDivN (eVar 0) (eVar 2)) (aCons (eOp2 iDivN (eVar 1) (eVar 2)) aNil)))))))
noncomputable def D__law_frac : List D → Store → Res := fnD 4 b__law_frac
theorem p__law_frac (B : BB K mg) {ξ : Xx} (cdv : Value) (A : Around) (outer : List Env) (s : Shared) (H : Hp) (Ex : XK) (hr : Room 0 (A.deeper (envOfC d__law_frac.qual d__law_frac.scope s.heap.objs.size (d__law_frac.at_ (GG K).K) cdv))) :
    PSs (cxOf (L2.CX P w) P w (GG K).K mg base ["_law_up", "_law_down", "_law_one", "_law_other"] d__law_frac.qual d__law_frac.scope (d__law_frac.at_ (GG K).K) cdv A outer s H Ex) d__law_frac.body (dS (GG K) ξ b__law_frac (fun c d' _ H => Ex c d' H)) := by
  have hh : Here (GG K) P w mg base 0 (cxOf (L2.CX P w) P w (GG K).K mg base ["_law_up", "_law_down", "_law_one", "_law_other"] d__law_frac.qual d__law_frac.scope (d__law_frac.at_ (GG K).K) cdv A outer s H Ex) (fun c d' _ H => Ex c d' H) := here_of hr
  exact (dss_cons (ds_par rfl sc__law_frac.nd (da_cons (de_b1 (cr_abs) (B.free (k21 B)) (by decide +kernel) (dv_of (de_var 0))) (da_cons (de_b1 (cr_abs) (B.free (k21 B)) (by decide +kernel) (dv_of (de_var 1))) da_nil)))
    (dss_cons (ds_while (passes_of rfl) (dt_cmp (op_gNe hh.K hh.u64) (de_var 3) de_int) (dss_one (ds_par rfl sc__law_frac.nd (da_cons (de_var 3) (da_cons (de_op op_iModN (de_var 2) (de_var 3)) da_nil)))))
    (dss_cons (ds_set sc__law_frac.nd (de_if (dt_cmp op_iGt (de_var 1) de_int) (de_var 2) (de_un un_iNeg (de_var 2))))
    (dss_one (ds_ret (de_tup (da_cons (de_op op_iDivN (de_var 0) (de_var 2)) (da_cons (de_op op_iDivN (de_var 1) (de_var 2)) da_nil))))))))
theorem c__law_frac (B : BB K mg) : Cal (GG K) P w mg base 1 "_law_frac" 2 D__law_frac := cal_of (Γ := GG K) (k := 0) (d := d__law_frac) (ξ := ⟨0, .none, none⟩) (body := b__law_frac) B 23 sc__law_frac (k44 B) (p__law_frac B) (fun _ _ _ _ _ _ us hl => match us, hl with | [_, _], _ => rfl)
theorem sc__law_times : FnScope ["_law_x", "_law_y"] ["_law_x", "_law_y"] (defScope s__law_times) := ⟨rfl, rfl, rfl, by decide +kernel, rfl, by decide +kernel, by decide +kernel⟩
noncomputable def b__law_times : SF := (sRet (eCall 2 D__law_frac (aCons (eOp2 iMul (eOp2 gIx (eVar 0) (eC (.int 0))) (eOp2 gIx (eVar 1) (eC (.int 0)))) (aCons (eOp2 iMul (eOp2 gIx (eVar 0) (eC (.int 1))) (eOp2 gIx (eVar 1) (eC (.int 1)))) aNil))))
noncomputable def D__law_times : List D → Store → Res := fnD 2 b__law_times
theorem p__law_times (B : BB K mg) {ξ : Xx} (cdv : Value) (A : Around) (outer : List Env) (s : Shared) (H : Hp) (Ex : XK) (hr : Room 1 (A.deeper (envOfC d__law_times.qual d__law_times.scope s.heap.objs.size (d__law_times.at_ (GG K).K) cdv))) :
    PSs (cxOf (L2.CX P w) P w (GG K).K mg base ["_law_x", "_law_y"] d__law_times.qual d__law_times.scope (d__law_times.at_ (GG K).K) cdv A outer s H Ex) d__law_times.body (dS (GG K) ξ b__law_times (fun c d' _ H => Ex c d' H)) := by
  have hh : Here (GG K) P w mg base 1 (cxOf (L2.CX P w) P w (GG K).K mg base ["_law_x", "_law_y"] d__law_times.qual d__law_times.scope (d__law_times.at_ (GG K).K) cdv A outer s H Ex) (fun c d' _ H => Ex c d' H) := here_of hr
  exact (dss_one (ds_ret (de_call hh (c__law_frac B) (da_cons (de_op op_iMul (de_ix hh.K (dv_of (de_var 0)) de_int) (de_ix hh.K (dv_of (de_var 1)) de_int)) (da_cons (de_op op_iMul (de_ix hh.K (dv_of (de_var 0)) de_int) (de_ix hh.K (dv_of (de_var 1)) de_int)) da_nil)))))
theorem c__law_times (B : BB K mg) : Cal (GG K) P w mg base 2 "_law_times" 2 D__law_times := cal_of (Γ := GG K) (k := 1) (d := d__law_times) (ξ := ⟨0, .none, none⟩) (body := b__law_times) B 24 sc__law_times (k45 B) (p__law_times B) (fun _ _ _ _ _ _ us hl => match us, hl with | [_, _], _ => rfl)
theorem sc__law_number : FnScope ["_law_bag_here", "_law_way", "_law_great"] ["_law_bag_here"] (defScope s__law_number) := ⟨rfl, rfl, rfl, by decide +kernel, rfl, by decide +kernel, by decide +kernel⟩
noncomputable def b__law_number : SF := (sSeq (sAsg (tgN 1) (eCall 2 D__law_take (aCons (eVar 0) (aCons (eC (.int 6)) aNil))))
    (sSeq (sIf (eOp2 gEq (eVar 1) (eC (.int 0))) (sRet (eCall 2 D__law_frac (aCons (eOp2 iSub (eCall 2 D__law_take (aCons (eVar 0) (aCons (eC (.int 13)) aNil))) (eC (.int 6))) (aCons (eC (.int 1)) aNil)))) sNil)
    (sSeq (sIf (eOp2 iLt (eVar 1) (eC (.int 4))) (sRet (eCall 2 D__law_frac (aCons (eOp2 iSub (eCall 2 D__law_take (aCons (eVar 0) (aCons (eC (.int 25)) aNil))) (eC (.int 12))) (aCons (eOp2 iAdd (eC (.int 1)) (eCall 2 D__law_take (aCons (eVar 0) (aCons (eC (.int 7)) aNil)))) aNil)))) sNil)
    (sSeq (sAsg (tgN 2) (eCall 2 D__law_frac (aCons (eOp2 iSub (eCall 2 D__law_take (aCons (eVar 0) (aCons (eOp2 iPow (eC (.int 10)) (eC (.int 29))) aNil))) (eOp2 iMul (eC (.int 5)) (eOp2 iPow (eC (.int 10)) (eC (.int 28))))) (aCons (eOp2 iAdd (eC (.int 1)) (eCall 2 D__law_take (aCons (eVar 0) (aCons (eOp2 iPow (eC (.int 10)) (eC (.int 29))) aNil)))) aNil))))
    (sRet (eIf (eOp2 gEq (eVar 1) (eC (.int 4))) (eVar 2) (eCall 2 D__law_frac (aCons (eCall 2 D__law_take (aCons (eVar 0) (aCons (eC (.int 3)) aNil))) (aCons (eOp2 iAdd (eC (.int 1)) (eCall 2 D__law_take (aCons (eVar 0) (aCons (eOp2 iPow (eC (.int 10)) (eC (.int 12))) aNil)))) aNil)))))))))
noncomputable def D__law_number : List D → Store → Res := fnD 3 b__law_number
theorem p__law_number (B : BB K mg) {ξ : Xx} (cdv : Value) (A : Around) (outer : List Env) (s : Shared) (H : Hp) (Ex : XK) (hr : Room 1 (A.deeper (envOfC d__law_number.qual d__law_number.scope s.heap.objs.size (d__law_number.at_ (GG K).K) cdv))) :
    PSs (cxOf (L2.CX P w) P w (GG K).K mg base ["_law_bag_here", "_law_way", "_law_great"] d__law_number.qual d__law_number.scope (d__law_number.at_ (GG K).K) cdv A outer s H Ex) d__law_number.body (dS (GG K) ξ b__law_number (fun c d' _ H => Ex c d' H)) := by
  have hh : Here (GG K) P w mg base 1 (cxOf (L2.CX P w) P w (GG K).K mg base ["_law_bag_here", "_law_way", "_law_great"] d__law_number.qual d__law_number.scope (d__law_number.at_ (GG K).K) cdv A outer s H Ex) (fun c d' _ H => Ex c d' H) := here_of hr
  exact (dss_cons (ds_set sc__law_number.nd (de_call hh (c__law_take B) (da_cons (de_var 0) (da_cons de_int da_nil))))
    (dss_cons (ds_if (dt_cmp (op_gEq hh.K hh.u64) (de_var 1) de_int) (dss_one (ds_ret (de_call hh (c__law_frac B) (da_cons (de_op op_iSub (de_call hh (c__law_take B) (da_cons (de_var 0) (da_cons de_int da_nil))) de_int) (da_cons de_int da_nil))))) dss_nil)
    (dss_cons (ds_if (dt_cmp op_iLt (de_var 1) de_int) (dss_one (ds_ret (de_call hh (c__law_frac B) (da_cons (de_op op_iSub (de_call hh (c__law_take B) (da_cons (de_var 0) (da_cons de_int da_nil))) de_int) (da_cons (de_op op_iAdd de_int (de_call hh (c__law_take B) (da_cons (de_var 0) (da_cons de_int da_nil)))) da_nil))))) dss_nil)
    (dss_cons (ds_set sc__law_number.nd (de_call hh (c__law_frac B) (da_cons (de_op op_iSub (de_call hh (c__law_take B) (da_cons (de_var 0) (da_cons (de_op op_iPow de_int de_int) da_nil))) (de_op op_iMul de_int (de_op op_iPow de_int de_int))) (da_cons (de_op op_iAdd de_int (de_call hh (c__law_take B) (da_cons (de_var 0) (da_cons (de_op op_iPow de_int de_int) da_nil)))) da_nil))))
    (dss_one (ds_ret (de_if (dt_cmp (op_gEq hh.K hh.u64) (de_var 1) de_int) (de_var 2) (de_call hh (c__law_frac B) (da_cons (de_call hh (c__law_take B) (da_cons (de_var 0) (da_cons de_int da_nil))) (da_cons (de_op op_iAdd de_int (de_call hh (c__law_take B) (da_cons (de_var 0) (da_cons (de_op op_iPow de_int de_int) da_nil)))) da_nil))))))))))
theorem c__law_number (B : BB K mg) : Cal (GG K) P w mg base 2 "_law_number" 1 D__law_number := cal_of (Γ := GG K) (k := 1) (d := d__law_number) (ξ := ⟨0, .none, none⟩) (body := b__law_number) B 25 sc__law_number (k46 B) (p__law_number B) (fun _ _ _ _ _ _ us hl => match us, hl with | [_], _ => rfl)
theorem sc_dot : FnScope ["one", "other", "found", "left", "right"] ["one", "other"] (defScope s_dot) := ⟨rfl, rfl, rfl, by decide +kernel, rfl, by decide +kernel, by decide +kernel⟩
noncomputable def b_dot : SF := (sSeq (sAsg (tgN 2) (eNew 0 2 [.int 1] I_Ratiod__initd_ (aCons (eC (.int 0)) aNil)))
    (sSeq (sFor (itZip (aCons (eVar 0) (aCons (eVar 1) aNil))) (tgT 2 (tsCons (tgN 3) (tsCons (tgN 4) tsNil))) (sAsg (tgN 2) (eOp2 (gOwn 0 D_Ratiod__addd_) (eVar 2) (eNew 0 2 [] I_Ratiod__initd_ (aCons (eOp2 iMul (eOp2 gIx (eCall 1 D_parts (aCons (eVar 3) aNil)) (eC (.int 0))) (eOp2 gIx (eCall 1 D_parts (aCons (eVar 4) aNil)) (eC (.int 0)))) (aCons (eOp2 iMul (eOp2 gIx (eCall 1 D_parts (aCons (eVar 3) aNil)) (eC (.int 1))) (eOp2 gIx (eCall 1 D_parts (aCons (eVar 4) aNil)) (eC (.int 1)))) aNil))))))
    (sRet (eVar 2))))
noncomputable def D_dot : List D → Store → Res := fnD 5 b_dot
theorem p_dot (B : BB K mg) {ξ : Xx} (cdv : Value) (A : Around) (outer : List Env) (s : Shared) (H : Hp) (Ex : XK) (hr : Room 5 (A.deeper (envOfC d_dot.qual d_dot.scope s.heap.objs.size (d_dot.at_ (GG K).K) cdv))) :
    PSs (cxOf (L2.CX P w) P w (GG K).K mg base ["one", "other", "found", "left", "right"] d_dot.qual d_dot.scope (d_dot.at_ (GG K).K) cdv A outer s H Ex) d_dot.body (dS (GG K) ξ b_dot (fun c d' _ H => Ex c d' H)) := by
  have hh : Here (GG K) P w mg base 5 (cxOf (L2.CX P w) P w (GG K).K mg base ["one", "other", "found", "left", "right"] d_dot.qual d_dot.scope (d_dot.at_ (GG K).K) cdv A outer s H Ex) (fun c d' _ H => Ex c d' H) := here_of hr
  exact (dss_cons (ds_set sc_dot.nd (de_new hh (mk_Ratiod__initd__1 B) (da_cons de_int da_nil)))
    (dss_cons (ds_for (passes_of rfl) rfl (di_zip hh.K (B.free (k47 B)) (da_cons (de_var 0) (da_cons (de_var 1) da_nil))) (dg_tup hh.K rfl (dgs_cons (dg_name sc_dot.nd) (dgs_cons (dg_name sc_dot.nd) dgs_nil))) (dss_one (ds_set sc_dot.nd (de_op (op_own hh (bnB_ok (k35 B)) (c_Ratiod__addd_ B)) (de_var 2) (de_new hh (mk_Ratiod__initd__2 B) (da_cons (de_op op_iMul (de_ix hh.K (dv_of (de_call hh (c_parts B) (da_cons (de_var 3) da_nil))) de_int) (de_ix hh.K (dv_of (de_call hh (c_parts B) (da_cons (de_var 4) da_nil))) de_int)) (da_cons (de_op op_iMul (de_ix hh.K (dv_of (de_call hh (c_parts B) (da_cons (de_var 3) da_nil))) de_int) (de_ix hh.K (dv_of (de_call hh (c_parts B) (da_cons (de_var 4) da_nil))) de_int)) da_nil)))))))
    (dss_one (ds_ret (de_var 2)))))
theorem c_dot (B : BB K mg) : Cal (GG K) P w mg base 6 "dot" 2 D_dot := cal_of (Γ := GG K) (k := 5) (d := d_dot) (ξ := ⟨0, .none, none⟩) (body := b_dot) B 26 sc_dot (k48 B) (p_dot B) (fun _ _ _ _ _ _ us hl => match us, hl with | [_, _], _ => rfl)
theorem sc__law_plus : FnScope ["_law_x", "_law_y"] ["_law_x", "_law_y"] (defScope s__law_plus) := ⟨rfl, rfl, rfl, by decide +kernel, rfl, by decide +kernel, by decide +kernel⟩
noncomputable def b__law_plus : SF := (sRet (eCall 2 D__law_frac (aCons (eOp2 iAdd (eOp2 iMul (eOp2 gIx (eVar 0) (eC (.int 0))) (eOp2 gIx (eVar 1) (eC (.int 1)))) (eOp2 iMul (eOp2 gIx (eVar 1) (eC (.int 0))) (eOp2 gIx (eVar 0) (eC (.int 1))))) (aCons (eOp2 iMul (eOp2 gIx (eVar 0) (eC (.int 1))) (eOp2 gIx (eVar 1) (eC (.int 1)))) aNil))))
noncomputable def D__law_plus : List D → Store → Res := fnD 2 b__law_plus
theorem p__law_plus (B : BB K mg) {ξ : Xx} (cdv : Value) (A : Around) (outer : List Env) (s : Shared) (H : Hp) (Ex : XK) (hr : Room 1 (A.deeper (envOfC d__law_plus.qual d__law_plus.scope s.heap.objs.size (d__law_plus.at_ (GG K).K) cdv))) :
    PSs (cxOf (L2.CX P w) P w (GG K).K mg base ["_law_x", "_law_y"] d__law_plus.qual d__law_plus.scope (d__law_plus.at_ (GG K).K) cdv A outer s H Ex) d__law_plus.body (dS (GG K) ξ b__law_plus (fun c d' _ H => Ex c d' H)) := by
  have hh : Here (GG K) P w mg base 1 (cxOf (L2.CX P w) P w (GG K).K mg base ["_law_x", "_law_y"] d__law_plus.qual d__law_plus.scope (d__law_plus.at_ (GG K).K) cdv A outer s H Ex) (fun c d' _ H => Ex c d' H) := here_of hr
  exact (dss_one (ds_ret (de_call hh (c__law_frac B) (da_cons (de_op op_iAdd (de_op op_iMul (de_ix hh.K (dv_of (de_var 0)) de_int) (de_ix hh.K (dv_of (de_var 1)) de_int)) (de_op op_iMul (de_ix hh.K (dv_of (de_var 1)) de_int) (de_ix hh.K (dv_of (de_var 0)) de_int))) (da_cons (de_op op_iMul (de_ix hh.K (dv_of (de_var 0)) de_int) (de_ix hh.K (dv_of (de_var 1)) de_int)) da_nil)))))
theorem c__law_plus (B : BB K mg) : Cal (GG K) P w mg base 2 "_law_plus" 2 D__law_plus := cal_of (Γ := GG K) (k := 1) (d := d__law_plus) (ξ := ⟨0, .none, none⟩) (body := b__law_plus) B 27 sc__law_plus (k50 B) (p__law_plus B) (fun _ _ _ _ _ _ us hl => match us, hl with | [_, _], _ => rfl)
theorem sc__law_lists_right : FnScope ["_law_bag_here", "_law_numbers", "_law_given_here", "_law_x", "_law_others", "_law_summed", "_law_mixed", "_law_y", "_law_base", "_law_many", "_law_built", "_law_lap"] ["_law_bag_here", "_law_numbers"] (defScope s__law_lists_right) := ⟨rfl, rfl, rfl, by decide +kernel, rfl, by decide +kernel, by decide +kernel⟩
noncomputable def b__law_lists_right : SF := (sSeq (sAsg (tgN 2) (eLc [3] (itSeq (eVar 1)) (tgN 3) eYes (eCall 1 D__law_given (aCons (eVar 3) aNil))))
    (sSeq (sAsg (tgN 4) (eLc [3] (itSeq (eVar 1)) (tgN 3) eYes (eCall 1 D__law_number (aCons (eVar 0) aNil))))
    (sSeq (sAsg (tgT 2 (tsCons (tgN 5) (tsCons (tgN 6) tsNil))) (eTup (aCons (eTup (aCons (eC (.int 0)) (aCons (eC (.int 1)) aNil))) (aCons (eTup (aCons (eC (.int 0)) (aCons (eC (.int 1)) aNil))) aNil))))
    (sSeq (sFor (itZip (aCons (eVar 1) (aCons (eVar 4) aNil))) (tgT 2 (tsCons (tgN 3) (tsCons (tgN 7) tsNil))) (sPar 5 6 (aCons (eCall 2 D__law_plus (aCons (eVar 5) (aCons (eVar 3) aNil))) (aCons (eCall 2 D__law_plus (aCons (eVar 6) (aCons (eCall 2 D__law_times (aCons (eVar 3) (aCons (eVar 7) aNil))) aNil))) aNil))))
    (sSeq (sIf (eOr (eNot (eCall 2 D__law_same (aCons (eCall 1 D_total (aCons (eVar 2) aNil)) (aCons (eVar 5) aNil)))) (eNot (eCall 2 D__law_same (aCons (eCall 1 D_total (aCons (eOp1 gTupOf (eVar 2)) aNil)) (aCons (eVar 5) aNil))))) (sRet (eC (.bl false))) sNil)
    (sSeq (sIf (eNot (eCall 2 D__law_same (aCons (eCall 2 D_dot (aCons (eVar 2) (aCons (eLc [7] (itSeq (eVar 4)) (tgN 7) eYes (eCall 1 D__law_given (aCons (eVar 7) aNil))) aNil))) (aCons (eVar 6) aNil)))) (sRet (eC (.bl false))) sNil)
    (sSeq (sPar 8 9 (aCons (eCall 1 D__law_number (aCons (eVar 0) aNil)) (aCons (eOp2 gIx (eLst (aCons (eC (.int 0)) (aCons (eC (.int 1)) (aCons (eCall 2 D__law_take (aCons (eVar 0) (aCons (eC (.int 12)) aNil))) (aCons (eC (.int 200)) aNil))))) (eCall 2 D__law_take (aCons (eVar 0) (aCons (eC (.int 4)) aNil)))) aNil)))
    (sSeq (sIf (eOp2 gEq (eVar 9) (eC (.int 200))) (sAsg (tgN 8) (eCall 2 D__law_frac (aCons (eOp2 iSub (eOp2 iMod (eOp2 gIx (eVar 8) (eC (.int 0))) (eC (.int 5))) (eC (.int 2))) (aCons (eC (.int 3)) aNil)))) sNil)
    (sSeq (sAsg (tgN 10) (eTup (aCons (eC (.int 1)) (aCons (eC (.int 1)) aNil))))
    (sSeq (sFor (itRange1 (aCons (eVar 9) aNil)) (tgN 11) (sAsg (tgN 10) (eCall 2 D__law_times (aCons (eVar 10) (aCons (eVar 8) aNil)))))
    (sRet (eCall 2 D__law_same (aCons (eCall 2 D_power (aCons (eCall 1 D__law_given (aCons (eVar 8) aNil)) (aCons (eVar 9) aNil))) (aCons (eVar 10) aNil))))))))))))))
noncomputable def D__law_lists_right : List D → Store → Res := fnD 12 b__law_lists_right
theorem p__law_lists_right (B : BB K mg) {ξ : Xx} (cdv : Value) (A : Around) (outer : List Env) (s : Shared) (H : Hp) (Ex : XK) (hr : Room 6 (A.deeper (envOfC d__law_lists_right.qual d__law_lists_right.scope s.heap.objs.size (d__law_lists_right.at_ (GG K).K) cdv))) :
    PSs (cxOf (L2.CX P w) P w (GG K).K mg base ["_law_bag_here", "_law_numbers", "_law_given_here", "_law_x", "_law_others", "_law_summed", "_law_mixed", "_law_y", "_law_base", "_law_many", "_law_built", "_law_lap"] d__law_lists_right.qual d__law_lists_right.scope (d__law_lists_right.at_ (GG K).K) cdv A outer s H Ex) d__law_lists_right.body (dS (GG K) ξ b__law_lists_right (fun c d' _ H => Ex c d' H)) := by
  have hh : Here (GG K) P w mg base 6 (cxOf (L2.CX P w) P w (GG K).K mg base ["_law_bag_here", "_law_numbers", "_law_given_here", "_law_x", "_law_others", "_law_summed", "_law_mixed", "_law_y", "_law_base", "_law_many", "_law_built", "_law_lap"] d__law_lists_right.qual d__law_lists_right.scope (d__law_lists_right.at_ (GG K).K) cdv A outer s H Ex) (fun c d' _ H => Ex c d' H) := here_of hr
  exact (dss_cons (ds_lcs rfl sc__law_lists_right.nd (blkOk_by (own := [("_law_x", 3)]) (by kernel_rfl)) (di_seq hh.K (de_var 1)) (fun _ _ _ _ _ => (dg_name sc__law_lists_right.nd)) (fun _ _ _ _ _ => dts_nil) (fun _ _ _ _ _ => (de_call hh.blk (c__law_given B) (da_cons (de_var 3) da_nil))))
    (dss_cons (ds_lcs rfl sc__law_lists_right.nd (blkOk_by (own := [("_law_x", 3)]) (by kernel_rfl)) (di_seq hh.K (de_var 1)) (fun _ _ _ _ _ => (dg_name sc__law_lists_right.nd)) (fun _ _ _ _ _ => dts_nil) (fun _ _ _ _ _ => (de_call hh.blk (c__law_number B) (da_cons (de_var 0) da_nil))))
    (dss_cons (ds_asg (de_tup (da_cons (de_tup (da_cons de_int (da_cons de_int da_nil))) (da_cons (de_tup (da_cons de_int (da_cons de_int da_nil))) da_nil))) (dg_tup hh.K rfl (dgs_cons (dg_name sc__law_lists_right.nd) (dgs_cons (dg_name sc__law_lists_right.nd) dgs_nil))))
    (dss_cons (ds_for (passes_of rfl) rfl (di_zip hh.K (B.free (k47 B)) (da_cons (de_var 1) (da_cons (de_var 4) da_nil))) (dg_tup hh.K rfl (dgs_cons (dg_name sc__law_lists_right.nd) (dgs_cons (dg_name sc__law_lists_right.nd) dgs_nil))) (dss_one (ds_par rfl sc__law_lists_right.nd (da_cons (de_call hh (c__law_plus B) (da_cons (de_var 5) (da_cons (de_var 3) da_nil))) (da_cons (de_call hh (c__law_plus B) (da_cons (de_var 6) (da_cons (de_call hh (c__law_times B) (da_cons (de_var 3) (da_cons (de_var 7) da_nil))) da_nil))) da_nil)))))
    (dss_cons (ds_if (PW.pt (dw_or (dt_not (dt_val (de_call hh (c__law_same B) (da_cons (de_call hh (c_total B) (da_cons (de_var 2) da_nil)) (da_cons (de_var 5) da_nil))))) (dw_or1 (dt_not (dt_val (de_call hh (c__law_same B) (da_cons (de_call hh (c_total B) (da_cons (de_t1 (cr_tuple hh.K) (B.free (k49 B)) (by decide +kernel) (dv_of (de_var 2))) da_nil)) (da_cons (de_var 5) da_nil)))))))) (dss_one (ds_ret de_bl)) dss_nil)
    (dss_cons (ds_if (dt_not (dt_val (de_call hh (c__law_same B) (da_cons (de_call hh (c_dot B) (da_cons (de_var 2) (da_cons (de_lc rfl sc__law_lists_right.nd (di_seq hh.K (de_var 4)) (blkOk_by (own := [("_law_y", 7)]) (by kernel_rfl)) (fun _ _ _ _ _ => (dg_name sc__law_lists_right.nd)) (fun _ _ _ _ _ => dts_nil) (fun _ _ _ _ _ => (de_call hh.blk (c__law_given B) (da_cons (de_var 7) da_nil)))) da_nil))) (da_cons (de_var 6) da_nil))))) (dss_one (ds_ret de_bl)) dss_nil)
    (dss_cons (ds_par rfl sc__law_lists_right.nd (da_cons (de_call hh (c__law_number B) (da_cons (de_var 0) da_nil)) (da_cons (de_ix hh.K (dv_of (de_lst (da_cons de_int (da_cons de_int (da_cons (de_call hh (c__law_take B) (da_cons (de_var 0) (da_cons de_int da_nil))) (da_cons de_int da_nil)))))) (de_call hh (c__law_take B) (da_cons (de_var 0) (da_cons de_int da_nil)))) da_nil)))
    (dss_cons (ds_if (dt_cmp (op_gEq hh.K hh.u64) (de_var 9) de_int) (dss_one (ds_set sc__law_lists_right.nd (de_call hh (c__law_frac B) (da_cons (de_op op_iSub (de_op op_iMod (de_ix hh.K (dv_of (de_var 8)) de_int) de_int) de_int) (da_cons de_int da_nil))))) dss_nil)
    (dss_cons (ds_set sc__law_lists_right.nd (de_tup (da_cons de_int (da_cons de_int da_nil))))
    (dss_cons (ds_for (passes_of rfl) rfl (di_range1 (da_cons (de_var 9) da_nil) (B.free (k27 B))) (dg_name sc__law_lists_right.nd) (dss_one (ds_set sc__law_lists_right.nd (de_call hh (c__law_times B) (da_cons (de_var 10) (da_cons (de_var 8) da_nil))))))
    (dss_one (ds_ret (de_call hh (c__law_same B) (da_cons (de_call hh (c_power B) (da_cons (de_call hh (c__law_given B) (da_cons (de_var 8) da_nil)) (da_cons (de_var 9) da_nil))) (da_cons (de_var 10) da_nil)))))))))))))))
theorem c__law_lists_right (B : BB K mg) : Cal (GG K) P w mg base 7 "_law_lists_right" 2 D__law_lists_right := cal_of (Γ := GG K) (k := 6) (d := d__law_lists_right) (ξ := ⟨0, .none, none⟩) (body := b__law_lists_right) B 28 sc__law_lists_right (k51 B) (p__law_lists_right B) (fun _ _ _ _ _ _ us hl => match us, hl with | [_, _], _ => rfl)
theorem sc_Ratio_floor : FnScope ["self"] ["self"] (defScope s_Ratio_floor) := ⟨rfl, rfl, rfl, by decide +kernel, rfl, by decide +kernel, by decide +kernel⟩
noncomputable def b_Ratio_floor : SF := (sRet (eOp2 iDiv (eOp1 (gSlot 0 1) (eVar 0)) (eOp1 (gSlot 0 0) (eVar 0))))
noncomputable def D_Ratio_floor : List D → Store → Res := fnD 1 b_Ratio_floor
theorem p_Ratio_floor (B : BB K mg) {ξ : Xx} (cdv : Value) (A : Around) (outer : List Env) (s : Shared) (H : Hp) (Ex : XK) (hr : Room 0 (A.deeper (envOfC d_Ratio_floor.qual d_Ratio_floor.scope s.heap.objs.size (d_Ratio_floor.at_ (GG K).K) cdv))) :
    PSs (cxOf (L2.CX P w) P w (GG K).K mg base ["self"] d_Ratio_floor.qual d_Ratio_floor.scope (d_Ratio_floor.at_ (GG K).K) cdv A outer s H Ex) d_Ratio_floor.body (dS (GG K) ξ b_Ratio_floor (fun c d' _ H => Ex c d' H)) := by
  have hh : Here (GG K) P w mg base 0 (cxOf (L2.CX P w) P w (GG K).K mg base ["self"] d_Ratio_floor.qual d_Ratio_floor.scope (d_Ratio_floor.at_ (GG K).K) cdv A outer s H Ex) (fun c d' _ H => Ex c d' H) := here_of hr
  exact (dss_one (ds_ret (de_op op_iDiv (de_slot hh.K (sl0 B) (st0_up B) (de_var 0)) (de_slot hh.K (sl0 B) (st0_down B) (de_var 0)))))
theorem c_Ratio_floor (B : BB K mg) : CalR (GG K) P w mg base 1 (ma K (ga K "Ratio") "floor") 1 D_Ratio_floor := calR_of (Γ := GG K) (k := 0) (d := d_Ratio_floor) (ξ := ⟨0, .none, none⟩) (body := b_Ratio_floor) B 29 sc_Ratio_floor (p_Ratio_floor B) (fun _ _ _ _ _ _ us hl => match us, hl with | [_], _ => rfl)
theorem sc_Ratiod__negd_ : FnScope ["self"] ["self"] (defScope s_Ratiod__negd_) := ⟨rfl, rfl, rfl, by decide +kernel, rfl, by decide +kernel, by decide +kernel⟩
noncomputable def b_Ratiod__negd_ : SF := (sRet (eNew 0 2 [] I_Ratiod__initd_ (aCons (eOp1 iNeg (eOp1 (gSlot 0 1) (eVar 0))) (aCons (eOp1 (gSlot 0 0) (eVar 0)) aNil))))
noncomputable def D_Ratiod__negd_ : List D → Store → Res := fnD 1 b_Ratiod__negd_
theorem p_Ratiod__negd_ (B : BB K mg) {ξ : Xx} (cdv : Value) (A : Around) (outer : List Env) (s : Shared) (H : Hp) (Ex : XK) (hr : Room 4 (A.deeper (envOfC d_Ratiod__negd_.qual d_Ratiod__negd_.scope s.heap.objs.size (d_Ratiod__negd_.at_ (GG K).K) cdv))) :
    PSs (cxOf (L2.CX P w) P w (GG K).K mg base ["self"] d_Ratiod__negd_.qual d_Ratiod__negd_.scope (d_Ratiod__negd_.at_ (GG K).K) cdv A outer s H Ex) d_Ratiod__negd_.body (dS (GG K) ξ b_Ratiod__negd_ (fun c d' _ H => Ex c d' H)) := by
  have hh : Here (GG K) P w mg base 4 (cxOf (L2.CX P w) P w (GG K).K mg base ["self"] d_Ratiod__negd_.qual d_Ratiod__negd_.scope (d_Ratiod__negd_.at_ (GG K).K) cdv A outer s H Ex) (fun c d' _ H => Ex c d' H) := here_of hr
  exact (dss_one (ds_ret (de_new hh (mk_Ratiod__initd__2 B) (da_cons (de_un un_iNeg (de_slot hh.K (sl0 B) (st0_up B) (de_var 0))) (da_cons (de_slot hh.K (sl0 B) (st0_down B) (de_var 0)) da_nil)))))
theorem c_Ratiod__negd_ (B : BB K mg) : CalR (GG K) P w mg base 5 (ma K (ga K "Ratio") "__neg__") 1 D_Ratiod__negd_ := calR_of (Γ := GG K) (k := 4) (d := d_Ratiod__negd_) (ξ := ⟨0, .none, none⟩) (body := b_Ratiod__negd_) B 30 sc_Ratiod__negd_ (p_Ratiod__negd_ B) (fun _ _ _ _ _ _ us hl => match us, hl with | [_], _ => rfl)
theorem sc_Ratio_below : FnScope ["self", "number", "top", "bottom"] ["self", "number"] (defScope s_Ratio_below) := ⟨rfl, rfl, rfl, by decide +kernel, rfl, by decide +kernel, by decide +kernel⟩
noncomputable def b_Ratio_below : SF := (sSeq (sAsg (tgT 2 (tsCons (tgN 2) (tsCons (tgN 3) tsNil))) (eCall 1 D_parts (aCons (eVar 1) aNil)))
    (sRet (eOp2 iLt (eOp2 iMul (eOp1 (gSlot 0 1) (eVar 0)) (eVar 3)) (eOp2 iMul (eVar 2) (eOp1 (gSlot 0 0) (eVar 0))))))
noncomputable def D_Ratio_below : List D → Store → Res := fnD 4 b_Ratio_below
theorem p_Ratio_below (B : BB K mg) {ξ : Xx} (cdv : Value) (A : Around) (outer : List Env) (s : Shared) (H : Hp) (Ex : XK) (hr : Room 3 (A.deeper (envOfC d_Ratio_below.qual d_Ratio_below.scope s.heap.objs.size (d_Ratio_below.at_ (GG K).K) cdv))) :
    PSs (cxOf (L2.CX P w) P w (GG K).K mg base ["self", "number", "top", "bottom"] d_Ratio_below.qual d_Ratio_below.scope (d_Ratio_below.at_ (GG K).K) cdv A outer s H Ex) d_Ratio_below.body (dS (GG K) ξ b_Ratio_below (fun c d' _ H => Ex c d' H)) := by
  have hh : Here (GG K) P w mg base 3 (cxOf (L2.CX P w) P w (GG K).K mg base ["self", "number", "top", "bottom"] d_Ratio_below.qual d_Ratio_below.scope (d_Ratio_below.at_ (GG K).K) cdv A outer s H Ex) (fun c d' _ H => Ex c d' H) := here_of hr
  exact (dss_cons (ds_asg (de_call hh (c_parts B) (da_cons (de_var 1) da_nil)) (dg_tup hh.K rfl (dgs_cons (dg_name sc_Ratio_below.nd) (dgs_cons (dg_name sc_Ratio_below.nd) dgs_nil))))
    (dss_one (ds_ret (de_cmp op_iLt (de_op op_iMul (de_slot hh.K (sl0 B) (st0_up B) (de_var 0)) (de_var 3)) (de_op op_iMul (de_var 2) (de_slot hh.K (sl0 B) (st0_down B) (de_var 0)))))))
theorem c_Ratio_below (B : BB K mg) : CalR (GG K) P w mg base 4 (ma K (ga K "Ratio") "below") 2 D_Ratio_below := calR_of (Γ := GG K) (k := 3) (d := d_Ratio_below) (ξ := ⟨0, .none, none⟩) (body := b_Ratio_below) B 31 sc_Ratio_below (p_Ratio_below B) (fun _ _ _ _ _ _ us hl => match us, hl with | [_, _], _ => rfl)
theorem kf_Ratio_below (B : BB K mg) : KFn (GG K) P w mg base 4 (ma K (ga K "Ratio") "below") 1 ["number"] (spD (GG K) 2 D_Ratio_below) (fun vs zs => vs ++ zs) := kfn_of (Γ := GG K) (ξ := ⟨0, .none, none⟩) (gv := fun vs zs => vs ++ zs) B 31 sc_Ratio_below (p_Ratio_below B) (fun _ _ _ _ _ _ us ws hu hw => match us, ws, hu, hw with | [_], [_], _, _ => rfl) (fun r1 r2 => r1.append r2)
theorem sc__law_less : FnScope ["_law_x", "_law_y"] ["_law_x", "_law_y"] (defScope s__law_less) := ⟨rfl, rfl, rfl, by decide +kernel, rfl, by decide +kernel, by decide +kernel⟩
noncomputable def b__law_less : SF := (sRet (eOp2 iLt (eOp2 iMul (eOp2 gIx (eVar 0) (eC (.int 0))) (eOp2 gIx (eVar 1) (eC (.int 1)))) (eOp2 iMul (eOp2 gIx (eVar 1) (eC (.int 0))) (eOp2 gIx (eVar 0) (eC (.int 1))))))
noncomputable def D__law_less : List D → Store → Res := fnD 2 b__law_less
theorem p__law_less (B : BB K mg) {ξ : Xx} (cdv : Value) (A : Around) (outer : List Env) (s : Shared) (H : Hp) (Ex : XK) (hr : Room 0 (A.deeper (envOfC d__law_less.qual d__law_less.scope s.heap.objs.size (d__law_less.at_ (GG K).K) cdv))) :
    PSs (cxOf (L2.CX P w) P w (GG K).K mg base ["_law_x", "_law_y"] d__law_less.qual d__law_less.scope (d__law_less.at_ (GG K).K) cdv A outer s H Ex) d__law_less.body (dS (GG K) ξ b__law_less (fun c d' _ H => Ex c d' H)) := by
  have hh : Here (GG K) P w mg base 0 (cxOf (L2.CX P w) P w (GG K).K mg base ["_law_x", "_law_y"] d__law_less.qual d__law_less.scope (d__law_less.at_ (GG K).K) cdv A outer s H Ex) (fun c d' _ H => Ex c d' H) := here_of hr
  exact (dss_one (ds_ret (de_cmp op_iLt (de_op op_iMul (de_ix hh.K (dv_of (de_var 0)) de_int) (de_ix hh.K (dv_of (de_var 1)) de_int)) (de_op op_iMul (de_ix hh.K (dv_of (de_var 1)) de_int) (de_ix hh.K (dv_of (de_var 0)) de_int)))))
theorem c__law_less (B : BB K mg) : Cal (GG K) P w mg base 1 "_law_less" 2 D__law_less := cal_of (Γ := GG K) (k := 0) (d := d__law_less) (ξ := ⟨0, .none, none⟩) (body := b__law_less) B 32 sc__law_less (k55 B) (p__law_less B) (fun _ _ _ _ _ _ us hl => match us, hl with | [_, _], _ => rfl)
theorem sc__law_minus : FnScope ["_law_x", "_law_y"] ["_law_x", "_law_y"] (defScope s__law_minus) := ⟨rfl, rfl, rfl, by decide +kernel, rfl, by decide +kernel, by decide +kernel⟩
noncomputable def b__law_minus : SF := (sRet (eCall 2 D__law_frac (aCons (eOp2 iSub (eOp2 iMul (eOp2 gIx (eVar 0) (eC (.int 0))) (eOp2 gIx (eVar 1) (eC (.int 1)))) (eOp2 iMul (eOp2 gIx (eVar 1) (eC (.int 0))) (eOp2 gIx (eVar 0) (eC (.int 1))))) (aCons (eOp2 iMul (eOp2 gIx (eVar 0) (eC (.int 1))) (eOp2 gIx (eVar 1) (eC (.int 1)))) aNil))))
noncomputable def D__law_minus : List D → Store → Res := fnD 2 b__law_minus
theorem p__law_minus (B : BB K mg) {ξ : Xx} (cdv : Value) (A : Around) (outer : List Env) (s : Shared) (H : Hp) (Ex : XK) (hr : Room 1 (A.deeper (envOfC d__law_minus.qual d__law_minus.scope s.heap.objs.size (d__law_minus.at_ (GG K).K) cdv))) :
    PSs (cxOf (L2.CX P w) P w (GG K).K mg base ["_law_x", "_law_y"] d__law_minus.qual d__law_minus.scope (d__law_minus.at_ (GG K).K) cdv A outer s H Ex) d__law_minus.body (dS (GG K) ξ b__law_minus (fun c d' _ H => Ex c d' H)) := by
  have hh : Here (GG K) P w mg base 1 (cxOf (L2.CX P w) P w (GG K).K mg base ["_law_x", "_law_y"] d__law_minus.qual d__law_minus.scope (d__law_minus.at_ (GG K).K) cdv A outer s H Ex) (fun c d' _ H => Ex c d' H) := here_of hr
  exact (dss_one (ds_ret (de_call hh (c__law_frac B) (da_cons (de_op op_iSub (de_op op_iMul (de_ix hh.K (dv_of (de_var 0)) de_int) (de_ix hh.K (dv_of (de_var 1)) de_int)) (de_op op_iMul (de_ix hh.K (dv_of (de_var 1)) de_int) (de_ix hh.K (dv_of (de_var 0)) de_int))) (da_cons (de_op op_iMul (de_ix hh.K (dv_of (de_var 0)) de_int) (de_ix hh.K (dv_of (de_var 1)) de_int)) da_nil)))))
theorem c__law_minus (B : BB K mg) : Cal (GG K) P w mg base 2 "_law_minus" 2 D__law_minus := cal_of (Γ := GG K) (k := 1) (d := d__law_minus) (ξ := ⟨0, .none, none⟩) (body := b__law_minus) B 33 sc__law_minus (k56 B) (p__law_minus B) (fun _ _ _ _ _ _ us hl => match us, hl with | [_, _], _ => rfl)
theorem sc_Ratiod__subd_ : FnScope ["self", "other", "top", "bottom"] ["self", "other"] (defScope s_Ratiod__subd_) := ⟨rfl, rfl, rfl, by decide +kernel, rfl, by decide +kernel, by decide +kernel⟩
noncomputable def b_Ratiod__subd_ : SF := (sSeq (sAsg (tgT 2 (tsCons (tgN 2) (tsCons (tgN 3) tsNil))) (eCall 1 D_parts (aCons (eVar 1) aNil)))
    (sRet (eNew 0 2 [] I_Ratiod__initd_ (aCons (eOp2 iSub (eOp2 iMul (eOp1 (gSlot 0 1) (eVar 0)) (eVar 3)) (eOp2 iMul (eVar 2) (eOp1 (gSlot 0 0) (eVar 0)))) (aCons (eOp2 iMul (eOp1 (gSlot 0 0) (eVar 0)) (eVar 3)) aNil)))))
noncomputable def D_Ratiod__subd_ : List D → Store → Res := fnD 4 b_Ratiod__subd_
theorem p_Ratiod__subd_ (B : BB K mg) {ξ : Xx} (cdv : Value) (A : Around) (outer : List Env) (s : Shared) (H : Hp) (Ex : XK) (hr : Room 4 (A.deeper (envOfC d_Ratiod__subd_.qual d_Ratiod__subd_.scope s.heap.objs.size (d_Ratiod__subd_.at_ (GG K).K) cdv))) :
    PSs (cxOf (L2.CX P w) P w (GG K).K mg base ["self", "other", "top", "bottom"] d_Ratiod__subd_.qual d_Ratiod__subd_.scope (d_Ratiod__subd_.at_ (GG K).K) cdv A outer s H Ex) d_Ratiod__subd_.body (dS (GG K) ξ b_Ratiod__subd_ (fun c d' _ H => Ex c d' H)) := by
  have hh : Here (GG K) P w mg base 4 (cxOf (L2.CX P w) P w (GG K).K mg base ["self", "other", "top", "bottom"] d_Ratiod__subd_.qual d_Ratiod__subd_.scope (d_Ratiod__subd_.at_ (GG K).K) cdv A outer s H Ex) (fun c d' _ H => Ex c d' H) := here_of hr
  exact (dss_cons (ds_asg (de_call hh (c_parts B) (da_cons (de_var 1) da_nil)) (dg_tup hh.K rfl (dgs_cons (dg_name sc_Ratiod__subd_.nd) (dgs_cons (dg_name sc_Ratiod__subd_.nd) dgs_nil))))
    (dss_one (ds_ret (de_new hh (mk_Ratiod__initd__2 B) (da_cons (de_op op_iSub (de_op op_iMul (de_slot hh.K (sl0 B) (st0_up B) (de_var 0)) (de_var 3)) (de_op op_iMul (de_var 2) (de_slot hh.K (sl0 B) (st0_down B) (de_var 0)))) (da_cons (de_op op_iMul (de_slot hh.K (sl0 B) (st0_down B) (de_var 0)) (de_var 3)) da_nil))))))
theorem c_Ratiod__subd_ (B : BB K mg) : CalR (GG K) P w mg base 5 (ma K (ga K "Ratio") "__sub__") 2 D_Ratiod__subd_ := calR_of (Γ := GG K) (k := 4) (d := d_Ratiod__subd_) (ξ := ⟨0, .none, none⟩) (body := b_Ratiod__subd_) B 34 sc_Ratiod__subd_ (p_Ratiod__subd_ B) (fun _ _ _ _ _ _ us hl => match us, hl with | [_, _], _ => rfl)
theorem sc__law_pair_right : FnScope ["_law_x", "_law_y", "_law_one", "_law_other", "_law_told_here", "_law_due", "_law_built", "_law_figure", "_law_spread"] ["_law_x", "_law_y"] (defScope s__law_pair_right) := ⟨rfl, rfl, rfl, by decide +kernel, rfl, by decide +kernel, by decide +kernel⟩
noncomputable def b__law_pair_right : SF := (sSeq (sPar 2 3 (aCons (eNew 0 2 [] I_Ratiod__initd_ (aCons (eOp2 gIx (eVar 0) (eC (.int 0))) (aCons (eOp2 gIx (eVar 0) (eC (.int 1))) aNil))) (aCons (eCall 1 D__law_given (aCons (eVar 1) aNil)) aNil)))
    (sSeq (sAsg (tgN 4) (eLst (aCons (eOp2 (gOwn 0 D_Ratiod__addd_) (eVar 2) (eVar 3)) (aCons (eOp2 (gOwn 0 D_Ratiod__subd_) (eVar 2) (eVar 3)) (aCons (eOp2 (gOwn 0 D_Ratiod__muld_) (eVar 2) (eVar 3)) aNil)))))
    (sSeq (sAsg (tgN 5) (eLst (aCons (eCall 2 D__law_plus (aCons (eVar 0) (aCons (eVar 1) aNil))) (aCons (eCall 2 D__law_minus (aCons (eVar 0) (aCons (eVar 1) aNil))) (aCons (eCall 2 D__law_times (aCons (eVar 0) (aCons (eVar 1) aNil))) aNil)))))
    (sSeq (sFor (itZip (aCons (eVar 4) (aCons (eVar 5) aNil))) (tgT 2 (tsCons (tgN 6) (tsCons (tgN 7) tsNil))) (sIf (eNot (eCall 2 D__law_same (aCons (eVar 6) (aCons (eVar 7) aNil)))) (sRet (eC (.bl false))) sNil))
    (sSeq (sIf (eOp2 gNe (eLst (aCons (eOp2 (gOwnEq [0] 0 D_Ratiod__eqd_) (eVar 2) (eVar 3)) (aCons (eMeth 0 2 D_Ratio_below (eVar 2) (aCons (eVar 3) aNil)) (aCons (eMethK 0 2 1 (fun ds es => ds ++ es) D_Ratio_below (eVar 2) (aCons (eVar 3) aNil)) aNil)))) (eLst (aCons (eOp2 gEq (eVar 0) (eVar 1)) (aCons (eCall 2 D__law_less (aCons (eVar 0) (aCons (eVar 1) aNil))) (aCons (eCall 2 D__law_less (aCons (eVar 0) (aCons (eVar 1) aNil))) aNil))))) (sRet (eC (.bl false))) sNil)
    (sSeq (sIf (eAnd (eOp2 gNe (eOp2 gIx (eVar 1) (eC (.int 0))) (eC (.int 0))) (eNot (eCall 2 D__law_same (aCons (eMeth 0 2 D_Ratio_over (eVar 2) (aCons (eVar 3) aNil)) (aCons (eCall 2 D__law_frac (aCons (eOp2 iMul (eOp2 gIx (eVar 0) (eC (.int 0))) (eOp2 gIx (eVar 1) (eC (.int 1)))) (aCons (eOp2 iMul (eOp2 gIx (eVar 0) (eC (.int 1))) (eOp2 gIx (eVar 1) (eC (.int 0)))) aNil))) aNil))))) (sRet (eC (.bl false))) sNil)
    (sSeq (sIf (eOr (eNot (eCall 2 D__law_same (aCons (eOp1 (gOwn1 0 D_Ratiod__negd_) (eVar 2)) (aCons (eTup (aCons (eOp1 iNeg (eOp2 gIx (eVar 0) (eC (.int 0)))) (aCons (eOp2 gIx (eVar 0) (eC (.int 1))) aNil))) aNil)))) (eOr (eOp2 gNe (eMeth 0 1 D_Ratio_floor (eVar 2) aNil) (eOp2 iDiv (eOp2 gIx (eVar 0) (eC (.int 0))) (eOp2 gIx (eVar 0) (eC (.int 1))))) (eNot (eOp2 (gIsi [0]) (eMeth 0 1 D_Ratio_floor (eVar 2) aNil) (eC (.ty "int")))))) (sRet (eC (.bl false))) sNil)
    (sSeq (sAsg (tgN 8) (eOp2 iAdd (eC (.int 1)) (eOp2 iMod (eOp1 gAbs (eOp2 gIx (eVar 1) (eC (.int 0)))) (eC (.int 7)))))
    (sRet (eAnd (eCall 2 D__law_same (aCons (eNew 0 2 [] I_Ratiod__initd_ (aCons (eOp2 iMul (eOp2 gIx (eVar 0) (eC (.int 0))) (eVar 8)) (aCons (eOp2 iMul (eOp2 gIx (eVar 0) (eC (.int 1))) (eVar 8)) aNil))) (aCons (eVar 0) aNil))) (eCall 2 D__law_same (aCons (eNew 0 2 [] I_Ratiod__initd_ (aCons (eOp2 iMul (eOp1 iNeg (eOp2 gIx (eVar 0) (eC (.int 0)))) (eVar 8)) (aCons (eOp2 iMul (eOp1 iNeg (eOp2 gIx (eVar 0) (eC (.int 1)))) (eVar 8)) aNil))) (aCons (eVar 0) aNil)))))))))))))
noncomputable def D__law_pair_right : List D → Store → Res := fnD 9 b__law_pair_right
theorem p__law_pair_right (B : BB K mg) {ξ : Xx} (cdv : Value) (A : Around) (outer : List Env) (s : Shared) (H : Hp) (Ex : XK) (hr : Room 5 (A.deeper (envOfC d__law_pair_right.qual d__law_pair_right.scope s.heap.objs.size (d__law_pair_right.at_ (GG K).K) cdv))) :
    PSs (cxOf (L2.CX P w) P w (GG K).K mg base ["_law_x", "_law_y", "_law_one", "_law_other", "_law_told_here", "_law_due", "_law_built", "_law_figure", "_law_spread"] d__law_pair_right.qual d__law_pair_right.scope (d__law_pair_right.at_ (GG K).K) cdv A outer s H Ex) d__law_pair_right.body (dS (GG K) ξ b__law_pair_right (fun c d' _ H => Ex c d' H)) := by
  have hh : Here (GG K) P w mg base 5 (cxOf (L2.CX P w) P w (GG K).K mg base ["_law_x", "_law_y", "_law_one", "_law_other", "_law_told_here", "_law_due", "_law_built", "_law_figure", "_law_spread"] d__law_pair_right.qual d__law_pair_right.scope (d__law_pair_right.at_ (GG K).K) cdv A outer s H Ex) (fun c d' _ H => Ex c d' H) := here_of hr
  exact (dss_cons (ds_par rfl sc__law_pair_right.nd (da_cons (de_new hh (mk_Ratiod__initd__2 B) (da_cons (de_ix hh.K (dv_of (de_var 0)) de_int) (da_cons (de_ix hh.K (dv_of (de_var 0)) de_int) da_nil))) (da_cons (de_call hh (c__law_given B) (da_cons (de_var 1) da_nil)) da_nil)))
    (dss_cons (ds_set sc__law_pair_right.nd (de_lst (da_cons (de_op (op_own hh (bnB_ok (k35 B)) (c_Ratiod__addd_ B)) (de_var 2) (de_var 3)) (da_cons (de_op (op_own hh (bnB_ok (k57 B)) (c_Ratiod__subd_ B)) (de_var 2) (de_var 3)) (da_cons (de_op (op_own hh (bnB_ok (k41 B)) (c_Ratiod__muld_ B)) (de_var 2) (de_var 3)) da_nil)))))
    (dss_cons (ds_set sc__law_pair_right.nd (de_lst (da_cons (de_call hh (c__law_plus B) (da_cons (de_var 0) (da_cons (de_var 1) da_nil))) (da_cons (de_call hh (c__law_minus B) (da_cons (de_var 0) (da_cons (de_var 1) da_nil))) (da_cons (de_call hh (c__law_times B) (da_cons (de_var 0) (da_cons (de_var 1) da_nil))) da_nil)))))
    (dss_cons (ds_for (passes_of rfl) rfl (di_zip hh.K (B.free (k47 B)) (da_cons (de_var 4) (da_cons (de_var 5) da_nil))) (dg_tup hh.K rfl (dgs_cons (dg_name sc__law_pair_right.nd) (dgs_cons (dg_name sc__law_pair_right.nd) dgs_nil))) (dss_one (ds_if (dt_not (dt_val (de_call hh (c__law_same B) (da_cons (de_var 6) (da_cons (de_var 7) da_nil))))) (dss_one (ds_ret de_bl)) dss_nil)))
    (dss_cons (ds_if (dt_cmp (op_gNe hh.K hh.u64) (de_lst (da_cons (de_cmp (op_ownEq hh (eqf0 B) (c_Ratiod__eqd_ B)) (de_var 2) (de_var 3)) (da_cons (de_meth hh (sl0 B) (mtB_ok (k54 B)) (c_Ratio_below B) (de_var 2) (da_cons (de_var 3) da_nil)) (da_cons (de_methK hh (sl0 B) (mtB_ok (k54 B)) (kf_Ratio_below B) (fun _ _ _ _ _ r1 r2 => r1.append r2) (de_var 2) (dk_cons (de_var 3) dk_nil)) da_nil)))) (de_lst (da_cons (de_cmp (op_gEq hh.K hh.u64) (de_var 0) (de_var 1)) (da_cons (de_call hh (c__law_less B) (da_cons (de_var 0) (da_cons (de_var 1) da_nil))) (da_cons (de_call hh (c__law_less B) (da_cons (de_var 0) (da_cons (de_var 1) da_nil))) da_nil))))) (dss_one (ds_ret de_bl)) dss_nil)
    (dss_cons (ds_if (PW.pt (dw_and (dt_cmp (op_gNe hh.K hh.u64) (de_ix hh.K (dv_of (de_var 1)) de_int) de_int) (dw_and1 (dt_not (dt_val (de_call hh (c__law_same B) (da_cons (de_meth hh (sl0 B) (mtB_ok (k29 B)) (c_Ratio_over B) (de_var 2) (da_cons (de_var 3) da_nil)) (da_cons (de_call hh (c__law_frac B) (da_cons (de_op op_iMul (de_ix hh.K (dv_of (de_var 0)) de_int) (de_ix hh.K (dv_of (de_var 1)) de_int)) (da_cons (de_op op_iMul (de_ix hh.K (dv_of (de_var 0)) de_int) (de_ix hh.K (dv_of (de_var 1)) de_int)) da_nil))) da_nil)))))))) (dss_one (ds_ret de_bl)) dss_nil)
    (dss_cons (ds_if (PW.pt (dw_or (dt_not (dt_val (de_call hh (c__law_same B) (da_cons (de_un (un_own hh (spB_ok (k53 B)).1 (spB_ok (k53 B)).2 (c_Ratiod__negd_ B)) (de_var 2)) (da_cons (de_tup (da_cons (de_un un_iNeg (de_ix hh.K (dv_of (de_var 0)) de_int)) (da_cons (de_ix hh.K (dv_of (de_var 0)) de_int) da_nil))) da_nil))))) (dw_or (dt_cmp (op_gNe hh.K hh.u64) (de_meth0 hh (sl0 B) (mtB_ok (k52 B)) (c_Ratio_floor B) (de_var 2)) (de_op op_iDiv (de_ix hh.K (dv_of (de_var 0)) de_int) (de_ix hh.K (dv_of (de_var 0)) de_int))) (dw_or1 (dt_not (dt_val (de_b2 (cr_isi hh.K (isf B)) (B.free (k7 B)) (by decide +kernel) (de_meth0 hh (sl0 B) (mtB_ok (k52 B)) (c_Ratio_floor B) (de_var 2)) (de_ty (B.free (k12 B)) (by decide +kernel))))))))) (dss_one (ds_ret de_bl)) dss_nil)
    (dss_cons (ds_set sc__law_pair_right.nd (de_op op_iAdd de_int (de_op op_iMod (de_b1 (cr_abs) (B.free (k21 B)) (by decide +kernel) (dv_of (de_ix hh.K (dv_of (de_var 1)) de_int))) de_int)))
    (dss_one (ds_ret (de_and (de_call hh (c__law_same B) (da_cons (de_new hh (mk_Ratiod__initd__2 B) (da_cons (de_op op_iMul (de_ix hh.K (dv_of (de_var 0)) de_int) (de_var 8)) (da_cons (de_op op_iMul (de_ix hh.K (dv_of (de_var 0)) de_int) (de_var 8)) da_nil))) (da_cons (de_var 0) da_nil))) (de_one (de_call hh (c__law_same B) (da_cons (de_new hh (mk_Ratiod__initd__2 B) (da_cons (de_op op_iMul (de_un un_iNeg (de_ix hh.K (dv_of (de_var 0)) de_int)) (de_var 8)) (da_cons (de_op op_iMul (de_un un_iNeg (de_ix hh.K (dv_of (de_var 0)) de_int)) (de_var 8)) da_nil))) (da_cons (de_var 0) da_nil)))))))))))))))
theorem c__law_pair_right (B : BB K mg) : Cal (GG K) P w mg base 6 "_law_pair_right" 2 D__law_pair_right := cal_of (Γ := GG K) (k := 5) (d := d__law_pair_right) (ξ := ⟨0, .none, none⟩) (body := b__law_pair_right) B 35 sc__law_pair_right (k58 B) (p__law_pair_right B) (fun _ _ _ _ _ _ us hl => match us, hl with | [_, _], _ => rfl)
theorem sc__law_bag : FnScope ["_law_cell_here"] ["_law_cell_here"] (defScope s__law_bag) := ⟨rfl, rfl, rfl, by decide +kernel, rfl, by decide +kernel, by decide +kernel⟩
noncomputable def b__law_bag : SF := (sRet (eCell (aCons (eOp2 gMax (eC (.int 0)) (eOp2 iSub (eVar 0) (eOp2 iPow (eC (.int 10)) (eC (.int 18))))) (aCons (eOp2 iMod (eVar 0) (eC (.int 2147483629))) (aCons (eC (.int 0)) aNil)))))
noncomputable def D__law_bag : List D → Store → Res := fnD 1 b__law_bag
theorem p__law_bag (B : BB K mg) {ξ : Xx} (cdv : Value) (A : Around) (outer : List Env) (s : Shared) (H : Hp) (Ex : XK) (hr : Room 0 (A.deeper (envOfC d__law_bag.qual d__law_bag.scope s.heap.objs.size (d__law_bag.at_ (GG K).K) cdv))) :
    PSs (cxOf (L2.CX P w) P w (GG K).K mg base ["_law_cell_here"] d__law_bag.qual d__law_bag.scope (d__law_bag.at_ (GG K).K) cdv A outer s H Ex) d__law_bag.body (dS (GG K) ξ b__law_bag (fun c d' _ H => Ex c d' H)) := by
  have hh : Here (GG K) P w mg base 0 (cxOf (L2.CX P w) P w (GG K).K mg base ["_law_cell_here"] d__law_bag.qual d__law_bag.scope (d__law_bag.at_ (GG K).K) cdv A outer s H Ex) (fun c d' _ H => Ex c d' H) := here_of hr
  exact (dss_one (ds_ret (de_cell (da_cons (de_b2 (cr_max rfl) (B.free (k24 B)) (by decide +kernel) de_int (de_op op_iSub (de_var 0) (de_op op_iPow de_int de_int))) (da_cons (de_op op_iMod (de_var 0) de_int) (da_cons de_int da_nil))))))
theorem c__law_bag (B : BB K mg) : Cal (GG K) P w mg base 1 "_law_bag" 1 D__law_bag := cal_of (Γ := GG K) (k := 0) (d := d__law_bag) (ξ := ⟨0, .none, none⟩) (body := b__law_bag) B 36 sc__law_bag (k59 B) (p__law_bag B) (fun _ _ _ _ _ _ us hl => match us, hl with | [_], _ => rfl)
theorem sc__law_cell : FnScope ["_law_script", "_law_index"] ["_law_script", "_law_index"] (defScope s__law_cell) := ⟨rfl, rfl, rfl, by decide +kernel, rfl, by decide +kernel, by decide +kernel⟩
noncomputable def b__law_cell : SF := (sSeq (sIf (eOp2 iLt (eVar 1) (eOp1 gLen (eVar 0))) (sRet (eOp2 gIx (eVar 0) (eVar 1))) sNil)
    (sRet (eOp2 iAdd (eOp2 iMul (eC (.int 86028121)) (eVar 1)) (eC (.int 947)))))
noncomputable def D__law_cell : List D → Store → Res := fnD 2 b__law_cell
theorem p__law_cell (B : BB K mg) {ξ : Xx} (cdv : Value) (A : Around) (outer : List Env) (s : Shared) (H : Hp) (Ex : XK) (hr : Room 0 (A.deeper (envOfC d__law_cell.qual d__law_cell.scope s.heap.objs.size (d__law_cell.at_ (GG K).K) cdv))) :
    PSs (cxOf (L2.CX P w) P w (GG K).K mg base ["_law_script", "_law_index"] d__law_cell.qual d__law_cell.scope (d__law_cell.at_ (GG K).K) cdv A outer s H Ex) d__law_cell.body (dS (GG K) ξ b__law_cell (fun c d' _ H => Ex c d' H)) := by
  have hh : Here (GG K) P w mg base 0 (cxOf (L2.CX P w) P w (GG K).K mg base ["_law_script", "_law_index"] d__law_cell.qual d__law_cell.scope (d__law_cell.at_ (GG K).K) cdv A outer s H Ex) (fun c d' _ H => Ex c d' H) := here_of hr
  exact (dss_cons (ds_if (dt_cmp op_iLt (de_var 1) (de_b1 (cr_len hh.K) (B.free (k26 B)) (by decide +kernel) (dv_of (de_var 0)))) (dss_one (ds_ret (de_ix hh.K (dv_of (de_var 0)) (de_var 1)))) dss_nil)
    (dss_one (ds_ret (de_op op_iAdd (de_op op_iMul de_int (de_var 1)) de_int))))
theorem c__law_cell (B : BB K mg) : Cal (GG K) P w mg base 1 "_law_cell" 2 D__law_cell := cal_of (Γ := GG K) (k := 0) (d := d__law_cell) (ξ := ⟨0, .none, none⟩) (body := b__law_cell) B 37 sc__law_cell (k60 B) (p__law_cell B) (fun _ _ _ _ _ _ us hl => match us, hl with | [_, _], _ => rfl)
theorem sc_law : FnScope ["_law_script", "_law_index", "_law_bag_here", "_law_numbers", "_law_lap", "_law_x", "_law_told_here", "_law_odd", "_law_half"] ["_law_script"] (defScope s_law) := ⟨rfl, rfl, rfl, by decide +kernel, rfl, by decide +kernel, by decide +kernel⟩
noncomputable def b_law : SF := (sSeq (sFor (itRange1 (aCons (eOp2 gMax (eC (.int 2)) (eOp2 gMin (eC (.int 6)) (eOp1 gLen (eVar 0)))) aNil)) (tgN 1) (sSeq (sAsg (tgN 2) (eCall 1 D__law_bag (aCons (eCall 2 D__law_cell (aCons (eVar 0) (aCons (eVar 1) aNil))) aNil)))
    (sSeq (sAsg (tgN 3) (eLc [4] (itRange1 (aCons (eOp2 iAdd (eC (.int 1)) (eCall 2 D__law_take (aCons (eVar 2) (aCons (eC (.int 5)) aNil)))) aNil)) (tgN 4) eYes (eCall 1 D__law_number (aCons (eVar 2) aNil))))
    (sSeq (sFor (itSeq (eVar 3)) (tgN 5) (sSeq (sIf (eOr (eNot (eCall 2 D__law_pair_right (aCons (eVar 5) (aCons (eCall 1 D__law_number (aCons (eVar 2) aNil)) aNil)))) (eNot (eCall 2 D__law_pair_right (aCons (eVar 5) (aCons (eVar 5) aNil))))) (sRet (eC (.bl false))) sNil)
    (sSeq (sAsg (tgN 6) (eLst (aCons (eCall 1 D_is_number (aCons (eCall 1 D__law_given (aCons (eVar 5) aNil)) aNil)) (aCons (eCall 1 D_is_amount (aCons (eCall 1 D__law_given (aCons (eVar 5) aNil)) aNil)) (aCons (eCall 1 D_is_amount (aCons (eNew 0 2 [] I_Ratiod__initd_ (aCons (eOp2 gIx (eVar 5) (eC (.int 0))) (aCons (eOp2 gIx (eVar 5) (eC (.int 1))) aNil))) aNil)) aNil)))))
    (sIf (eOr (eOp2 gNe (eVar 6) (eLst (aCons (eC (.bl true)) (aCons (eOp2 iGe (eOp2 gIx (eVar 5) (eC (.int 0))) (eC (.int 0))) (aCons (eOp2 iGe (eOp2 gIx (eVar 5) (eC (.int 0))) (eC (.int 0))) aNil))))) (eNot (eCall 2 D__law_same (aCons (eCall 1 D_as_ratio (aCons (eCall 1 D__law_given (aCons (eVar 5) aNil)) aNil)) (aCons (eVar 5) aNil))))) (sRet (eC (.bl false))) sNil))))
    (sSeq (sIf (eNot (eCall 2 D__law_lists_right (aCons (eVar 2) (aCons (eVar 3) aNil)))) (sRet (eC (.bl false))) sNil)
    (sSeq (sAsg (tgN 7) (eOp2 gIx (eLst (aCons (eC .non) (aCons (eC (.bl true)) (aCons (eC (.bl false)) (aCons (eC (.str "1")) (aCons (eC (.str "1/2")) (aCons (eLst (aCons (eC (.int 1)) aNil)) (aCons (eTup (aCons (eC (.int 1)) (aCons (eC (.int 2)) aNil))) (aCons eDict0 aNil))))))))) (eCall 2 D__law_take (aCons (eVar 2) (aCons (eC (.int 8)) aNil)))))
    (sSeq (sAsg (tgN 8) (eNew 0 2 [] I_Ratiod__initd_ (aCons (eC (.int 1)) (aCons (eOp2 iAdd (eC (.int 2)) (eCall 2 D__law_take (aCons (eVar 2) (aCons (eC (.int 2)) aNil)))) aNil))))
    (sSeq (sIf (eOp2 gNe (eLst (aCons (eOp1 gLen (eCall 3 D__law_caught (aCons (eC (.int 0)) (aCons (eVar 8) (aCons (eC (.int 3)) aNil))))) (aCons (eOp1 gLen (eCall 3 D__law_caught (aCons (eC (.int 0)) (aCons (eC (.int 3)) (aCons (eVar 8) aNil))))) (aCons (eOp1 gLen (eCall 3 D__law_caught (aCons (eC (.int 0)) (aCons (eVar 8) (aCons (eC (.int 0)) aNil))))) aNil)))) (eLst (aCons (eC (.int 2)) (aCons (eC (.int 2)) (aCons (eC (.int 2)) aNil))))) (sRet (eC (.bl false))) sNil)
    (sSeq (sIf (eOr (eNot (eCall 2 D__law_odd_right (aCons (eVar 7) (aCons (eOp2 gIx (eVar 3) (eC (.int 0))) aNil)))) (eNot (eCall 2 D__law_same (aCons (eCall 1 D_total (aCons (eLst aNil) aNil)) (aCons (eTup (aCons (eC (.int 0)) (aCons (eC (.int 1)) aNil))) aNil))))) (sRet (eC (.bl false))) sNil)
    (sIf (eOr (eOp2 gNe (eCall 3 D__law_caught (aCons (eC (.int 0)) (aCons (eOp2 gIx (eOp2 gIx (eVar 3) (eC (.int 0))) (eC (.int 0))) (aCons (eC (.int 0)) aNil)))) (eLst (aCons (eC (.str "zero")) aNil))) (eOp2 gNe (eCall 3 D__law_caught (aCons (eC (.int 1)) (aCons (eC .non) (aCons (eC (.int 0)) aNil)))) (eLst (aCons (eC (.str "zero")) aNil)))) (sRet (eC (.bl false))) sNil))))))))))
    (sRet (eAnd (eCall 2 D__law_same (aCons (eNew 0 2 [.int 1] I_Ratiod__initd_ (aCons (eC (.int 7)) aNil)) (aCons (eTup (aCons (eC (.int 7)) (aCons (eC (.int 1)) aNil))) aNil))) (eCall 2 D__law_same (aCons (eNewK 0 2 2 (fun ds => ds.reverse) I_Ratiod__initd_ (aCons (eOp1 iNeg (eC (.int 4))) (aCons (eC (.int 6)) aNil))) (aCons (eTup (aCons (eOp1 iNeg (eC (.int 3))) (aCons (eC (.int 2)) aNil))) aNil))))))
noncomputable def D_law : List D → Store → Res := fnD 9 b_law
theorem p_law (B : BB K mg) {ξ : Xx} (cdv : Value) (A : Around) (outer : List Env) (s : Shared) (H : Hp) (Ex : XK) (hr : Room 7 (A.deeper (envOfC d_law.qual d_law.scope s.heap.objs.size (d_law.at_ (GG K).K) cdv))) :
    PSs (cxOf (L2.CX P w) P w (GG K).K mg base ["_law_script", "_law_index", "_law_bag_here", "_law_numbers", "_law_lap", "_law_x", "_law_told_here", "_law_odd", "_law_half"] d_law.qual d_law.scope (d_law.at_ (GG K).K) cdv A outer s H Ex) d_law.body (dS (GG K) ξ b_law (fun c d' _ H => Ex c d' H)) := by
  have hh : Here (GG K) P w mg base 7 (cxOf (L2.CX P w) P w (GG K).K mg base ["_law_script", "_law_index", "_law_bag_here", "_law_numbers", "_law_lap", "_law_x", "_law_told_here", "_law_odd", "_law_half"] d_law.qual d_law.scope (d_law.at_ (GG K).K) cdv A outer s H Ex) (fun c d' _ H => Ex c d' H) := here_of hr
  exact (dss_cons (ds_for (passes_of rfl) rfl (di_range1 (da_cons (de_b2 (cr_max rfl) (B.free (k24 B)) (by decide +kernel) de_int (de_b2 (cr_min rfl) (B.free (k25 B)) (by decide +kernel) de_int (de_b1 (cr_len hh.K) (B.free (k26 B)) (by decide +kernel) (dv_of (de_var 0))))) da_nil) (B.free (k27 B))) (dg_name sc_law.nd) (dss_cons (ds_set sc_law.nd (de_call hh (c__law_bag B) (da_cons (de_call hh (c__law_cell B) (da_cons (de_var 0) (da_cons (de_var 1) da_nil))) da_nil)))
    (dss_cons (ds_lcs rfl sc_law.nd (blkOk_by (own := [("_law_lap", 4)]) (by kernel_rfl)) (di_range1 (da_cons (de_op op_iAdd de_int (de_call hh (c__law_take B) (da_cons (de_var 2) (da_cons de_int da_nil)))) da_nil) (B.free (k27 B))) (fun _ _ _ _ _ => (dg_name sc_law.nd)) (fun _ _ _ _ _ => dts_nil) (fun _ _ _ _ _ => (de_call hh.blk (c__law_number B) (da_cons (de_var 2) da_nil))))
    (dss_cons (ds_for (passes_of rfl) rfl (di_seq hh.K (de_var 3)) (dg_name sc_law.nd) (dss_cons (ds_if (PW.pt (dw_or (dt_not (dt_val (de_call hh (c__law_pair_right B) (da_cons (de_var 5) (da_cons (de_call hh (c__law_number B) (da_cons (de_var 2) da_nil)) da_nil))))) (dw_or1 (dt_not (dt_val (de_call hh (c__law_pair_right B) (da_cons (de_var 5) (da_cons (de_var 5) da_nil)))))))) (dss_one (ds_ret de_bl)) dss_nil)
    (dss_cons (ds_set sc_law.nd (de_lst (da_cons (de_call hh (c_is_number B) (da_cons (de_call hh (c__law_given B) (da_cons (de_var 5) da_nil)) da_nil)) (da_cons (de_call hh (c_is_amount B) (da_cons (de_call hh (c__law_given B) (da_cons (de_var 5) da_nil)) da_nil)) (da_cons (de_call hh (c_is_amount B) (da_cons (de_new hh (mk_Ratiod__initd__2 B) (da_cons (de_ix hh.K (dv_of (de_var 5)) de_int) (da_cons (de_ix hh.K (dv_of (de_var 5)) de_int) da_nil))) da_nil)) da_nil)))))
    (dss_one (ds_if (PW.pt (dw_or (dt_cmp (op_gNe hh.K hh.u64) (de_var 6) (de_lst (da_cons de_bl (da_cons (de_cmp op_iGe (de_ix hh.K (dv_of (de_var 5)) de_int) de_int) (da_cons (de_cmp op_iGe (de_ix hh.K (dv_of (de_var 5)) de_int) de_int) da_nil))))) (dw_or1 (dt_not (dt_val (de_call hh (c__law_same B) (da_cons (de_call hh (c_as_ratio B) (da_cons (de_call hh (c__law_given B) (da_cons (de_var 5) da_nil)) da_nil)) (da_cons (de_var 5) da_nil)))))))) (dss_one (ds_ret de_bl)) dss_nil)))))
    (dss_cons (ds_if (dt_not (dt_val (de_call hh (c__law_lists_right B) (da_cons (de_var 2) (da_cons (de_var 3) da_nil))))) (dss_one (ds_ret de_bl)) dss_nil)
    (dss_cons (ds_set sc_law.nd (de_ix hh.K (dv_of (de_lst (da_cons de_non (da_cons de_bl (da_cons de_bl (da_cons de_str (da_cons de_str (da_cons (de_lst (da_cons de_int da_nil)) (da_cons (de_tup (da_cons de_int (da_cons de_int da_nil))) (da_cons de_dict0 da_nil)))))))))) (de_call hh (c__law_take B) (da_cons (de_var 2) (da_cons de_int da_nil)))))
    (dss_cons (ds_set sc_law.nd (de_new hh (mk_Ratiod__initd__2 B) (da_cons de_int (da_cons (de_op op_iAdd de_int (de_call hh (c__law_take B) (da_cons (de_var 2) (da_cons de_int da_nil)))) da_nil))))
    (dss_cons (ds_if (dt_cmp (op_gNe hh.K hh.u64) (de_lst (da_cons (de_b1 (cr_len hh.K) (B.free (k26 B)) (by decide +kernel) (dv_of (de_call hh (c__law_caught B) (da_cons de_int (da_cons (de_var 8) (da_cons de_int da_nil)))))) (da_cons (de_b1 (cr_len hh.K) (B.free (k26 B)) (by decide +kernel) (dv_of (de_call hh (c__law_caught B) (da_cons de_int (da_cons de_int (da_cons (de_var 8) da_nil)))))) (da_cons (de_b1 (cr_len hh.K) (B.free (k26 B)) (by decide +kernel) (dv_of (de_call hh (c__law_caught B) (da_cons de_int (da_cons (de_var 8) (da_cons de_int da_nil)))))) da_nil)))) (de_lst (da_cons de_int (da_cons de_int (da_cons de_int da_nil))))) (dss_one (ds_ret de_bl)) dss_nil)
    (dss_cons (ds_if (PW.pt (dw_or (dt_not (dt_val (de_call hh (c__law_odd_right B) (da_cons (de_var 7) (da_cons (de_ix hh.K (dv_of (de_var 3)) de_int) da_nil))))) (dw_or1 (dt_not (dt_val (de_call hh (c__law_same B) (da_cons (de_call hh (c_total B) (da_cons (de_lst da_nil) da_nil)) (da_cons (de_tup (da_cons de_int (da_cons de_int da_nil))) da_nil)))))))) (dss_one (ds_ret de_bl)) dss_nil)
    (dss_one (ds_if (PW.pt (dw_or (dt_cmp (op_gNe hh.K hh.u64) (de_call hh (c__law_caught B) (da_cons de_int (da_cons (de_ix hh.K (dv_of (de_ix hh.K (dv_of (de_var 3)) de_int)) de_int) (da_cons de_int da_nil)))) (de_lst (da_cons de_str da_nil))) (dw_or1 (dt_cmp (op_gNe hh.K hh.u64) (de_call hh (c__law_caught B) (da_cons de_int (da_cons de_non (da_cons de_int da_nil)))) (de_lst (da_cons de_str da_nil)))))) (dss_one (ds_ret de_bl)) dss_nil)))))))))))
    (dss_one (ds_ret (de_and (de_call hh (c__law_same B) (da_cons (de_new hh (mk_Ratiod__initd__1 B) (da_cons de_int da_nil)) (da_cons (de_tup (da_cons de_int (da_cons de_int da_nil))) da_nil))) (de_one (de_call hh (c__law_same B) (da_cons (de_newK (gD := fun ds => ds.reverse) hh (mkk_Ratiod__initd__bottom_top B) (fun W ds vs r => Reps.rev r) (dk_cons (de_un un_iNeg de_int) (dk_cons de_int dk_nil))) (da_cons (de_tup (da_cons (de_un un_iNeg de_int) (da_cons de_int da_nil))) da_nil))))))))
theorem c_law (B : BB K mg) : Cal (GG K) P w mg base 8 "law" 1 D_law := cal_of (Γ := GG K) (k := 7) (d := d_law) (ξ := ⟨0, .none, none⟩) (body := b_law) B 38 sc_law (k61 B) (p_law B) (fun _ _ _ _ _ _ us hl => match us, hl with | [_], _ => rfl)
end
end K02
set_option Elab.async false
set_option linter.all false
set_option maxRecDepth 100000
set_option maxHeartbeats 2000000
set_option autoImplicit false
namespace K02
open PySem L2 DL
/-! ### Euclid -/
theorem natAbs_fmod_lt (a : Int) {b : Int} (h : b ≠ 0) : (a.fmod b).natAbs < b.natAbs := by
  rw [Int.fmod_eq_emod]
  have h1 := Int.emod_nonneg a h
  have h2 := Int.emod_lt a h
  by_cases hc : 0 ≤ b ∨ b ∣ a
  · rw [if_pos hc]
    omega
  · rw [if_neg hc]
    have h3 : a % b ≠ 0 := fun z => hc (.inr (Int.dvd_of_emod_eq_zero z))
    have h4 : b < 0 := by
      rcases Int.lt_or_le b 0 with q | q
      · exact q
      · exact absurd (.inl q) hc
    omega
theorem gcd_fmod (a b : Int) : Int.gcd b (a.fmod b) = Int.gcd a b := by
  rw [Int.fmod_def, Int.gcd_sub_mul_left_right, Int.gcd_comm]
theorem gcd_w2 {S : Store} : ∀ (m : Nat) (a b : Int), b.natAbs ≤ m → ∃ (n : Nat) (g : Int), g.natAbs = Int.gcd a b ∧
    whileN (eOp2 gNe (eVar 1) (eC (.int 0))) (sPar 0 1 (aCons (eVar 1) (aCons (eOp2 iModN (eVar 0) (eVar 1)) aNil))) n [.val (.int a), .val (.int b)] S = some (.next [.val (.int g), .val (.int 0)] S) := by
  intro m
  induction m with
  | zero =>
    intro a b h
    have hb : b = 0 := by omega
    subst hb
    exact ⟨1, a, by simp, by simp [whileN]⟩
  | succ m ih =>
    intro a b h
    by_cases hb : b = 0
    · subst hb
      exact ⟨1, a, by simp, by simp [whileN]⟩
    · have h1 := natAbs_fmod_lt a hb
      obtain ⟨n, g, e1, e2⟩ := ih b (a.fmod b) (by omega)
      refine ⟨n + 1, g, by rw [e1, gcd_fmod], ?_⟩
      rw [← e2]
      simp [whileN, hb, iModN_ok hb]
theorem gcd_w4 {S : Store} {u v : SD} : ∀ (m : Nat) (a b : Int), b.natAbs ≤ m → ∃ (n : Nat) (g : Int), (g.natAbs = Int.gcd a b ∧ (0 ≤ a → 0 ≤ b → 0 ≤ g)) ∧
    whileN (eOp2 gNe (eVar 3) (eC (.int 0))) (sPar 2 3 (aCons (eVar 3) (aCons (eOp2 iModN (eVar 2) (eVar 3)) aNil))) n [u, v, .val (.int a), .val (.int b)] S = some (.next [u, v, .val (.int g), .val (.int 0)] S) := by
  intro m
  induction m with
  | zero =>
    intro a b h
    have hb : b = 0 := by omega
    subst hb
    exact ⟨1, a, ⟨by simp, fun h _ => h⟩, by simp [whileN]⟩
  | succ m ih =>
    intro a b h
    by_cases hb : b = 0
    · subst hb
      exact ⟨1, a, ⟨by simp, fun h _ => h⟩, by simp [whileN]⟩
    · have h1 := natAbs_fmod_lt a hb
      obtain ⟨n, g, ⟨e1, e3⟩, e2⟩ := ih b (a.fmod b) (by omega)
      refine ⟨n + 1, g, ⟨by rw [e1, gcd_fmod], fun ha hb => e3 hb (Int.fmod_nonneg ha hb)⟩, ?_⟩
      rw [← e2]
      simp [whileN, hb, iModN_ok hb]
theorem abs_eq (g : Int) : (if g < 0 then -g else g) = (g.natAbs : Int) := by omega
theorem cd_eval {S : Store} (a b : Int) : D_common_divisor [.int a, .int b] S = .ok (.int (Int.gcd a b)) S := by
  obtain ⟨n, g, e1, e2⟩ := gcd_w2 (S := S) b.natAbs a b (Nat.le_refl _)
  unfold D_common_divisor b_common_divisor
  simp [fnD_eq, startD, sWhile_eq e2, abs_eq, e1]
/-! ### fractions -/
abbrev Q2 := Int × Int
def pc (a b : Int) : Int := if 0 < b then (Int.gcd a b : Int) else -(Int.gcd a b : Int)
def nf (a b : Int) : Q2 := (a.fdiv (pc a b), b.fdiv (pc a b))
def fr (x : Q2) : D := .tup [.int x.1, .int x.2]
def rt (x : Q2) : D := .obj 0 [.int x.2, .int x.1]
structure Fq (n : Nat) (x : Q2) : Prop where
  pos : 0 < x.2
  cop : Int.gcd x.1 x.2 = 1
  s1 : x.1.natAbs < 2 ^ n
  s2 : x.2.natAbs < 2 ^ n
theorem pc_abs (a b : Int) : (pc a b).natAbs = Int.gcd a b := by
  unfold pc
  split <;> omega
theorem pc_ne {a b : Int} (h : b ≠ 0) : pc a b ≠ 0 := by
  have := Int.gcd_pos_of_ne_zero_right a h
  have := pc_abs a b
  omega
theorem pc_small {a b : Int} (h : b ≠ 0) (hs : b.natAbs < 2 ^ 8000) : bits (pc a b) < 9000 := by
  refine bits_small ?_
  rw [pc_abs]
  exact Nat.lt_of_le_of_lt (Int.gcd_le_natAbs_right a h) hs
theorem fr_eq (x : Q2) : D.tup [.int x.1, .int x.2] = fr x := rfl
theorem frac_eval {S : Store} {a b : Int} (h : b ≠ 0) (hs : b.natAbs < 2 ^ 8000) : D__law_frac [.int a, .int b] S = .ok (fr (nf a b)) S := by
  obtain ⟨n, g, ⟨e1, e3⟩, e2⟩ := gcd_w4 (S := S) (u := .val (.int a)) (v := .val (.int b)) b.natAbs (if a < 0 then -a else a) (if b < 0 then -b else b) (by split <;> omega)
  have eg : g = (Int.gcd a b : Int) := by
    have h0 : 0 ≤ g := e3 (by split <;> omega) (by split <;> omega)
    rw [abs_eq, abs_eq] at e1
    have : Int.gcd (a.natAbs : Int) (b.natAbs : Int) = Int.gcd a b := rfl
    omega
  subst eg
  have n0 := pc_ne (a := a) h
  have n1 := pc_small (a := a) h hs
  unfold D__law_frac b__law_frac
  have key : ∀ q : Int, (if 0 < b then (Int.gcd a b : Int) else -(Int.gcd a b : Int)) = q → q ≠ 0 → bits q < 9000 → True := fun _ _ _ _ => trivial
  by_cases hb : 0 < b
  · have ep : pc a b = (Int.gcd a b : Int) := if_pos hb
    rw [ep] at n0 n1
    simp [fnD_eq, startD, sWhile_eq e2, hb, iDivN_ok n0 n1, fr, nf, ep]
  · have ep : pc a b = -(Int.gcd a b : Int) := if_neg hb
    rw [ep] at n0 n1
    simp [fnD_eq, startD, sWhile_eq e2, hb, iDivN_ok n0 n1, fr, nf, ep]
theorem isint_int {S : Store} (a : Int) : D_is_integer [.int a] S = .ok (.bl true) S := by
  unfold D_is_integer b_is_integer
  simp [fnD_eq, startD]
theorem init_eval {S : Store} {a b : Int} (h : b ≠ 0) (hs : b.natAbs < 2 ^ 8000) : I_Ratiod__initd_ [.int a, .int b] S = .ok [.int (nf a b).2, .int (nf a b).1] S := by
  have n0 := pc_ne (a := a) h
  have n1 := pc_small (a := a) h hs
  unfold I_Ratiod__initd_ b_Ratiod__initd_
  by_cases hb : 0 < b
  · have ep : pc a b = (Int.gcd a b : Int) := if_pos hb
    rw [ep] at n0 n1
    simp [initD_eq, startI, isint_int, cd_eval, h, hb, iDivN_ok n0 n1, nf, ep, isSlf, ord, sNil]
  · have ep : pc a b = -(Int.gcd a b : Int) := if_neg hb
    rw [ep] at n0 n1
    simp [initD_eq, startI, isint_int, cd_eval, h, hb, iDivN_ok n0 n1, nf, ep, isSlf, ord, sNil]
theorem new_eval {S : Store} {a b : Int} (h : b ≠ 0) (hs : b.natAbs < 2 ^ 8000) : newD 0 2 I_Ratiod__initd_ [.int a, .int b] S = .ok (rt (nf a b)) S := by
  simp [newD, init_eval h hs, rt]
theorem dvd_a (a b : Int) : (Int.gcd a b : Int) ∣ a := Int.gcd_dvd_left a b
theorem dvd_b (a b : Int) : (Int.gcd a b : Int) ∣ b := Int.gcd_dvd_right a b
theorem nf_pos {a b : Int} (h : 0 < b) : nf a b = (a / (Int.gcd a b : Int), b / (Int.gcd a b : Int)) := by
  unfold nf pc
  rw [if_pos h, Int.fdiv_eq_ediv_of_dvd (dvd_a a b), Int.fdiv_eq_ediv_of_dvd (dvd_b a b)]
theorem nf_neg {a b : Int} (h : b < 0) : nf a b = nf (-a) (-b) := by
  unfold nf pc
  rw [if_neg (by omega), if_pos (by omega), Int.gcd_neg, Int.neg_gcd, ← Int.neg_fdiv_neg a, ← Int.neg_fdiv_neg b, Int.neg_neg]
theorem nf_ok' {n : Nat} {a b : Int} (h : 0 < b) (ha : a.natAbs < 2 ^ n) (hb : b.natAbs < 2 ^ n) : Fq n (nf a b) := by
  rw [nf_pos h]
  have g0 : 0 < Int.gcd a b := Int.gcd_pos_of_ne_zero_right a (by omega)
  refine ⟨?_, Int.gcd_ediv_gcd_ediv_gcd g0, Nat.lt_of_le_of_lt (Int.natAbs_ediv_le_natAbs a _) ha, Nat.lt_of_le_of_lt (Int.natAbs_ediv_le_natAbs b _) hb⟩
  show 0 < b / (Int.gcd a b : Int)
  exact Int.ediv_pos_of_pos_of_dvd h (by omega) (dvd_b a b)
theorem nf_ok {n : Nat} {a b : Int} (h : b ≠ 0) (ha : a.natAbs < 2 ^ n) (hb : b.natAbs < 2 ^ n) : Fq n (nf a b) := by
  rcases Int.lt_or_gt_of_ne h with q | q
  · rw [nf_neg q]
    exact nf_ok' (by omega) (by omega) (by omega)
  · exact nf_ok' q ha hb
theorem nf_id {x : Q2} (h : 0 < x.2) (hc : Int.gcd x.1 x.2 = 1) : nf x.1 x.2 = x := by
  rw [nf_pos h, hc]
  simp
theorem nf_mul {x : Q2} {s : Int} (h : 0 < x.2) (hc : Int.gcd x.1 x.2 = 1) (hs : 0 < s) : nf (x.1 * s) (x.2 * s) = x := by
  have e : (Int.gcd (x.1 * s) (x.2 * s) : Int) = s := by
    rw [Int.gcd_mul_right, hc]
    omega
  rw [nf_pos (Int.mul_pos h hs), e, Int.mul_ediv_cancel _ (by omega), Int.mul_ediv_cancel _ (by omega)]
theorem nf_mulN {x : Q2} {s : Int} (h : 0 < x.2) (hc : Int.gcd x.1 x.2 = 1) (hs : 0 < s) : nf (-x.1 * s) (-x.2 * s) = x := by
  have := Int.mul_pos h hs
  rw [Int.neg_mul, Int.neg_mul, nf_neg (by omega), Int.neg_neg, Int.neg_neg]
  exact nf_mul h hc hs
theorem Fq.mono {n m : Nat} {x : Q2} (h : Fq n x) (l : n ≤ m) : Fq m x := ⟨h.pos, h.cop, Nat.lt_of_lt_of_le h.s1 (Nat.pow_le_pow_right (by decide) l), Nat.lt_of_lt_of_le h.s2 (Nat.pow_le_pow_right (by decide) l)⟩
end K02
set_option Elab.async false
set_option linter.all false
set_option maxRecDepth 100000
set_option maxHeartbeats 2000000
set_option autoImplicit false
namespace K02
open PySem L2 DL
/-! ### operations -/
def Num (y : D) (x : Q2) : Prop := y = rt x ∨ (y = .int x.1 ∧ x.2 = 1)
def pl (x z : Q2) : Q2 := nf (x.1 * z.2 + z.1 * x.2) (x.2 * z.2)
def mn (x z : Q2) : Q2 := nf (x.1 * z.2 - z.1 * x.2) (x.2 * z.2)
def ti (x z : Q2) : Q2 := nf (x.1 * z.1) (x.2 * z.2)
def ov (x z : Q2) : Q2 := nf (x.1 * z.2) (x.2 * z.1)
theorem mM {S : Store} {i j : Int} (h1 : i.natAbs < 2 ^ 8000) (h2 : j.natAbs < 2 ^ 8000) : iMul (.int i) (.int j) S = .ok (.int (i * j)) S := by
  refine iMul_ok ?_
  have := bits_small h1
  have := bits_small h2
  omega
theorem up8 {n : Nat} {i : Int} (h : i.natAbs < 2 ^ n) (l : n ≤ 8000) : i.natAbs < 2 ^ 8000 := Nat.lt_of_lt_of_le h (Nat.pow_le_pow_right (by decide) l)
theorem upn {n m : Nat} {i : Int} (h : i.natAbs < 2 ^ n) (l : n ≤ m) : i.natAbs < 2 ^ m := Nat.lt_of_lt_of_le h (Nat.pow_le_pow_right (by decide) l)
theorem mul_lt {n m : Nat} {i j : Int} (h1 : i.natAbs < 2 ^ n) (h2 : j.natAbs < 2 ^ m) : (i * j).natAbs < 2 ^ (n + m) := by
  rw [Int.natAbs_mul, Nat.pow_add]
  exact Nat.mul_lt_mul'' h1 h2
theorem add_lt {n : Nat} {i j : Int} (h1 : i.natAbs < 2 ^ n) (h2 : j.natAbs < 2 ^ n) : (i + j).natAbs < 2 ^ (n + 1) := by
  have := Int.natAbs_add_le i j
  rw [Nat.pow_succ]
  omega
theorem sub_lt {n : Nat} {i j : Int} (h1 : i.natAbs < 2 ^ n) (h2 : j.natAbs < 2 ^ n) : (i - j).natAbs < 2 ^ (n + 1) := by
  have := Int.natAbs_sub_le i j
  rw [Nat.pow_succ]
  omega
section
variable {S : Store} {n m : Nat} {x z : Q2} {y : D}
theorem pl_ok (hx : Fq n x) (hz : Fq m z) : Fq (n + m + 1) (pl x z) := by
  refine nf_ok (Int.ne_of_gt (Int.mul_pos hx.pos hz.pos)) (add_lt (mul_lt hx.s1 hz.s2) ?_) (upn (mul_lt hx.s2 hz.s2) (by omega))
  rw [Nat.add_comm]
  exact mul_lt hz.s1 hx.s2
theorem mn_ok (hx : Fq n x) (hz : Fq m z) : Fq (n + m + 1) (mn x z) := by
  refine nf_ok (Int.ne_of_gt (Int.mul_pos hx.pos hz.pos)) (sub_lt (mul_lt hx.s1 hz.s2) ?_) (upn (mul_lt hx.s2 hz.s2) (by omega))
  rw [Nat.add_comm]
  exact mul_lt hz.s1 hx.s2
theorem ti_ok (hx : Fq n x) (hz : Fq m z) : Fq (n + m) (ti x z) := nf_ok (Int.ne_of_gt (Int.mul_pos hx.pos hz.pos)) (mul_lt hx.s1 hz.s1) (mul_lt hx.s2 hz.s2)
theorem den_ne (hx : Fq n x) (hz : Fq m z) : x.2 * z.2 ≠ 0 := Int.ne_of_gt (Int.mul_pos hx.pos hz.pos)
theorem den_s (hx : Fq n x) (hz : Fq m z) (h : n + m ≤ 8000) : (x.2 * z.2).natAbs < 2 ^ 8000 := up8 (mul_lt hx.s2 hz.s2) h
theorem top_eval : D_Ratio_top [rt x] S = .ok (.int x.1) S := by
  unfold D_Ratio_top b_Ratio_top rt
  simp [fnD_eq, startD]
theorem bottom_eval : D_Ratio_bottom [rt x] S = .ok (.int x.2) S := by
  unfold D_Ratio_bottom b_Ratio_bottom rt
  simp [fnD_eq, startD]
theorem gProp_top : gProp 0 D_Ratio_top (rt x) S = .ok (.int x.1) S := by
  have := top_eval (x := x) (S := S)
  unfold rt at this ⊢
  simp [this]
theorem gProp_bot : gProp 0 D_Ratio_bottom (rt x) S = .ok (.int x.2) S := by
  have := bottom_eval (x := x) (S := S)
  unfold rt at this ⊢
  simp [this]
theorem slot_up : gSlot 0 1 (rt x) S = .ok (.int x.1) S := by simp [rt]
theorem slot_dn : gSlot 0 0 (rt x) S = .ok (.int x.2) S := by simp [rt]
theorem isi_rt : gIsi [0] (rt x) (.cls 0) S = .ok (.bl true) S := by simp [rt]
theorem parts_rt : D_parts [rt x] S = .ok (fr x) S := by
  unfold D_parts b_parts
  simp [fnD_eq, startD, isi_rt, gProp_top, gProp_bot, fr]
theorem parts_int {i : Int} : D_parts [.int i] S = .ok (fr (i, 1)) S := by
  unfold D_parts b_parts
  simp [fnD_eq, startD, fr, sNil]
theorem parts_num (h : Num y x) : D_parts [y] S = .ok (fr x) S := by
  rcases h with rfl | ⟨rfl, e⟩
  · exact parts_rt
  · obtain ⟨a, b⟩ := x
    subst e
    exact parts_int
theorem told_eval : D__law_told [rt x] S = .ok (fr x) S := by
  unfold D__law_told b__law_told
  simp [fnD_eq, startD, gProp_top, gProp_bot, fr]
theorem same_eval : D__law_same [rt x, fr z] S = .ok (.bl (decide (x.1 = z.1) && decide (x.2 = z.2))) S := by
  unfold D__law_same b__law_same
  simp [fnD_eq, startD, isi_rt, told_eval]
  simp [fr]
theorem same_self : D__law_same [rt x, fr x] S = .ok (.bl true) S := by
  rw [same_eval]
  simp
theorem ix0 : gIx (fr x) (.int 0) S = .ok (.int x.1) S := by simp [fr]
theorem ix1 : gIx (fr x) (.int 1) S = .ok (.int x.2) S := by simp [fr]
theorem tg2 {es : List SD} {i j : Nat} : tgT 2 (tsCons (tgN i) (tsCons (tgN j) tsNil)) (fr x) es = some ((es.set i (.val (.int x.1))).set j (.val (.int x.2))) := by simp [fr]
theorem given_eval (hx : Fq n x) (h : n ≤ 8000) : ∃ y, Num y x ∧ D__law_given [fr x] S = .ok y S := by
  by_cases h1 : x.2 = 1
  · refine ⟨.int x.1, .inr ⟨rfl, h1⟩, ?_⟩
    unfold D__law_given b__law_given
    simp [fnD_eq, startD, ix0, ix1, h1]
  · refine ⟨rt x, .inl rfl, ?_⟩
    have e := new_eval (S := S) (a := x.1) (b := x.2) (Int.ne_of_gt hx.pos) (up8 hx.s2 h)
    rw [nf_id hx.pos hx.cop] at e
    unfold D__law_given b__law_given
    simp [fnD_eq, startD, ix0, ix1, h1, e]
theorem add_eval (hx : Fq n x) (hz : Fq m z) (hy : Num y z) (h : n + m ≤ 8000) : D_Ratiod__addd_ [rt x, y] S = .ok (rt (pl x z)) S := by
  unfold D_Ratiod__addd_ b_Ratiod__addd_
  simp [fnD_eq, startD, parts_num hy, tg2, slot_up, slot_dn, mM (up8 hx.s1 (by omega)) (up8 hz.s2 (by omega)), mM (up8 hz.s1 (by omega)) (up8 hx.s2 (by omega)), mM (up8 hx.s2 (by omega)) (up8 hz.s2 (by omega)), new_eval (den_ne hx hz) (den_s hx hz h), pl]
theorem sub_eval (hx : Fq n x) (hz : Fq m z) (hy : Num y z) (h : n + m ≤ 8000) : D_Ratiod__subd_ [rt x, y] S = .ok (rt (mn x z)) S := by
  unfold D_Ratiod__subd_ b_Ratiod__subd_
  simp [fnD_eq, startD, parts_num hy, tg2, slot_up, slot_dn, mM (up8 hx.s1 (by omega)) (up8 hz.s2 (by omega)), mM (up8 hz.s1 (by omega)) (up8 hx.s2 (by omega)), mM (up8 hx.s2 (by omega)) (up8 hz.s2 (by omega)), new_eval (den_ne hx hz) (den_s hx hz h), mn]
theorem mul_eval (hx : Fq n x) (hz : Fq m z) (hy : Num y z) (h : n + m ≤ 8000) : D_Ratiod__muld_ [rt x, y] S = .ok (rt (ti x z)) S := by
  unfold D_Ratiod__muld_ b_Ratiod__muld_
  simp [fnD_eq, startD, parts_num hy, tg2, slot_up, slot_dn, mM (up8 hx.s1 (by omega)) (up8 hz.s1 (by omega)), mM (up8 hx.s2 (by omega)) (up8 hz.s2 (by omega)), new_eval (den_ne hx hz) (den_s hx hz h), ti]
theorem over_eval (hx : Fq n x) (hz : Fq m z) (hy : Num y z) (h : n + m ≤ 8000) (h0 : z.1 ≠ 0) : D_Ratio_over [rt x, y] S = .ok (rt (ov x z)) S := by
  have hd : x.2 * z.1 ≠ 0 := Int.mul_ne_zero (Int.ne_of_gt hx.pos) h0
  unfold D_Ratio_over b_Ratio_over
  simp [fnD_eq, startD, parts_num hy, tg2, slot_up, slot_dn, mM (up8 hx.s1 (by omega)) (up8 hz.s2 (by omega)), mM (up8 hx.s2 (by omega)) (up8 hz.s1 (by omega)), new_eval hd (up8 (mul_lt hx.s2 hz.s1) h), ov]
theorem neg_eval (hx : Fq n x) (h : n ≤ 8000) : D_Ratiod__negd_ [rt x] S = .ok (rt (-x.1, x.2)) S := by
  have e := new_eval (S := S) (a := -x.1) (b := x.2) (Int.ne_of_gt hx.pos) (up8 hx.s2 h)
  have e2 : nf (-x.1) x.2 = (-x.1, x.2) := nf_id (x := (-x.1, x.2)) hx.pos (by show Int.gcd (-x.1) x.2 = 1; rw [Int.neg_gcd]; exact hx.cop)
  rw [e2] at e
  unfold D_Ratiod__negd_ b_Ratiod__negd_
  simp [fnD_eq, startD, slot_up, slot_dn, e]
theorem below_eval (hx : Fq n x) (hz : Fq m z) (hy : Num y z) (h : n + m ≤ 8000) : D_Ratio_below [rt x, y] S = .ok (.bl (decide (x.1 * z.2 < z.1 * x.2))) S := by
  unfold D_Ratio_below b_Ratio_below
  simp [fnD_eq, startD, parts_num hy, tg2, slot_up, slot_dn, mM (up8 hx.s1 (by omega)) (up8 hz.s2 (by omega)), mM (up8 hz.s1 (by omega)) (up8 hx.s2 (by omega))]
theorem floor_eval (hx : Fq n x) (h : n ≤ 8000) : D_Ratio_floor [rt x] S = .ok (.int (x.1 / x.2)) S := by
  unfold D_Ratio_floor b_Ratio_floor
  simp [fnD_eq, startD, slot_up, slot_dn, iDiv_ok hx.pos (bits_small (up8 hx.s2 h))]
theorem plus_eval (hx : Fq n x) (hz : Fq m z) (h : n + m ≤ 8000) : D__law_plus [fr x, fr z] S = .ok (fr (pl x z)) S := by
  unfold D__law_plus b__law_plus
  simp [fnD_eq, startD, ix0, ix1, mM (up8 hx.s1 (by omega)) (up8 hz.s2 (by omega)), mM (up8 hz.s1 (by omega)) (up8 hx.s2 (by omega)), mM (up8 hx.s2 (by omega)) (up8 hz.s2 (by omega)), frac_eval (den_ne hx hz) (den_s hx hz h), pl]
theorem minus_eval (hx : Fq n x) (hz : Fq m z) (h : n + m ≤ 8000) : D__law_minus [fr x, fr z] S = .ok (fr (mn x z)) S := by
  unfold D__law_minus b__law_minus
  simp [fnD_eq, startD, ix0, ix1, mM (up8 hx.s1 (by omega)) (up8 hz.s2 (by omega)), mM (up8 hz.s1 (by omega)) (up8 hx.s2 (by omega)), mM (up8 hx.s2 (by omega)) (up8 hz.s2 (by omega)), frac_eval (den_ne hx hz) (den_s hx hz h), mn]
theorem times_eval (hx : Fq n x) (hz : Fq m z) (h : n + m ≤ 8000) : D__law_times [fr x, fr z] S = .ok (fr (ti x z)) S := by
  unfold D__law_times b__law_times
  simp [fnD_eq, startD, ix0, ix1, mM (up8 hx.s1 (by omega)) (up8 hz.s1 (by omega)), mM (up8 hx.s2 (by omega)) (up8 hz.s2 (by omega)), frac_eval (den_ne hx hz) (den_s hx hz h), ti]
theorem less_eval (hx : Fq n x) (hz : Fq m z) (h : n + m ≤ 8000) : D__law_less [fr x, fr z] S = .ok (.bl (decide (x.1 * z.2 < z.1 * x.2))) S := by
  unfold D__law_less b__law_less
  simp [fnD_eq, startD, ix0, ix1, mM (up8 hx.s1 (by omega)) (up8 hz.s2 (by omega)), mM (up8 hz.s1 (by omega)) (up8 hx.s2 (by omega))]
theorem isnum_num (h : Num y x) : D_is_number [y] S = .ok (.bl true) S := by
  unfold D_is_number b_is_number
  rcases h with rfl | ⟨rfl, _⟩
  · simp [fnD_eq, startD, isi_rt]
  · simp [fnD_eq, startD, isint_int]
theorem eq_eval (hy : Num y z) : D_Ratiod__eqd_ [rt x, y] S = .ok (.bl (decide (x.1 = z.1) && decide (x.2 = z.2))) S := by
  unfold D_Ratiod__eqd_ b_Ratiod__eqd_
  simp [fnD_eq, startD, isnum_num hy, sNil, slot_up, slot_dn, parts_num hy]
  simp [fr]
theorem ownEq_num (hy : Num y z) : gOwnEq [0] 0 D_Ratiod__eqd_ (rt x) y S = .ok (.bl (decide (x.1 = z.1) && decide (x.2 = z.2))) S := by
  have e := eq_eval (S := S) (x := x) hy
  rcases hy with rfl | ⟨rfl, _⟩
  · unfold gOwnEq
    simp [rt, kind] at e ⊢
    exact e
  · unfold gOwnEq
    simp [rt, kind] at e ⊢
    exact e
theorem own_num {den : List D → Store → Res} {d : D} {S' : Store} (hy : Num y z) (e : den [rt x, y] S = .ok d S') : gOwn 0 den (rt x) y S = .ok d S' := by
  rcases hy with rfl | ⟨rfl, _⟩
  · unfold rt at e ⊢
    simp [e]
  · unfold rt at e ⊢
    simp [e]
end
end K02
set_option Elab.async false
set_option linter.all false
set_option maxRecDepth 100000
set_option maxHeartbeats 4000000
set_option autoImplicit false
namespace K02
open PySem L2 DL
section
variable {S : Store} {n m : Nat} {x z : Q2} {y : D}
theorem forL_cons {t : TF} {b : SF} {d : D} {ds : List D} {es : List SD} : forL t b (d :: ds) es S = match t d es with
    | none => .bad
    | some es1 => match b es1 S with
      | .next es2 S2 => forL t b ds es2 S2
      | .ct es2 S2 => forL t b ds es2 S2
      | .brk es2 S2 => .next es2 S2
      | r => r := rfl
theorem isObj_rt : isObj 0 (rt x) = true := rfl
theorem own1_rt {den : List D → Store → Res} : gOwn1 0 den (rt x) S = den [rt x] S := by simp [rt]
theorem gEq_frs : gEq (fr x) (fr z) S = .ok (.bl (decide (x.1 = z.1) && decide (x.2 = z.2))) S := by simp [fr]
theorem fr_fold {a b : Int} : D.tup [.int a, .int b] = fr (a, b) := rfl
theorem new_id (hx : Fq n x) (h : n ≤ 8000) : newD 0 2 I_Ratiod__initd_ [.int x.1, .int x.2] S = .ok (rt x) S := by
  rw [new_eval (Int.ne_of_gt hx.pos) (up8 hx.s2 h), nf_id hx.pos hx.cop]
theorem over_law (hx : Fq n x) (hz : Fq m z) (h : n + m ≤ 8000) (h0 : z.1 ≠ 0) : D__law_frac [.int (x.1 * z.2), .int (x.2 * z.1)] S = .ok (fr (ov x z)) S := frac_eval (Int.mul_ne_zero (Int.ne_of_gt hx.pos) h0) (up8 (mul_lt hx.s2 hz.s1) h)
theorem pair_eval (hx : Fq n x) (hz : Fq m z) (h : n + m + 3 ≤ 8000) : D__law_pair_right [fr x, fr z] S = .ok (.bl true) S := by
  obtain ⟨y, hy, ey⟩ := given_eval (S := S) hz (by omega)
  have hs0 : (0 : Int) < 1 + (if z.1 < 0 then -z.1 else z.1) % 7 := by
    have := Int.emod_nonneg (if z.1 < 0 then -z.1 else z.1) (by decide : (7 : Int) ≠ 0)
    omega
  have hs1 : (1 + (if z.1 < 0 then -z.1 else z.1) % 7).natAbs < 2 ^ 3 := by
    have := Int.emod_lt_of_pos (if z.1 < 0 then -z.1 else z.1) (by decide : (0 : Int) < 7)
    have := Int.emod_nonneg (if z.1 < 0 then -z.1 else z.1) (by decide : (7 : Int) ≠ 0)
    omega
  have e7 := iMod_ok (S := S) (i := if z.1 < 0 then -z.1 else z.1) (j := 7) (by decide)
  generalize hs : 1 + (if z.1 < 0 then -z.1 else z.1) % 7 = s at hs0 hs1
  have hx8 : x.1.natAbs < 2 ^ 8000 := up8 hx.s1 (by omega)
  have hx9 : x.2.natAbs < 2 ^ 8000 := up8 hx.s2 (by omega)
  have hz8 : z.1.natAbs < 2 ^ 8000 := up8 hz.s1 (by omega)
  have hz9 : z.2.natAbs < 2 ^ 8000 := up8 hz.s2 (by omega)
  have hs8 : s.natAbs < 2 ^ 8000 := up8 hs1 (by omega)
  have hn8 : (-x.1).natAbs < 2 ^ 8000 := by rw [Int.natAbs_neg]; exact hx8
  have hn9 : (-x.2).natAbs < 2 ^ 8000 := by rw [Int.natAbs_neg]; exact hx9
  have d1 : x.2 * s ≠ 0 := Int.ne_of_gt (Int.mul_pos hx.pos hs0)
  have d2 : -x.2 * s ≠ 0 := by rw [Int.neg_mul]; omega
  have b1 : (x.2 * s).natAbs < 2 ^ 8000 := up8 (mul_lt hx.s2 hs1) (by omega)
  have b2 : (-x.2 * s).natAbs < 2 ^ 8000 := by rw [Int.neg_mul, Int.natAbs_neg]; exact b1
  have n1 := new_eval (S := S) (a := x.1 * s) d1 b1
  have n2 := new_eval (S := S) (a := -x.1 * s) d2 b2
  rw [nf_mul hx.pos hx.cop hs0] at n1
  rw [nf_mulN hx.pos hx.cop hs0] at n2
  have nm : n + m ≤ 8000 := by omega
  have n8 : n ≤ 8000 := by omega
  unfold D__law_pair_right b__law_pair_right
  by_cases h0 : z.1 = 0
  · have es : s = 1 := by
      rw [← hs, h0]
      rfl
    subst es
    have n3 : newD 0 2 I_Ratiod__initd_ [.int (-x.1), .int (-x.2)] S = .ok (rt x) S := by simpa using n2
    simp [fnD_eq, startD, sNil, ix0, ix1, new_id hx n8, ey, own_num hy (add_eval hx hz hy nm), own_num hy (sub_eval hx hz hy nm), own_num hy (mul_eval hx hz hy nm), plus_eval hx hz nm, minus_eval hx hz nm, times_eval hx hz nm,
      forL_cons, same_self, ownEq_num hy, isObj_rt, below_eval hx hz hy nm, less_eval hx hz nm, gEq_frs, own1_rt, neg_eval hx n8, floor_eval hx n8, iDiv_ok hx.pos (bits_small hx9), fr_fold, iMod_ok (S := S) (i := 0) (j := 7) (by decide), mM hx8 hs8, mM hx9 hs8, mM hn8 hs8, mM hn9 hs8, n3, h0]
  · simp [fnD_eq, startD, sNil, ix0, ix1, new_id hx n8, ey, own_num hy (add_eval hx hz hy nm), own_num hy (sub_eval hx hz hy nm), own_num hy (mul_eval hx hz hy nm), plus_eval hx hz nm, minus_eval hx hz nm, times_eval hx hz nm,
      forL_cons, same_self, ownEq_num hy, isObj_rt, below_eval hx hz hy nm, less_eval hx hz nm, gEq_frs, own1_rt, neg_eval hx n8, floor_eval hx n8, iDiv_ok hx.pos (bits_small hx9), fr_fold, e7, hs, mM hx8 hs8, mM hx9 hs8, mM hn8 hs8, mM hn9 hs8, n1, n2, h0, over_eval hx hz hy nm h0, mM hx8 hz9, mM hx9 hz8, over_law hx hz nm h0]
end
end K02
set_option Elab.async false
set_option linter.all false
set_option maxRecDepth 100000
set_option maxHeartbeats 4000000
set_option autoImplicit false
namespace K02
open PySem L2 DL
/-! ### the bag -/
def Bag (S : Store) (c : Nat) (k : Int) : Prop := ∃ a b r : Int, S[c]? = some [.int a, .int b, .int r] ∧ 0 ≤ a ∧ 0 ≤ b ∧ b < 2147483648 ∧ 0 ≤ r ∧ r ≤ k
section
variable {S S1 : Store} {c : Nat} {k : Int} {n m : Nat} {x z : Q2} {y : D}
theorem Bag.mono {l : Int} (h : Bag S c k) (hl : k ≤ l) : Bag S c l := by
  obtain ⟨a, b, r, h1, h2, h3, h4, h5, h6⟩ := h
  exact ⟨a, b, r, h1, h2, h3, h4, h5, by omega⟩
theorem get_set {ds fs : List D} (h : S[c]? = some ds) : (S.set c fs)[c]? = some fs := List.getElem?_set_self (List.getElem?_eq_some_iff.mp h).1
theorem sStore_eq {fo fi fe : EF} {es : List SD} : sStore fo fi fe es S = (fe es S).toS es fun d S1 => (fo es S1).toS es fun o S2 => (fi es S2).toS es fun i S3 => match o, i with
  | .cell c, .int k => match S3[c]? with
    | some ds => match ixN ds.length k with
      | some j => .next es (S3.set c (ds.set j d))
      | none => .bad
    | none => .bad
  | _, _ => .bad := rfl
theorem ixN30 : ixN 3 0 = some 0 := by decide
theorem ixN32 : ixN 3 2 = some 2 := by decide
theorem c0 {a b r : D} (h : S[c]? = some [a, b, r]) : gIx (.cell c) (.int 0) S = .ok a S := gIx_cell (i := 0) h rfl
theorem c1 {a b r : D} (h : S[c]? = some [a, b, r]) : gIx (.cell c) (.int 1) S = .ok b S := gIx_cell (i := 1) h rfl
theorem c2 {a b r : D} (h : S[c]? = some [a, b, r]) : gIx (.cell c) (.int 2) S = .ok r S := gIx_cell (i := 2) h rfl
theorem take_eval {w : Int} (h : Bag S c k) (hk : k ≤ 1000000000) (hw : 0 < w) (hw2 : w.natAbs < 2 ^ 8000) :
    ∃ v S', D__law_take [.cell c, .int w] S = .ok (.int v) S' ∧ 0 ≤ v ∧ v < w ∧ Bag S' c (k + 1) ∧ S'.length = S.length := by
  obtain ⟨a, b, r, hc, ha, hb, hb2, hr, hr2⟩ := h
  by_cases h0 : 0 < a
  · refine ⟨a % w, S.set c [.int (a / w), .int b, .int r], ?_, Int.emod_nonneg _ (by omega), Int.emod_lt_of_pos _ hw, ⟨a / w, b, r, get_set hc, Int.ediv_nonneg ha (by omega), hb, hb2, hr, by omega⟩, List.length_set⟩
    unfold D__law_take b__law_take
    simp [fnD_eq, startD, sNil, c0 hc, h0, iMod_ok hw, iDiv_ok hw (bits_small hw2), sStore_eq, hc, ixN30]
  · let S2 : Store := S.set c [.int a, .int b, .int (r + 1)]
    have hc2 : S2[c]? = some [.int a, .int b, .int (r + 1)] := get_set hc
    let u : Int := (b + 86028121 * (r + 1) + 947) ^ 5 % 2147483647
    let v : Int := (u + 104729 * (r + 1)) ^ 3 % 2147483587
    have hu0 : 0 ≤ u := Int.emod_nonneg _ (by decide)
    have hu1 : u < 2147483647 := Int.emod_lt_of_pos _ (by decide)
    have hv0 : 0 ≤ v := Int.emod_nonneg _ (by decide)
    have p1 := iPow_ok (S := S2) (i := b + 86028121 * (r + 1) + 947) (j := 5) (by decide) (by decide) (by omega)
    have p2 := iPow_ok (S := S2) (i := u + 104729 * (r + 1)) (j := 3) (by decide) (by decide) (by omega)
    have m1 := iMul_ok (S := S2) (i := 86028121) (j := r + 1) (by
      have := bits_lt (i := r + 1) (n := 64) (by omega) (by decide)
      have := bits_lt (i := 86028121) (n := 64) (by decide) (by decide)
      omega)
    have m2 := iMul_ok (S := S2) (i := 104729) (j := r + 1) (by
      have := bits_lt (i := r + 1) (n := 64) (by omega) (by decide)
      have := bits_lt (i := 104729) (n := 64) (by decide) (by decide)
      omega)
    have q1 : iMod (.int ((b + 86028121 * (r + 1) + 947) ^ 5)) (.int 2147483647) S2 = .ok (.int u) S2 := iMod_ok (by decide)
    have q2 : iMod (.int ((u + 104729 * (r + 1)) ^ 3)) (.int 2147483587) S2 = .ok (.int v) S2 := iMod_ok (by decide)
    have q3 := iDiv_ok (S := S2) (i := v) (j := 16) (by decide) (bits_small (up8 (n := 5) (by decide) (by decide)))
    have q4 := iMod_ok (S := S2) (i := v / 16) (j := w) hw
    have p1' : iPow (.int (b + 86028121 * (r + 1) + 947)) (.int 5) S2 = .ok (.int ((b + 86028121 * (r + 1) + 947) ^ 5)) S2 := p1
    have p2' : iPow (.int (u + 104729 * (r + 1))) (.int 3) S2 = .ok (.int ((u + 104729 * (r + 1)) ^ 3)) S2 := p2
    refine ⟨v / 16 % w, S2, ?_, Int.emod_nonneg _ (by omega), Int.emod_lt_of_pos _ hw, ⟨a, b, r + 1, hc2, ha, hb, hb2, by omega, by omega⟩, List.length_set⟩
    unfold D__law_take b__law_take
    have k1 := c1 hc2
    have k2 := c2 hc2
    have s2 : S.set c [.int a, .int b, .int (r + 1)] = S2 := rfl
    clear_value S2
    clear_value u
    clear_value v
    simp [fnD_eq, startD, sNil, c0 hc, c2 hc, h0, sStore_eq, hc, ixN32, s2, k1, k2, m1, m2, p1', p2', q1, q2, q3, q4]
theorem big {i : Int} (h0 : -100000000000000000000000000000 ≤ i) (h1 : i ≤ 100000000000000000000000000000) : i.natAbs < 2 ^ 98 := by
  have e : (2 : Nat) ^ 98 = 316912650057057350374175801344 := by decide
  omega
theorem number_eval (h : Bag S c k) (hk : k ≤ 900000000) : ∃ x S', D__law_number [.cell c] S = .ok (fr x) S' ∧ Fq 98 x ∧ Bag S' c (k + 5) ∧ S'.length = S.length := by
  obtain ⟨w, S1, e1, w0, w1, B1, l1⟩ := take_eval (w := 6) h (by omega) (by decide) (up8 (n := 5) (by decide) (by decide))
  by_cases h0 : w = 0
  · subst h0
    obtain ⟨a, S2, e2, a0, a1, B2, l2⟩ := take_eval (w := 13) B1 (by omega) (by decide) (up8 (n := 5) (by decide) (by decide))
    refine ⟨nf (a - 6) 1, S2, ?_, nf_ok (by decide) (big (by omega) (by omega)) (by decide), B2.mono (by omega), by omega⟩
    unfold D__law_number b__law_number
    simp [fnD_eq, startD, sNil, e1, e2, frac_eval (S := S2) (a := a - 6) (b := 1) (by decide) (up8 (n := 5) (by decide) (by decide))]
  · by_cases h4 : w < 4
    · obtain ⟨a, S2, e2, a0, a1, B2, l2⟩ := take_eval (w := 25) B1 (by omega) (by decide) (up8 (n := 5) (by decide) (by decide))
      obtain ⟨b, S3, e3, b0, b1, B3, l3⟩ := take_eval (w := 7) B2 (by omega) (by decide) (up8 (n := 5) (by decide) (by decide))
      refine ⟨nf (a - 12) (1 + b), S3, ?_, nf_ok (by omega) (big (by omega) (by omega)) (big (by omega) (by omega)), B3.mono (by omega), by omega⟩
      unfold D__law_number b__law_number
      simp [fnD_eq, startD, sNil, e1, h0, h4, e2, e3, frac_eval (S := S3) (a := a - 12) (b := 1 + b) (by omega) (up8 (big (by omega) (by omega)) (by decide))]
    · have pw : ∀ (S : Store) (j : Int), 0 ≤ j → j ≤ 1000000 → iPow (.int 10) (.int j) S = .ok (.int (10 ^ j.toNat)) S := fun S j h1 h2 => iPow_ok h1 h2 (by decide)
      have p29 : ∀ S : Store, iPow (.int 10) (.int 29) S = .ok (.int 100000000000000000000000000000) S := fun S => pw S 29 (by decide) (by decide)
      have p28 : ∀ S : Store, iPow (.int 10) (.int 28) S = .ok (.int 10000000000000000000000000000) S := fun S => pw S 28 (by decide) (by decide)
      have p12 : ∀ S : Store, iPow (.int 10) (.int 12) S = .ok (.int 1000000000000) S := fun S => pw S 12 (by decide) (by decide)
      have m5 : ∀ S : Store, iMul (.int 5) (.int 10000000000000000000000000000) S = .ok (.int 50000000000000000000000000000) S := fun S => iMul_ok (by
        have := bits_lt (i := 5) (n := 98) (by decide) (by decide)
        have := bits_lt (i := 10000000000000000000000000000) (n := 98) (by decide) (by decide)
        omega)
      obtain ⟨a, S2, e2, a0, a1, B2, l2⟩ := take_eval (w := 100000000000000000000000000000) B1 (by omega) (by decide) (up8 (n := 98) (by decide) (by decide))
      obtain ⟨b, S3, e3, b0, b1, B3, l3⟩ := take_eval (w := 100000000000000000000000000000) B2 (by omega) (by decide) (up8 (n := 98) (by decide) (by decide))
      have ef := frac_eval (S := S3) (a := a - 50000000000000000000000000000) (b := 1 + b) (by omega) (up8 (big (by omega) (by omega)) (by decide))
      by_cases h5 : w = 4
      · refine ⟨nf (a - 50000000000000000000000000000) (1 + b), S3, ?_, nf_ok (by omega) (big (by omega) (by omega)) (big (by omega) (by omega)), B3.mono (by omega), by omega⟩
        unfold D__law_number b__law_number
        subst h5
        simp [fnD_eq, startD, sNil, e1, p29, p28, m5, e2, e3, ef]
      · obtain ⟨a', S4, e4, a0', a1', B4, l4⟩ := take_eval (w := 3) B3 (by omega) (by decide) (up8 (n := 98) (by decide) (by decide))
        obtain ⟨b', S5, e5, b0', b1', B5, l5⟩ := take_eval (w := 1000000000000) B4 (by omega) (by decide) (up8 (n := 98) (by decide) (by decide))
        have ef' := frac_eval (S := S5) (a := a') (b := 1 + b') (by omega) (up8 (big (by omega) (by omega)) (by decide))
        refine ⟨nf a' (1 + b'), S5, ?_, nf_ok (by omega) (big (by omega) (by omega)) (big (by omega) (by omega)), B5.mono (by omega), by omega⟩
        unfold D__law_number b__law_number
        simp [fnD_eq, startD, sNil, e1, h0, h4, h5, p29, p28, p12, m5, e2, e3, ef, e4, e5, ef']
end
end K02
set_option Elab.async false
set_option linter.all false
set_option maxRecDepth 100000
set_option maxHeartbeats 4000000
set_option autoImplicit false
namespace K02
open PySem L2 DL
/-! ### lists -/
def gv (x : Q2) : D := if x.2 = 1 then .int x.1 else rt x
theorem gv_num (x : Q2) : Num (gv x) x := by
  unfold gv
  split
  · exact .inr ⟨rfl, by assumption⟩
  · exact .inl rfl
theorem z01 : Fq 1 (0, 1) := ⟨by decide, by decide, by decide, by decide⟩
theorem o11 : Fq 1 (1, 1) := ⟨by decide, by decide, by decide, by decide⟩
section
variable {S S1 : Store} {c : Nat} {k : Int} {n m : Nat} {x z : Q2} {y : D}
theorem gv_eval (hx : Fq n x) (h : n ≤ 8000) : D__law_given [fr x] S = .ok (gv x) S := by
  by_cases h1 : x.2 = 1
  · unfold D__law_given b__law_given gv
    simp [fnD_eq, startD, ix0, ix1, h1]
  · have e := new_id (S := S) hx h
    unfold D__law_given b__law_given gv
    simp [fnD_eq, startD, ix0, ix1, h1, e]
theorem lc_given {i : Nat} {es : List SD} (hi : i < es.length) : ∀ (xs : List Q2) (acc : List D), (∀ x ∈ xs, Fq 98 x) → lcL (tgN i) eYes (eCall 1 D__law_given (aCons (eVar i) aNil)) es (xs.map fr) S acc = .ok (.lst (acc ++ xs.map gv)) S
  | [], acc, _ => by simp [lcL]
  | x :: xs, acc, h => by
    have ih := lc_given hi xs (acc ++ [gv x]) fun a ha => h a (List.mem_cons_of_mem _ ha)
    have e := gv_eval (S := S) (h x (List.mem_cons_self ..)) (by decide)
    rw [List.append_assoc] at ih
    simp [lcL, eYes, List.getElem?_set_self hi, e, ih]
theorem lc_number {i j : Nat} {es : List SD} (hj : es[j]? = some (.val (.cell c))) (hij : i ≠ j) : ∀ (ds : List D) (S : Store) (k : Int) (acc : List D), Bag S c k → k + 5 * ds.length ≤ 900000000 →
    ∃ (ys : List Q2) (S' : Store), lcL (tgN i) eYes (eCall 1 D__law_number (aCons (eVar j) aNil)) es ds S acc = .ok (.lst (acc ++ ys.map fr)) S' ∧ ys.length = ds.length ∧ (∀ y ∈ ys, Fq 98 y) ∧ Bag S' c (k + 5 * ds.length) ∧ S'.length = S.length
  | [], S, k, acc, B, _ => ⟨[], S, by simp [lcL], rfl, by simp, B.mono (by simp), rfl⟩
  | d :: ds, S, k, acc, B, hk => by
    rw [List.length_cons] at hk
    obtain ⟨x, S1, e, hx, B1, l1⟩ := number_eval B (by omega)
    obtain ⟨ys, S2, e2, hl, hy, B2, l2⟩ := lc_number hj hij ds S1 (k + 5) (acc ++ [fr x]) B1 (by omega)
    refine ⟨x :: ys, S2, ?_, by simp [hl], fun y hy' => ?_, B2.mono (by rw [List.length_cons]; omega), by omega⟩
    · rw [List.append_assoc] at e2
      simp [lcL, eYes, List.getElem?_set_ne hij, hj, e, e2]
    · rcases List.mem_cons.mp hy' with q | q
      · rw [q]; exact hx
      · exact hy y q
theorem fold_pl : ∀ (xs : List Q2) (a : Q2) (n : Nat), Fq n a → (∀ x ∈ xs, Fq 98 x) → Fq (n + 99 * xs.length) (xs.foldl pl a)
  | [], a, n, ha, _ => ha.mono (by simp)
  | x :: xs, a, n, ha, h => (fold_pl xs (pl a x) (n + 98 + 1) (pl_ok ha (h x (List.mem_cons_self ..))) fun b hb => h b (List.mem_cons_of_mem _ hb)).mono (by rw [List.length_cons]; omega)
theorem total_loop {a : SD} : ∀ (xs : List Q2) (f : Q2) (n : Nat) (u : SD), Fq n f → (∀ x ∈ xs, Fq 98 x) → n + 99 * xs.length ≤ 8000 →
    ∃ u', forL (tgN 2) (sAsg (tgN 1) (eOp2 (gOwn 0 D_Ratiod__addd_) (eVar 1) (eVar 2))) (xs.map gv) [a, .val (rt f), u] S = .next [a, .val (rt (xs.foldl pl f)), u'] S
  | [], f, n, u, _, _, _ => ⟨u, by simp⟩
  | x :: xs, f, n, u, hf, h, hn => by
    rw [List.length_cons] at hn
    have hx := h x (List.mem_cons_self ..)
    obtain ⟨u', e⟩ := total_loop (a := a) xs (pl f x) (n + 98 + 1) (.val (gv x)) (pl_ok hf hx) (fun b hb => h b (List.mem_cons_of_mem _ hb)) (by omega)
    refine ⟨u', ?_⟩
    have e2 := own_num (gv_num x) (add_eval (S := S) hf hx (gv_num x) (by omega))
    simp [forL_cons, e2, e]
theorem new01 : newD 0 2 I_Ratiod__initd_ [.int 0, .int 1] S = .ok (rt (0, 1)) S := new_id (x := (0, 1)) z01 (by decide)
theorem new11 : newD 0 2 I_Ratiod__initd_ [.int 1, .int 1] S = .ok (rt (1, 1)) S := new_id (x := (1, 1)) o11 (by decide)
theorem total_lst (xs : List Q2) (h : ∀ x ∈ xs, Fq 98 x) (hl : xs.length ≤ 70) : D_total [.lst (xs.map gv)] S = .ok (rt (xs.foldl pl (0, 1))) S := by
  obtain ⟨u, e⟩ := total_loop (S := S) (a := .val (.lst (xs.map gv))) xs (0, 1) 1 .no z01 h (by omega)
  unfold D_total b_total
  simp [fnD_eq, startD, new01, e]
theorem total_tup (xs : List Q2) (h : ∀ x ∈ xs, Fq 98 x) (hl : xs.length ≤ 70) : D_total [.tup (xs.map gv)] S = .ok (rt (xs.foldl pl (0, 1))) S := by
  obtain ⟨u, e⟩ := total_loop (S := S) (a := .val (.tup (xs.map gv))) xs (0, 1) 1 .no z01 h (by omega)
  unfold D_total b_total
  simp [fnD_eq, startD, new01, e]
/-- the law's own loop over both lists -/
def mix : List Q2 → List Q2 → Q2 → Q2
  | x :: xs, z :: zs, a => mix xs zs (pl a (ti x z))
  | _, _, a => a
theorem fold_mix : ∀ (xs zs : List Q2) (a : Q2) (n : Nat), Fq n a → (∀ x ∈ xs, Fq 98 x) → (∀ x ∈ zs, Fq 98 x) → Fq (n + 197 * xs.length) (mix xs zs a)
  | [], zs, a, n, ha, _, _ => ha.mono (by simp)
  | x :: xs, [], a, n, ha, _, _ => ha.mono (by omega)
  | x :: xs, z :: zs, a, n, ha, h, h' => (fold_mix xs zs (pl a (ti x z)) (n + 196 + 1) (pl_ok ha (ti_ok (h x (List.mem_cons_self ..)) (h' z (List.mem_cons_self ..)))) (fun b hb => h b (List.mem_cons_of_mem _ hb)) fun b hb => h' b (List.mem_cons_of_mem _ hb)).mono (by rw [List.length_cons]; omega)
theorem tgPair {es : List SD} {i j : Nat} {a b : D} : tgT 2 (tsCons (tgN i) (tsCons (tgN j) tsNil)) (.tup [a, b]) es = some ((es.set i (.val a)).set j (.val b)) := by simp
theorem dot_loop {a b : SD} : ∀ (xs zs : List Q2) (f : Q2) (n : Nat) (u v : SD), Fq n f → (∀ x ∈ xs, Fq 98 x) → (∀ x ∈ zs, Fq 98 x) → n + 197 * xs.length ≤ 8000 →
    ∃ u' v', forL (tgT 2 (tsCons (tgN 3) (tsCons (tgN 4) tsNil))) (sAsg (tgN 2) (eOp2 (gOwn 0 D_Ratiod__addd_) (eVar 2) (eNew 0 2 [] I_Ratiod__initd_ (aCons (eOp2 iMul (eOp2 gIx (eCall 1 D_parts (aCons (eVar 3) aNil)) (eC (.int 0))) (eOp2 gIx (eCall 1 D_parts (aCons (eVar 4) aNil)) (eC (.int 0)))) (aCons (eOp2 iMul (eOp2 gIx (eCall 1 D_parts (aCons (eVar 3) aNil)) (eC (.int 1))) (eOp2 gIx (eCall 1 D_parts (aCons (eVar 4) aNil)) (eC (.int 1)))) aNil)))))
      (((xs.map gv).zip (zs.map gv)).map fun p => D.tup [p.1, p.2]) [a, b, .val (rt f), u, v] S = .next [a, b, .val (rt (mix xs zs f)), u', v'] S
  | [], zs, f, n, u, v, _, _, _, _ => ⟨u, v, by simp [mix]⟩
  | x :: xs, [], f, n, u, v, _, _, _, _ => ⟨u, v, by simp [mix]⟩
  | x :: xs, z :: zs, f, n, u, v, hf, h, h', hn => by
    rw [List.length_cons] at hn
    have hx := h x (List.mem_cons_self ..)
    have hz := h' z (List.mem_cons_self ..)
    have ht := ti_ok hx hz
    obtain ⟨u', v', e⟩ := dot_loop (a := a) (b := b) xs zs (pl f (ti x z)) (n + 196 + 1) (.val (gv x)) (.val (gv z)) (pl_ok hf ht) (fun b hb => h b (List.mem_cons_of_mem _ hb)) (fun b hb => h' b (List.mem_cons_of_mem _ hb)) (by omega)
    refine ⟨u', v', ?_⟩
    have e2 := own_num (Or.inl rfl : Num (rt (ti x z)) (ti x z)) (add_eval (S := S) hf ht (.inl rfl) (by omega))
    have e3 := new_eval (S := S) (a := x.1 * z.1) (den_ne hx hz) (den_s hx hz (by decide))
    rw [show nf (x.1 * z.1) (x.2 * z.2) = ti x z from rfl] at e3
    rw [List.map_cons, List.map_cons, List.zip_cons_cons, List.map_cons, forL_cons, tgPair]
    simp [parts_num (gv_num x), parts_num (gv_num z), ix0, ix1, mM (up8 hx.s1 (by decide)) (up8 hz.s1 (by decide)), mM (up8 hx.s2 (by decide)) (up8 hz.s2 (by decide)), e3, e2]
    exact e
theorem dot_eval (xs zs : List Q2) (h : ∀ x ∈ xs, Fq 98 x) (h' : ∀ x ∈ zs, Fq 98 x) (hl : xs.length ≤ 30) : D_dot [.lst (xs.map gv), .lst (zs.map gv)] S = .ok (rt (mix xs zs (0, 1))) S := by
  obtain ⟨u, v, e⟩ := dot_loop (S := S) (a := .val (.lst (xs.map gv))) (b := .val (.lst (zs.map gv))) xs zs (0, 1) 1 .no .no z01 h h' (by omega)
  unfold D_dot b_dot
  simp only [fnD_eq, startD]
  simp [new01, e, -List.map_map]
def pw (b : Q2) (ds : List D) (a : Q2) : Q2 := ds.foldl (fun a _ => ti a b) a
theorem fold_pw {b : Q2} (hb : Fq m b) : ∀ (ds : List D) (a : Q2) (n : Nat), Fq n a → Fq (n + m * ds.length) (pw b ds a)
  | [], a, n, ha => ha.mono (by simp)
  | d :: ds, a, n, ha => (fold_pw hb ds (ti a b) (n + m) (ti_ok ha hb)).mono (by rw [List.length_cons, Nat.mul_succ]; omega)
theorem pow_loop {b : Q2} {a : SD} (hb : Fq m b) : ∀ (ds : List D) (f : Q2) (n : Nat) (u : SD), Fq n f → n + m * ds.length ≤ 8000 →
    ∃ u', forL (tgN 3) (sAsg (tgN 2) (eOp2 (gOwn 0 D_Ratiod__muld_) (eVar 2) (eVar 0))) ds [.val (gv b), a, .val (rt f), u] S = .next [.val (gv b), a, .val (rt (pw b ds f)), u'] S
  | [], f, n, u, _, _ => ⟨u, by simp [pw]⟩
  | d :: ds, f, n, u, hf, hn => by
    rw [List.length_cons, Nat.mul_succ] at hn
    obtain ⟨u', e⟩ := pow_loop (a := a) hb ds (ti f b) (n + m) (.val d) (ti_ok hf hb) (by omega)
    refine ⟨u', ?_⟩
    have e2 := own_num (gv_num b) (mul_eval (S := S) hf hb (gv_num b) (by omega))
    simp [forL_cons, e2]
    exact e
theorem power_eval {b : Q2} {i : Int} (hb : Fq m b) (h0 : 0 ≤ i) (h1 : i ≤ 200) (hn : 1 + m * i.toNat ≤ 8000) : D_power [gv b, .int i] S = .ok (rt (pw b ((List.range i.toNat).map fun (i : Nat) => D.int i) (1, 1))) S := by
  obtain ⟨u, e⟩ := pow_loop (S := S) (a := .val (.int i)) hb ((List.range i.toNat).map fun (i : Nat) => D.int i) (1, 1) 1 .no o11 (by rw [List.length_map, List.length_range]; exact hn)
  unfold D_power b_power
  simp only [fnD_eq, startD]
  have hr : -4611686018427387904 ≤ i ∧ i < 4611686018427387904 := by omega
  simp [new11, e, -List.map_map, hr]
end
end K02
set_option Elab.async false
set_option linter.all false
set_option maxRecDepth 100000
set_option maxHeartbeats 4000000
set_option autoImplicit false
namespace K02
open PySem L2 DL
section
variable {S S1 : Store} {c : Nat} {k : Int} {n m : Nat} {x z : Q2} {y : D}
theorem eLc_eq {vs : List Nat} {it : AF} {t : TF} {f g : EF} {es : List SD} : eLc vs it t f g es S = match it es S with
  | .ok ds S1 => if ds.length < 1000000 ∧ noAcc es vs = true then lcL t f g (wipeD es vs) ds S1 [] else .bad
  | .exc k fs S1 => .exc k fs S1
  | .bad => .bad := rfl
def nA (u : SD) : Prop := ∀ ds, u ≠ .acc ds
theorem law_loop {a0 a1 a2 a4 a8 a9 a10 a11 : SD} : ∀ (xs zs : List Q2) (s g : Q2) (n m : Nat) (u v : SD), xs.length = zs.length → Fq n s → Fq m g → (∀ x ∈ xs, Fq 98 x) → (∀ x ∈ zs, Fq 98 x) → n + 99 * xs.length ≤ 8000 → m + 197 * xs.length ≤ 8000 → nA v →
    ∃ u' v', nA v' ∧ forL (tgT 2 (tsCons (tgN 3) (tsCons (tgN 7) tsNil))) (sPar 5 6 (aCons (eCall 2 D__law_plus (aCons (eVar 5) (aCons (eVar 3) aNil))) (aCons (eCall 2 D__law_plus (aCons (eVar 6) (aCons (eCall 2 D__law_times (aCons (eVar 3) (aCons (eVar 7) aNil))) aNil))) aNil)))
      (((xs.map fr).zip (zs.map fr)).map fun p => D.tup [p.1, p.2]) [a0, a1, a2, u, a4, .val (fr s), .val (fr g), v, a8, a9, a10, a11] S = .next [a0, a1, a2, u', a4, .val (fr (xs.foldl pl s)), .val (fr (mix xs zs g)), v', a8, a9, a10, a11] S
  | [], [], s, g, n, m, u, v, _, _, _, _, _, _, _, hv => ⟨u, v, hv, by simp [mix]⟩
  | [], z :: zs, s, g, n, m, u, v, hl, _, _, _, _, _, _, _ => by simp at hl
  | x :: xs, [], s, g, n, m, u, v, hl, _, _, _, _, _, _, _ => by simp at hl
  | x :: xs, z :: zs, s, g, n, m, u, v, hl, hs, hg, h, h', hn, hm, hv => by
    rw [List.length_cons] at hn hm
    have hx := h x (List.mem_cons_self ..)
    have hz := h' z (List.mem_cons_self ..)
    have ht := ti_ok hx hz
    obtain ⟨u', v', hv', e⟩ := law_loop (a0 := a0) (a1 := a1) (a2 := a2) (a4 := a4) (a8 := a8) (a9 := a9) (a10 := a10) (a11 := a11) xs zs (pl s x) (pl g (ti x z)) (n + 98 + 1) (m + 196 + 1) (.val (fr x)) (.val (fr z)) (by simpa using hl) (pl_ok hs hx) (pl_ok hg ht) (fun b hb => h b (List.mem_cons_of_mem _ hb)) (fun b hb => h' b (List.mem_cons_of_mem _ hb)) (by omega) (by omega) (fun ds q => by cases q)
    refine ⟨u', v', hv', ?_⟩
    rw [List.map_cons, List.map_cons, List.zip_cons_cons, List.map_cons, forL_cons, tgPair]
    simp [plus_eval hs hx (by omega), plus_eval hg ht (by omega), times_eval hx hz (by decide)]
    exact e
theorem lap_loop {b : Q2} (hb : Fq m b) {a0 a1 a2 a3 a4 a5 a6 a7 a9 : SD} : ∀ (ds : List D) (f : Q2) (n : Nat) (u : SD), Fq n f → n + m * ds.length ≤ 8000 →
    ∃ u', forL (tgN 11) (sAsg (tgN 10) (eCall 2 D__law_times (aCons (eVar 10) (aCons (eVar 8) aNil)))) ds [a0, a1, a2, a3, a4, a5, a6, a7, .val (fr b), a9, .val (fr f), u] S = .next [a0, a1, a2, a3, a4, a5, a6, a7, .val (fr b), a9, .val (fr (pw b ds f)), u'] S
  | [], f, n, u, _, _ => ⟨u, by simp [pw]⟩
  | d :: ds, f, n, u, hf, hn => by
    rw [List.length_cons, Nat.mul_succ] at hn
    obtain ⟨u', e⟩ := lap_loop (a0 := a0) (a1 := a1) (a2 := a2) (a3 := a3) (a4 := a4) (a5 := a5) (a6 := a6) (a7 := a7) (a9 := a9) hb ds (ti f b) (n + m) (.val d) (ti_ok hf hb) (by omega)
    refine ⟨u', ?_⟩
    simp [forL_cons, times_eval hf hb (by omega)]
    exact e
/-- the last part: power -/
theorem range_ok {i : Int} {S : Store} {es : List SD} {j : Nat} (he : es[j]? = some (.val (.int i))) (h0 : 0 ≤ i) (h1 : i ≤ 200) : itRange1 (aCons (eVar j) aNil) es S = .ok ((List.range i.toNat).map fun (i : Nat) => D.int i) S := by
  have hr : -4611686018427387904 ≤ i ∧ i < 4611686018427387904 := by omega
  simp [he, hr]
theorem power_part {b : Q2} {i : Int} (hb : Fq m b) (h0 : 0 ≤ i) (h1 : i ≤ 200) (hm : m ≤ 98) (hn : 1 + m * i.toNat ≤ 8000) {a0 a1 a2 a3 a4 a5 a6 a7 : SD} :
    (sSeq (sAsg (tgN 10) (eTup (aCons (eC (.int 1)) (aCons (eC (.int 1)) aNil)))) (sSeq (sFor (itRange1 (aCons (eVar 9) aNil)) (tgN 11) (sAsg (tgN 10) (eCall 2 D__law_times (aCons (eVar 10) (aCons (eVar 8) aNil)))))
      (sRet (eCall 2 D__law_same (aCons (eCall 2 D_power (aCons (eCall 1 D__law_given (aCons (eVar 8) aNil)) (aCons (eVar 9) aNil))) (aCons (eVar 10) aNil))))))
      [a0, a1, a2, a3, a4, a5, a6, a7, .val (fr b), .val (.int i), .no, .no] S = .ret (.bl true) S := by
  obtain ⟨u, e⟩ := lap_loop (S := S) (a0 := a0) (a1 := a1) (a2 := a2) (a3 := a3) (a4 := a4) (a5 := a5) (a6 := a6) (a7 := a7) (a9 := .val (.int i)) hb ((List.range i.toNat).map fun (i : Nat) => D.int i) (1, 1) 1 .no o11 (by rw [List.length_map, List.length_range]; exact hn)
  have er := range_ok (S := S) (i := i) (j := 9) (es := [a0, a1, a2, a3, a4, a5, a6, a7, .val (fr b), .val (.int i), .val (fr (1, 1)), .no]) rfl h0 h1
  have ep := power_eval (S := S) hb h0 h1 hn
  have eg := gv_eval (S := S) hb (by omega)
  have e1 : sAsg (tgN 10) (eTup (aCons (eC (.int 1)) (aCons (eC (.int 1)) aNil))) [a0, a1, a2, a3, a4, a5, a6, a7, .val (fr b), .val (.int i), .no, .no] S = .next [a0, a1, a2, a3, a4, a5, a6, a7, .val (fr b), .val (.int i), .val (fr (1, 1)), .no] S := by
    simp [fr]
  rw [sSeq_eq, e1, Fl.bind_next, sSeq_eq, sFor_eq, er]
  show (forL _ _ _ _ _).bind _ = _
  rw [e, Fl.bind_next]
  simp [eg, ep, same_self]
theorem seq_next {f g : SF} {es es' : List SD} {S S' : Store} (h : f es S = .next es' S') : sSeq f g es S = g es' S' := by rw [sSeq_eq, h, Fl.bind_next]
theorem fnD_ret {N : Nat} {body : SF} {ds : List D} {S S' : Store} {d : D} (h : body (startD N ds) S = .ret d S') : fnD N body ds S = .ok d S' := by rw [fnD_eq, h]
theorem noAcc7 {a0 a1 a2 a3 a4 a5 a6 v a8 a9 a10 a11 : SD} (hv : nA v) : noAcc [a0, a1, a2, a3, a4, a5, a6, v, a8, a9, a10, a11] [7] = true := by
  cases v with
  | acc ds => exact absurd rfl (hv ds)
  | _ => rfl
theorem pick {i : Int} {a b c d : D} {S : Store} (h0 : 0 ≤ i) (h1 : i < 4) : ∃ e, gIx (.lst [a, b, c, d]) (.int i) S = .ok e S ∧ (e = a ∨ e = b ∨ e = c ∨ e = d) := by
  have hi : i = 0 ∨ i = 1 ∨ i = 2 ∨ i = 3 := by omega
  rcases hi with rfl | rfl | rfl | rfl
  · exact ⟨a, gIx_lst (i := 0) rfl, by simp⟩
  · exact ⟨b, gIx_lst (i := 1) rfl, by simp⟩
  · exact ⟨c, gIx_lst (i := 2) rfl, by simp⟩
  · exact ⟨d, gIx_lst (i := 3) rfl, by simp⟩
theorem lists_eval (xs : List Q2) (h : ∀ x ∈ xs, Fq 98 x) (hl : xs.length ≤ 20) (B : Bag S c k) (hk : k ≤ 800000000) : ∃ S', D__law_lists_right [.cell c, .lst (xs.map fr)] S = .ok (.bl true) S' ∧ Bag S' c (k + 200) ∧ S'.length = S.length := by
  have L1 := lc_given (S := S) (i := 3) (es := [.val (.cell c), .val (.lst (xs.map fr)), .no, .no, .no, .no, .no, .no, .no, .no, .no, .no]) (by simp) xs [] h
  obtain ⟨zs, S1, L2, zl, hz, B1, l1⟩ := lc_number (i := 3) (j := 0) (es := [.val (.cell c), .val (.lst (xs.map fr)), .val (.lst (xs.map gv)), .no, .no, .no, .no, .no, .no, .no, .no, .no]) rfl (by decide) (xs.map fr) S k [] B (by rw [List.length_map]; omega)
  rw [List.length_map] at zl B1
  obtain ⟨u, v, hv, L3⟩ := law_loop (S := S1) (a0 := .val (.cell c)) (a1 := .val (.lst (xs.map fr))) (a2 := .val (.lst (xs.map gv))) (a4 := .val (.lst (zs.map fr))) (a8 := .no) (a9 := .no) (a10 := .no) (a11 := .no) xs zs (0, 1) (0, 1) 1 1 .no .no zl.symm z01 z01 h hz (by omega) (by omega) (fun ds q => by cases q)
  have T1 := total_lst (S := S1) xs h (by omega)
  have T2 := total_tup (S := S1) xs h (by omega)
  have T3 := dot_eval (S := S1) xs zs h hz (by omega)
  have L4 := lc_given (S := S1) (i := 7) (es := [.val (.cell c), .val (.lst (xs.map fr)), .val (.lst (xs.map gv)), u, .val (.lst (zs.map fr)), .val (fr (xs.foldl pl (0, 1))), .val (fr (mix xs zs (0, 1))), .no, .no, .no, .no, .no]) (by simp) zs [] hz
  obtain ⟨b, S2, N1, hb, B2, l2⟩ := number_eval B1 (by omega)
  obtain ⟨t, S3, N2, t0, t1, B3, l3⟩ := take_eval (w := 12) B2 (by omega) (by decide) (up8 (n := 5) (by decide) (by decide))
  obtain ⟨i, S4, N3, i0, i1, B4, l4⟩ := take_eval (w := 4) B3 (by omega) (by decide) (up8 (n := 5) (by decide) (by decide))
  refine ⟨S4, ?_, B4.mono (by omega), by omega⟩
  obtain ⟨q, P1, P2⟩ := pick (S := S4) (a := .int 0) (b := .int 1) (c := .int t) (d := .int 200) i0 i1
  have hq : ∃ j : Int, q = .int j ∧ 0 ≤ j ∧ (j ≤ 11 ∨ j = 200) := by
    rcases P2 with rfl | rfl | rfl | rfl
    · exact ⟨0, rfl, by omega, by omega⟩
    · exact ⟨1, rfl, by omega, by omega⟩
    · exact ⟨t, rfl, by omega, by omega⟩
    · exact ⟨200, rfl, by omega, by omega⟩
  obtain ⟨j, rfl, j0, j1⟩ := hq
  have hlen : xs.length < 1000000 := by omega
  have hlen2 : zs.length < 1000000 := by omega
  refine fnD_ret ?_
  unfold b__law_lists_right
  have e0 : startD 12 [.cell c, .lst (xs.map fr)] = [.val (.cell c), .val (.lst (xs.map fr)), .no, .no, .no, .no, .no, .no, .no, .no, .no, .no] := rfl
  rw [e0]
  refine (seq_next (es' := [.val (.cell c), .val (.lst (xs.map fr)), .val (.lst (xs.map gv)), .no, .no, .no, .no, .no, .no, .no, .no, .no]) (S' := S) ?_).trans ?_
  · have hn : noAcc [.val (.cell c), .val (.lst (xs.map fr)), .no, .no, .no, .no, .no, .no, .no, .no, .no, .no] [3] = true := rfl
    simp [eLc_eq, hn, wipeD, L1, hlen]
  refine (seq_next (es' := [.val (.cell c), .val (.lst (xs.map fr)), .val (.lst (xs.map gv)), .no, .val (.lst (zs.map fr)), .no, .no, .no, .no, .no, .no, .no]) (S' := S1) ?_).trans ?_
  · have hn : noAcc [.val (.cell c), .val (.lst (xs.map fr)), .val (.lst (xs.map gv)), .no, .no, .no, .no, .no, .no, .no, .no, .no] [3] = true := rfl
    simp [eLc_eq, hn, wipeD, L2, hlen]
  refine (seq_next (es' := [.val (.cell c), .val (.lst (xs.map fr)), .val (.lst (xs.map gv)), .no, .val (.lst (zs.map fr)), .val (fr (0, 1)), .val (fr (0, 1)), .no, .no, .no, .no, .no]) (S' := S1) ?_).trans ?_
  · simp [fr]
  refine (seq_next (es' := [.val (.cell c), .val (.lst (xs.map fr)), .val (.lst (xs.map gv)), u, .val (.lst (zs.map fr)), .val (fr (xs.foldl pl (0, 1))), .val (fr (mix xs zs (0, 1))), v, .no, .no, .no, .no]) (S' := S1) ?_).trans ?_
  · rw [sFor_eq]
    have e1 : itZip (aCons (eVar 1) (aCons (eVar 4) aNil)) [.val (.cell c), .val (.lst (xs.map fr)), .val (.lst (xs.map gv)), .no, .val (.lst (zs.map fr)), .val (fr (0, 1)), .val (fr (0, 1)), .no, .no, .no, .no, .no] S1 = .ok (((xs.map fr).zip (zs.map fr)).map fun p => D.tup [p.1, p.2]) S1 := rfl
    rw [e1]
    exact L3
  refine (seq_next (es' := [.val (.cell c), .val (.lst (xs.map fr)), .val (.lst (xs.map gv)), u, .val (.lst (zs.map fr)), .val (fr (xs.foldl pl (0, 1))), .val (fr (mix xs zs (0, 1))), v, .no, .no, .no, .no]) (S' := S1) ?_).trans ?_
  · simp [T1, T2, same_self, sNil]
  refine (seq_next (es' := [.val (.cell c), .val (.lst (xs.map fr)), .val (.lst (xs.map gv)), u, .val (.lst (zs.map fr)), .val (fr (xs.foldl pl (0, 1))), .val (fr (mix xs zs (0, 1))), v, .no, .no, .no, .no]) (S' := S1) ?_).trans ?_
  · simp [eLc_eq, noAcc7 hv, wipeD, L4, hlen2, T3, same_self, sNil]
  refine (seq_next (es' := [.val (.cell c), .val (.lst (xs.map fr)), .val (.lst (xs.map gv)), u, .val (.lst (zs.map fr)), .val (fr (xs.foldl pl (0, 1))), .val (fr (mix xs zs (0, 1))), v, .val (fr b), .val (.int j), .no, .no]) (S' := S4) ?_).trans ?_
  · simp [N1, N2, N3, P1]
  by_cases h2 : j = 200
  · subst h2
    have hf := frac_eval (S := S4) (a := b.1 % 5 - 2) (b := 3) (by decide) (up8 (n := 5) (by decide) (by decide))
    have hb5 : Fq 2 (nf (b.1 % 5 - 2) 3) := nf_ok (by decide) (by
      have := Int.emod_nonneg b.1 (by decide : (5 : Int) ≠ 0)
      have := Int.emod_lt_of_pos b.1 (by decide : (0 : Int) < 5)
      omega) (by decide)
    refine (seq_next (es' := [.val (.cell c), .val (.lst (xs.map fr)), .val (.lst (xs.map gv)), u, .val (.lst (zs.map fr)), .val (fr (xs.foldl pl (0, 1))), .val (fr (mix xs zs (0, 1))), v, .val (fr (nf (b.1 % 5 - 2) 3)), .val (.int 200), .no, .no]) (S' := S4) ?_).trans ?_
    · simp [ix0, iMod_ok (S := S4) (i := b.1) (j := 5) (by decide), hf]
    · exact power_part hb5 (by decide) (by decide) (by decide) (by decide)
  · refine (seq_next (es' := [.val (.cell c), .val (.lst (xs.map fr)), .val (.lst (xs.map gv)), u, .val (.lst (zs.map fr)), .val (fr (xs.foldl pl (0, 1))), .val (fr (mix xs zs (0, 1))), v, .val (fr b), .val (.int j), .no, .no]) (S' := S4) ?_).trans ?_
    · simp [h2, sNil]
    · exact power_part hb j0 (by omega) (by decide) (by omega)
end
end K02
set_option Elab.async false
set_option linter.all false
set_option maxRecDepth 100000
set_option maxHeartbeats 4000000
set_option autoImplicit false
namespace K02
open PySem L2 DL
section
variable {S S1 : Store} {c : Nat} {k : Int} {n m : Nat} {x z : Q2} {y d : D}
theorem isi_ty {cs : List Nat} {t n : String} {b : Bool} (h : kind d = some t) (hb : tyIs t n = some b) : gIsi cs d (.ty n) S = .ok (.bl b) S := by
  unfold gIsi isi1
  rw [h]
  simp only [hb]
theorem isi_c {cs : List Nat} {t : String} {j : Nat} (h : kind d = some t) (hj : j ∈ cs) : gIsi cs d (.cls j) S = .ok (.bl false) S := by
  unfold gIsi isi1
  rw [h]
  simp only [if_pos hj]
/-- what is no number -/
structure Odd (d : D) : Prop where
  int : ∀ S, D_is_integer [d] S = .ok (.bl false) S
theorem odd_of {t : String} {b b' : Bool} (h : kind d = some t) (h1 : tyIs t "int" = some b) (h2 : tyIs t "bool" = some b') (hb : (b && !b') = false) : Odd d := ⟨fun S => by
  unfold D_is_integer b_is_integer
  cases b <;> cases b' <;> simp_all [fnD_eq, startD, isi_ty h h1, isi_ty h h2]⟩
theorem odd_rt : Odd (rt x) := ⟨fun S => by
  have e : gIsi [0] (rt x) (.ty "int") S = .ok (.bl false) S := isi_obj_ty (by decide) (by decide)
  unfold D_is_integer b_is_integer
  simp [fnD_eq, startD, e]⟩
theorem init_b1 (h : Odd d) : I_Ratiod__initd_ [d, y] S = .exc 2 [("value", d)] S := by
  unfold I_Ratiod__initd_ b_Ratiod__initd_
  simp [initD_eq, startI, h.int, sRaise]
theorem init_b2 {a : Int} (h : Odd d) : I_Ratiod__initd_ [.int a, d] S = .exc 2 [("value", d)] S := by
  unfold I_Ratiod__initd_ b_Ratiod__initd_
  simp [initD_eq, startI, isint_int, h.int, sRaise, sNil]
theorem init_b0 {a : Int} : I_Ratiod__initd_ [.int a, .int 0] S = .exc 3 [] S := by
  unfold I_Ratiod__initd_ b_Ratiod__initd_
  simp [initD_eq, startI, isint_int, sRaise0, sNil]
theorem new_b1 (h : Odd d) : newD 0 2 I_Ratiod__initd_ [d, y] S = .exc 2 [("value", d)] S := by simp [newD, init_b1 h]
theorem new_b2 {a : Int} (h : Odd d) : newD 0 2 I_Ratiod__initd_ [.int a, d] S = .exc 2 [("value", d)] S := by simp [newD, init_b2 h]
theorem new_b0 {a : Int} : newD 0 2 I_Ratiod__initd_ [.int a, .int 0] S = .exc 3 [] S := by simp [newD, init_b0]
theorem isnum_odd {t : String} (hk : kind d = some t) (h : Odd d) : D_is_number [d] S = .ok (.bl false) S := by
  unfold D_is_number b_is_number
  simp [fnD_eq, startD, isi_c hk, h.int]
theorem isam_odd {t : String} (hk : kind d = some t) (h : Odd d) : D_is_amount [d] S = .ok (.bl false) S := by
  unfold D_is_amount b_is_amount
  simp [fnD_eq, startD, isnum_odd hk h]
theorem asr_odd {t : String} (hk : kind d = some t) (h : Odd d) : D_as_ratio [d] S = .exc 2 [("value", d)] S := by
  unfold D_as_ratio b_as_ratio
  simp [fnD_eq, startD, isnum_odd hk h, sRaise]
theorem sTry_eq {ps : Mts} {b : SF} {cs : List Cl} {es : List SD} : sTry ps b cs es S = match b es S with
  | .exc k fs es1 S1 => if plain es1 = true then tryL ps k fs es1 S1 cs else .bad
  | r => r := rfl
theorem mt23 : mtD [(1, 3, false), (1, 2, false), (2, 3, false), (2, 2, true), (3, 3, true), (3, 2, false)] 2 3 = some false := rfl
theorem mt22 : mtD [(1, 3, false), (1, 2, false), (2, 3, false), (2, 2, true), (3, 3, true), (3, 2, false)] 2 2 = some true := rfl
theorem mt33 : mtD [(1, 3, false), (1, 2, false), (2, 3, false), (2, 2, true), (3, 3, true), (3, 2, false)] 3 3 = some true := rfl
theorem caught0_b1 (h : Odd d) : D__law_caught [.int 0, d, y] S = .ok (.lst [.str "number", d]) S := by
  unfold D__law_caught b__law_caught
  simp [fnD_eq, startD, sTry_eq, new_b1 h, DL.plain, tryL, mt23, mt22, noAcc, eXf, clrF]
theorem caught0_b2 {a : Int} (h : Odd d) : D__law_caught [.int 0, .int a, d] S = .ok (.lst [.str "number", d]) S := by
  unfold D__law_caught b__law_caught
  simp [fnD_eq, startD, sTry_eq, new_b2 h, DL.plain, tryL, mt23, mt22, noAcc, eXf, clrF]
theorem caught0_z {a : Int} : D__law_caught [.int 0, .int a, .int 0] S = .ok (.lst [.str "zero"]) S := by
  unfold D__law_caught b__law_caught
  simp [fnD_eq, startD, sTry_eq, new_b0, DL.plain, tryL, mt33, endF]
theorem caught2 {t : String} (hk : kind d = some t) (h : Odd d) : D__law_caught [.int 2, d, y] S = .ok (.lst [.str "number", d]) S := by
  unfold D__law_caught b__law_caught
  simp [fnD_eq, startD, sTry_eq, asr_odd hk h, DL.plain, tryL, mt23, mt22, noAcc, eXf, clrF]
theorem o13 : Fq 2 (1, 3) := ⟨by decide, by decide, by decide, by decide⟩
theorem over0 : D_Ratio_over [rt (1, 3), .int 0] S = .exc 3 [] S := by
  unfold D_Ratio_over b_Ratio_over
  simp [fnD_eq, startD, parts_int, tg2, slot_up, slot_dn, mM (i := 1) (j := 1) (up8 (n := 5) (by decide) (by decide)) (up8 (n := 5) (by decide) (by decide)), mM (i := 3) (j := 0) (up8 (n := 5) (by decide) (by decide)) (up8 (n := 5) (by decide) (by decide)), new_b0]
theorem new13 : newD 0 2 I_Ratiod__initd_ [.int 1, .int 3] S = .ok (rt (1, 3)) S := new_id (x := (1, 3)) o13 (by decide)
theorem caught1 {d : D} : D__law_caught [.int 1, d, .int 0] S = .ok (.lst [.str "zero"]) S := by
  unfold D__law_caught b__law_caught
  simp [fnD_eq, startD, sTry_eq, new13, isObj_rt, over0, DL.plain, tryL, mt33, endF]
theorem eq_odd {t : String} (hk : kind d = some t) (h : Odd d) : gOwnEq [0] 0 D_Ratiod__eqd_ (rt x) d S = .ok (.bl false) S := by
  have e : D_Ratiod__eqd_ [rt x, d] S = .ok (.bl false) S := by
    unfold D_Ratiod__eqd_ b_Ratiod__eqd_
    simp [fnD_eq, startD, isnum_odd hk h]
  unfold gOwnEq
  rw [hk]
  simp only [isObj_rt, if_true, chk_eq]
  simpa using e
theorem isNot_false : gIs true (.bl false) (.bl false) S = .ok (.bl false) S := by
  unfold gIs
  simp
theorem odd_eval {t : String} (hk : kind d = some t) (h : Odd d) (hx : Fq n x) (hn : n ≤ 8000) (e1 : ∀ S, gOr gNe gNeL (.lst [.str "number", d]) (.lst [.str "number", d]) S = .ok (.bl false) S) (e2 : ∀ S, gOr gEq gEqL (.lst [.str "number", d]) (.lst [.str "number", d]) S = .ok (.bl true) S) :
    D__law_odd_right [d, fr x] S = .ok (.bl true) S := by
  unfold D__law_odd_right b__law_odd_right
  simp [fnD_eq, startD, isnum_odd hk h, isam_odd hk h, isNot_false, ix0, ix1, new_id hx hn, eq_odd hk h, sNil, caught2 hk h, caught0_b1 h, caught0_b2 h, e1, e2]
def odds : List D := [.non, .bl true, .bl false, .str "1", .str "1/2", .lst [.int 1], .tup [.int 1, .int 2], .dct [] []]
theorem odds_eval {i : Int} (h0 : 0 ≤ i) (h1 : i < 8) (hx : Fq n x) (hn : n ≤ 8000) : ∃ d, gIx (.lst odds) (.int i) S = .ok d S ∧ ∀ S, D__law_odd_right [d, fr x] S = .ok (.bl true) S := by
  have hi : i = 0 ∨ i = 1 ∨ i = 2 ∨ i = 3 ∨ i = 4 ∨ i = 5 ∨ i = 6 ∨ i = 7 := by omega
  rcases hi with rfl | rfl | rfl | rfl | rfl | rfl | rfl | rfl
  · exact ⟨_, gIx_lst (i := 0) rfl, fun S => odd_eval (t := "NoneType") rfl (odd_of rfl (b := false) (b' := false) (by decide +kernel) (by decide +kernel) rfl) hx hn (fun S => by kernel_rfl) (fun S => by kernel_rfl)⟩
  · exact ⟨_, gIx_lst (i := 1) rfl, fun S => odd_eval (t := "bool") rfl (odd_of rfl (b := true) (b' := true) (by decide +kernel) (by decide +kernel) rfl) hx hn (fun S => by kernel_rfl) (fun S => by kernel_rfl)⟩
  · exact ⟨_, gIx_lst (i := 2) rfl, fun S => odd_eval (t := "bool") rfl (odd_of rfl (b := true) (b' := true) (by decide +kernel) (by decide +kernel) rfl) hx hn (fun S => by kernel_rfl) (fun S => by kernel_rfl)⟩
  · exact ⟨_, gIx_lst (i := 3) rfl, fun S => odd_eval (t := "str") rfl (odd_of rfl (b := false) (b' := false) (by decide +kernel) (by decide +kernel) rfl) hx hn (fun S => by kernel_rfl) (fun S => by kernel_rfl)⟩
  · exact ⟨_, gIx_lst (i := 4) rfl, fun S => odd_eval (t := "str") rfl (odd_of rfl (b := false) (b' := false) (by decide +kernel) (by decide +kernel) rfl) hx hn (fun S => by kernel_rfl) (fun S => by kernel_rfl)⟩
  · exact ⟨_, gIx_lst (i := 5) rfl, fun S => odd_eval (t := "list") rfl (odd_of rfl (b := false) (b' := false) (by decide +kernel) (by decide +kernel) rfl) hx hn (fun S => by kernel_rfl) (fun S => by kernel_rfl)⟩
  · exact ⟨_, gIx_lst (i := 6) rfl, fun S => odd_eval (t := "tuple") rfl (odd_of rfl (b := false) (b' := false) (by decide +kernel) (by decide +kernel) rfl) hx hn (fun S => by kernel_rfl) (fun S => by kernel_rfl)⟩
  · exact ⟨_, gIx_lst (i := 7) rfl, fun S => odd_eval (t := "dict") rfl (odd_of rfl (b := false) (b' := false) (by decide +kernel) (by decide +kernel) rfl) hx hn (fun S => by kernel_rfl) (fun S => by kernel_rfl)⟩
end
end K02
set_option Elab.async false
set_option linter.all false
set_option maxRecDepth 100000
set_option maxHeartbeats 4000000
set_option autoImplicit false
namespace K02
open PySem L2 DL
noncomputable def xB : SF := (sSeq (sIf (eOr (eNot (eCall 2 D__law_pair_right (aCons (eVar 5) (aCons (eCall 1 D__law_number (aCons (eVar 2) aNil)) aNil)))) (eNot (eCall 2 D__law_pair_right (aCons (eVar 5) (aCons (eVar 5) aNil))))) (sRet (eC (.bl false))) sNil) (sSeq (sAsg (tgN 6) (eLst (aCons (eCall 1 D_is_number (aCons (eCall 1 D__law_given (aCons (eVar 5) aNil)) aNil)) (aCons (eCall 1 D_is_amount (aCons (eCall 1 D__law_given (aCons (eVar 5) aNil)) aNil)) (aCons (eCall 1 D_is_amount (aCons (eNew 0 2 [] I_Ratiod__initd_ (aCons (eOp2 gIx (eVar 5) (eC (.int 0))) (aCons (eOp2 gIx (eVar 5) (eC (.int 1))) aNil))) aNil)) aNil))))) (sIf (eOr (eOp2 gNe (eVar 6) (eLst (aCons (eC (.bl true)) (aCons (eOp2 iGe (eOp2 gIx (eVar 5) (eC (.int 0))) (eC (.int 0))) (aCons (eOp2 iGe (eOp2 gIx (eVar 5) (eC (.int 0))) (eC (.int 0))) aNil))))) (eNot (eCall 2 D__law_same (aCons (eCall 1 D_as_ratio (aCons (eCall 1 D__law_given (aCons (eVar 5) aNil)) aNil)) (aCons (eVar 5) aNil))))) (sRet (eC (.bl false))) sNil)))
noncomputable def oB : SF := (sSeq (sAsg (tgN 2) (eCall 1 D__law_bag (aCons (eCall 2 D__law_cell (aCons (eVar 0) (aCons (eVar 1) aNil))) aNil))) (sSeq (sAsg (tgN 3) (eLc [4] (itRange1 (aCons (eOp2 iAdd (eC (.int 1)) (eCall 2 D__law_take (aCons (eVar 2) (aCons (eC (.int 5)) aNil)))) aNil)) (tgN 4) eYes (eCall 1 D__law_number (aCons (eVar 2) aNil)))) (sSeq (sFor (itSeq (eVar 3)) (tgN 5) xB) (sSeq (sIf (eNot (eCall 2 D__law_lists_right (aCons (eVar 2) (aCons (eVar 3) aNil)))) (sRet (eC (.bl false))) sNil) (sSeq (sAsg (tgN 7) (eOp2 gIx (eLst (aCons (eC .non) (aCons (eC (.bl true)) (aCons (eC (.bl false)) (aCons (eC (.str "1")) (aCons (eC (.str "1/2")) (aCons (eLst (aCons (eC (.int 1)) aNil)) (aCons (eTup (aCons (eC (.int 1)) (aCons (eC (.int 2)) aNil))) (aCons eDict0 aNil))))))))) (eCall 2 D__law_take (aCons (eVar 2) (aCons (eC (.int 8)) aNil))))) (sSeq (sAsg (tgN 8) (eNew 0 2 [] I_Ratiod__initd_ (aCons (eC (.int 1)) (aCons (eOp2 iAdd (eC (.int 2)) (eCall 2 D__law_take (aCons (eVar 2) (aCons (eC (.int 2)) aNil)))) aNil)))) (sSeq (sIf (eOp2 gNe (eLst (aCons (eOp1 gLen (eCall 3 D__law_caught (aCons (eC (.int 0)) (aCons (eVar 8) (aCons (eC (.int 3)) aNil))))) (aCons (eOp1 gLen (eCall 3 D__law_caught (aCons (eC (.int 0)) (aCons (eC (.int 3)) (aCons (eVar 8) aNil))))) (aCons (eOp1 gLen (eCall 3 D__law_caught (aCons (eC (.int 0)) (aCons (eVar 8) (aCons (eC (.int 0)) aNil))))) aNil)))) (eLst (aCons (eC (.int 2)) (aCons (eC (.int 2)) (aCons (eC (.int 2)) aNil))))) (sRet (eC (.bl false))) sNil) (sSeq (sIf (eOr (eNot (eCall 2 D__law_odd_right (aCons (eVar 7) (aCons (eOp2 gIx (eVar 3) (eC (.int 0))) aNil)))) (eNot (eCall 2 D__law_same (aCons (eCall 1 D_total (aCons (eLst aNil) aNil)) (aCons (eTup (aCons (eC (.int 0)) (aCons (eC (.int 1)) aNil))) aNil))))) (sRet (eC (.bl false))) sNil) (sIf (eOr (eOp2 gNe (eCall 3 D__law_caught (aCons (eC (.int 0)) (aCons (eOp2 gIx (eOp2 gIx (eVar 3) (eC (.int 0))) (eC (.int 0))) (aCons (eC (.int 0)) aNil)))) (eLst (aCons (eC (.str "zero")) aNil))) (eOp2 gNe (eCall 3 D__law_caught (aCons (eC (.int 1)) (aCons (eC .non) (aCons (eC (.int 0)) aNil)))) (eLst (aCons (eC (.str "zero")) aNil)))) (sRet (eC (.bl false))) sNil)))))))))
noncomputable def rB : SF := (sRet (eAnd (eCall 2 D__law_same (aCons (eNew 0 2 [.int 1] I_Ratiod__initd_ (aCons (eC (.int 7)) aNil)) (aCons (eTup (aCons (eC (.int 7)) (aCons (eC (.int 1)) aNil))) aNil))) (eCall 2 D__law_same (aCons (eNewK 0 2 2 (fun ds => ds.reverse) I_Ratiod__initd_ (aCons (eOp1 iNeg (eC (.int 4))) (aCons (eC (.int 6)) aNil))) (aCons (eTup (aCons (eOp1 iNeg (eC (.int 3))) (aCons (eC (.int 2)) aNil))) aNil)))))
theorem b_law_eq : b_law = sSeq (sFor (itRange1 (aCons (eOp2 gMax (eC (.int 2)) (eOp2 gMin (eC (.int 6)) (eOp1 gLen (eVar 0)))) aNil)) (tgN 1) oB) rB := rfl
section
variable {S S1 : Store} {c : Nat} {k : Int} {n m : Nat} {x z : Q2} {y d : D}
theorem isam_num (hy : Num y x) : D_is_amount [y] S = .ok (.bl (decide (0 ≤ x.1))) S := by
  unfold D_is_amount b_is_amount
  simp [fnD_eq, startD, isnum_num hy, parts_num hy, ix0]
theorem asr_num (hy : Num y x) (hx : Fq n x) (h : n ≤ 8000) : D_as_ratio [y] S = .ok (rt x) S := by
  unfold D_as_ratio b_as_ratio
  simp [fnD_eq, startD, isnum_num hy, parts_num hy, ix0, ix1, sNil, new_id hx h]
theorem x_eval (hx : Fq 98 x) (B : Bag S c k) (hk : k ≤ 800000000) {a0 a1 a3 a4 a6 a7 a8 : SD} : ∃ u S', xB [a0, a1, .val (.cell c), a3, a4, .val (fr x), a6, a7, a8] S = .next [a0, a1, .val (.cell c), a3, a4, .val (fr x), u, a7, a8] S' ∧ Bag S' c (k + 5) ∧ S'.length = S.length := by
  obtain ⟨z, S1, e1, hz, B1, l1⟩ := number_eval B (by omega)
  refine ⟨.val (.lst [.bl true, .bl (decide (0 ≤ x.1)), .bl (decide (0 ≤ x.1))]), S1, ?_, B1, l1⟩
  · unfold xB
    simp [e1, pair_eval (S := S1) hx hz (by decide), pair_eval (S := S1) hx hx (by decide), sNil, gv_eval (S := S1) hx (by decide), isnum_num (gv_num x), isam_num (gv_num x), isam_num (Or.inl rfl : Num (rt x) x), ix0, ix1, new_id hx (by decide : 98 ≤ 8000), asr_num (gv_num x) hx (by decide), same_self]
theorem x_loop {a0 a1 a3 a4 a7 a8 : SD} : ∀ (xs : List Q2) (S : Store) (k : Int) (u v : SD), Bag S c k → (∀ x ∈ xs, Fq 98 x) → k + 5 * xs.length ≤ 800000000 →
    ∃ u' v' S', forL (tgN 5) xB (xs.map fr) [a0, a1, .val (.cell c), a3, a4, u, v, a7, a8] S = .next [a0, a1, .val (.cell c), a3, a4, u', v', a7, a8] S' ∧ Bag S' c (k + 5 * xs.length) ∧ S'.length = S.length
  | [], S, k, u, v, B, _, _ => ⟨u, v, S, by simp, B.mono (by simp), rfl⟩
  | x :: xs, S, k, u, v, B, h, hk => by
    rw [List.length_cons] at hk
    obtain ⟨w, S1, e1, B1, l1⟩ := x_eval (a0 := a0) (a1 := a1) (a3 := a3) (a4 := a4) (a6 := v) (a7 := a7) (a8 := a8) (h x (List.mem_cons_self ..)) B (by omega)
    obtain ⟨u', v', S2, e2, B2, l2⟩ := x_loop (a0 := a0) (a1 := a1) (a3 := a3) (a4 := a4) (a7 := a7) (a8 := a8) xs S1 (k + 5) (.val (fr x)) w B1 (fun b hb => h b (List.mem_cons_of_mem _ hb)) (by omega)
    refine ⟨u', v', S2, ?_, B2.mono (by rw [List.length_cons]; omega), by omega⟩
    rw [List.map_cons, forL_cons]
    simp only [tgN_eq, List.set_cons_succ, List.set_cons_zero, e1]
    exact e2
theorem cell_eval (ns : List Int) {i : Nat} (hi : i ≤ 10) : ∃ v : Int, D__law_cell [.lst (ns.map D.int), .int i] S = .ok (.int v) S := by
  unfold D__law_cell b__law_cell
  by_cases h : i < ns.length
  · have e : gIx (.lst (ns.map D.int)) (.int (i : Int)) S = .ok (.int ns[i]) S := gIx_lst (by rw [List.getElem?_map, List.getElem?_eq_getElem h]; rfl)
    have h' : (i : Int) < (ns.length : Int) := by omega
    exact ⟨ns[i], by simp [fnD_eq, startD, e, h]⟩
  · have em := mM (S := S) (i := 86028121) (j := (i : Int)) (up8 (n := 64) (by decide) (by decide)) (up8 (n := 64) (by omega) (by decide))
    exact ⟨86028121 * (i : Int) + 947, by simp [fnD_eq, startD, h, sNil, em]⟩
theorem bag_eval (v : Int) : ∃ L, D__law_bag [.int v] S = .ok (.cell S.length) (S ++ [L]) ∧ Bag (S ++ [L]) S.length 0 := by
  have p := iPow_ok (S := S) (i := 10) (j := 18) (by decide) (by decide) (by decide)
  have m := iMod_ok (S := S) (i := v) (j := 2147483629) (by decide)
  refine ⟨[.int (if v - 1000000000000000000 > 0 then v - 1000000000000000000 else 0), .int (v % 2147483629), .int 0], ?_, ⟨if v - 1000000000000000000 > 0 then v - 1000000000000000000 else 0, v % 2147483629, 0, by simp, ?_, Int.emod_nonneg _ (by decide), ?_, by decide, by decide⟩⟩
  · unfold D__law_bag b__law_bag
    simp [fnD_eq, startD, p, m]
  · split <;> omega
  · have := Int.emod_lt_of_pos v (by decide : (0 : Int) < 2147483629)
    omega
end
end K02
set_option Elab.async false
set_option linter.all false
set_option maxRecDepth 100000
set_option maxHeartbeats 4000000
set_option autoImplicit false
namespace K02
open PySem L2 DL
section
variable {S S1 : Store} {c : Nat} {k : Int} {n m : Nat} {x z : Q2} {y d : D}
theorem range_n {t : Int} {S S' : Store} {es : List SD} {f : EF} (he : f es S = .ok (.int t) S') (h0 : 0 ≤ t) (h1 : t ≤ 200) : itRange1 (aCons f aNil) es S = .ok ((List.range t.toNat).map fun (i : Nat) => D.int i) S' := by
  have hr : -4611686018427387904 ≤ t ∧ t < 4611686018427387904 := by omega
  simp [he, hr]
theorem neLen : gNe (.lst [.int 2, .int 2, .int 2]) (.lst [.int 2, .int 2, .int 2]) S = .ok (.bl false) S := by kernel_rfl
theorem neZero : gNe (.lst [.str "zero"]) (.lst [.str "zero"]) S = .ok (.bl false) S := by kernel_rfl
theorem total0 : D_total [.lst []] S = .ok (rt (0, 1)) S := total_lst (S := S) [] (by simp) (by simp)
theorem o_eval (ns : List Int) {i : Nat} (hi : i ≤ 10) {u2 u3 u5 u6 u7 u8 : SD} : ∃ v2 v3 v5 v6 v7 v8 S', oB [.val (.lst (ns.map D.int)), .val (.int i), u2, u3, .no, u5, u6, u7, u8] S = .next [.val (.lst (ns.map D.int)), .val (.int i), v2, v3, .no, v5, v6, v7, v8] S' := by
  obtain ⟨v, e1⟩ := cell_eval (S := S) ns hi
  obtain ⟨L, e2, B0⟩ := bag_eval (S := S) v
  obtain ⟨c, hc⟩ : ∃ c, c = S.length := ⟨_, rfl⟩
  rw [← hc] at e2 B0
  generalize S ++ [L] = S0 at e2 B0
  obtain ⟨t, S1, e3, t0, t1, B1, l1⟩ := take_eval (w := 5) B0 (by omega) (by decide) (up8 (n := 5) (by decide) (by decide))
  have hlen : ((List.range (1 + t).toNat).map fun (i : Nat) => D.int i).length = (1 + t).toNat := by rw [List.length_map, List.length_range]
  obtain ⟨xs, S2, e4, xl, hx, B2, l2⟩ := lc_number (i := 4) (j := 2) (es := [.val (.lst (ns.map D.int)), .val (.int i), .val (.cell c), u3, .no, u5, u6, u7, u8]) rfl (by decide) ((List.range (1 + t).toNat).map fun (i : Nat) => D.int i) S1 _ [] B1 (by rw [hlen]; omega)
  rw [hlen] at xl B2
  obtain ⟨v5, v6, S3, e5, B3, l3⟩ := x_loop (a0 := .val (.lst (ns.map D.int))) (a1 := .val (.int i)) (a3 := .val (.lst (xs.map fr))) (a4 := .no) (a7 := u7) (a8 := u8) xs S2 _ u5 u6 B2 hx (by omega)
  obtain ⟨S4, e6, B4, l4⟩ := lists_eval xs hx (by omega) B3 (by omega)
  obtain ⟨q, S5, e7, q0, q1, B5, l5⟩ := take_eval (w := 8) B4 (by omega) (by decide) (up8 (n := 5) (by decide) (by decide))
  obtain ⟨r, S6, e8, r0, r1, B6, l6⟩ := take_eval (w := 2) B5 (by omega) (by decide) (up8 (n := 5) (by decide) (by decide))
  obtain ⟨x0, xr, rfl⟩ : ∃ x0 xr, xs = x0 :: xr := by
    cases xs with
    | nil => simp at xl; omega
    | cons a b => exact ⟨a, b, rfl⟩
  obtain ⟨d, g1, g2⟩ := odds_eval (S := S5) q0 q1 (hx x0 (List.mem_cons_self ..)) (by decide)
  have hh := new_eval (S := S6) (a := 1) (b := 2 + r) (by omega) (up8 (n := 5) (by omega) (by decide))
  have hx0 : gIx (.lst ((x0 :: xr).map fr)) (.int 0) S6 = .ok (fr x0) S6 := gIx_lst (i := 0) rfl
  have es0 : [SD.val (.lst (ns.map D.int)), .val (.int i), u2, u3, .no, u5, u6, u7, u8] = [SD.val (.lst (ns.map D.int)), .val (.int i), u2, u3, .no, u5, u6, u7, u8] := rfl
  refine ⟨.val (.cell c), .val (.lst ((x0 :: xr).map fr)), v5, v6, .val d, .val (rt (nf 1 (2 + r))), S6, ?_⟩
  unfold oB
  refine (seq_next (es' := [.val (.lst (ns.map D.int)), .val (.int i), .val (.cell c), u3, .no, u5, u6, u7, u8]) (S' := S0) ?_).trans ?_
  · simp [e1, e2]
  refine (seq_next (es' := [.val (.lst (ns.map D.int)), .val (.int i), .val (.cell c), .val (.lst ((x0 :: xr).map fr)), .no, u5, u6, u7, u8]) (S' := S2) ?_).trans ?_
  · have hn : noAcc [.val (.lst (ns.map D.int)), .val (.int i), .val (.cell c), u3, .no, u5, u6, u7, u8] [4] = true := rfl
    have hw : wipeD [.val (.lst (ns.map D.int)), .val (.int i), .val (.cell c), u3, .no, u5, u6, u7, u8] [4] = [.val (.lst (ns.map D.int)), .val (.int i), .val (.cell c), u3, .no, u5, u6, u7, u8] := rfl
    have hr := range_n (t := 1 + t) (S := S0) (S' := S1) (es := [.val (.lst (ns.map D.int)), .val (.int i), .val (.cell c), u3, .no, u5, u6, u7, u8]) (f := eOp2 iAdd (eC (.int 1)) (eCall 2 D__law_take (aCons (eVar 2) (aCons (eC (.int 5)) aNil)))) (by simp [e3]) (by omega) (by omega)
    rw [sAsg_eq, eLc_eq, hr]
    simp only [hn, hw, and_true]
    rw [if_pos (by rw [hlen]; omega), e4]
    simp
  refine (seq_next (es' := [.val (.lst (ns.map D.int)), .val (.int i), .val (.cell c), .val (.lst ((x0 :: xr).map fr)), .no, v5, v6, u7, u8]) (S' := S3) ?_).trans ?_
  · rw [sFor_eq]
    show forL _ _ _ _ _ = _
    exact e5
  refine (seq_next (es' := [.val (.lst (ns.map D.int)), .val (.int i), .val (.cell c), .val (.lst ((x0 :: xr).map fr)), .no, v5, v6, u7, u8]) (S' := S4) ?_).trans ?_
  · generalize (x0 :: xr).map fr = M at e6
    simp [e6, sNil]
  refine (seq_next (es' := [.val (.lst (ns.map D.int)), .val (.int i), .val (.cell c), .val (.lst ((x0 :: xr).map fr)), .no, v5, v6, .val d, u8]) (S' := S5) ?_).trans ?_
  · unfold odds at g1
    simp [e7, eDict0, g1]
  refine (seq_next (es' := [.val (.lst (ns.map D.int)), .val (.int i), .val (.cell c), .val (.lst ((x0 :: xr).map fr)), .no, v5, v6, .val d, .val (rt (nf 1 (2 + r)))]) (S' := S6) ?_).trans ?_
  · simp [e8, hh]
  refine (seq_next (es' := [.val (.lst (ns.map D.int)), .val (.int i), .val (.cell c), .val (.lst ((x0 :: xr).map fr)), .no, v5, v6, .val d, .val (rt (nf 1 (2 + r)))]) (S' := S6) ?_).trans ?_
  · simp [caught0_b1 (S := S6) (odd_rt (x := nf 1 (2 + r))), caught0_b2 (S := S6) (a := 3) (odd_rt (x := nf 1 (2 + r))), neLen, sNil]
  refine (seq_next (es' := [.val (.lst (ns.map D.int)), .val (.int i), .val (.cell c), .val (.lst ((x0 :: xr).map fr)), .no, v5, v6, .val d, .val (rt (nf 1 (2 + r)))]) (S' := S6) ?_).trans ?_
  · generalize (x0 :: xr).map fr = M at hx0
    simp [hx0, g2, total0, same_self, fr_fold, sNil]
  · generalize (x0 :: xr).map fr = M at hx0
    simp [hx0, ix0, caught0_z, caught1, neZero, sNil]
theorem o_loop (ns : List Int) : ∀ (is : List Nat) (S : Store) (u1 u2 u3 u5 u6 u7 u8 : SD), (∀ i ∈ is, i ≤ 10) → ∃ es S', forL (tgN 1) oB (is.map fun (i : Nat) => D.int i) [.val (.lst (ns.map D.int)), u1, u2, u3, .no, u5, u6, u7, u8] S = .next es S'
  | [], S, u1, u2, u3, u5, u6, u7, u8, _ => ⟨_, S, rfl⟩
  | i :: is, S, u1, u2, u3, u5, u6, u7, u8, h => by
    obtain ⟨v2, v3, v5, v6, v7, v8, S1, e⟩ := o_eval (S := S) ns (h i (List.mem_cons_self ..)) (u2 := u2) (u3 := u3) (u5 := u5) (u6 := u6) (u7 := u7) (u8 := u8)
    obtain ⟨es, S2, e2⟩ := o_loop ns is S1 (.val (.int i)) v2 v3 v5 v6 v7 v8 fun j hj => h j (List.mem_cons_of_mem _ hj)
    refine ⟨es, S2, ?_⟩
    rw [List.map_cons, forL_cons]
    simp only [tgN_eq, List.set_cons_succ, List.set_cons_zero, e]
    exact e2
theorem tt_le (l : Int) : 0 ≤ (if (if l < 6 then l else 6) > 2 then (if l < 6 then l else 6) else 2) ∧ (if (if l < 6 then l else 6) > 2 then (if l < 6 then l else 6) else 2) ≤ 6 := by
  by_cases h : l < 6
  · rw [if_pos h]
    by_cases h2 : l > 2
    · rw [if_pos h2]
      omega
    · rw [if_neg h2]
      omega
  · rw [if_neg h, if_pos (by decide)]
    omega
theorem nf6 : nf 6 (-4) = (-3, 2) := by decide
theorem r_eval {es : List SD} : rB es S = .ret (.bl true) S := by
  have n7 : newD 0 2 I_Ratiod__initd_ [.int 7, .int 1] S = .ok (rt (7, 1)) S := by
    rw [new_eval (by decide) (up8 (n := 5) (by decide) (by decide)), show nf 7 1 = (7, 1) from by decide]
  have n6 : newD 0 2 I_Ratiod__initd_ [.int 6, .int (-4)] S = .ok (rt (-3, 2)) S := by
    rw [new_eval (by decide) (up8 (n := 5) (by decide) (by decide)), nf6]
  unfold rB
  simp [n7, n6, fr_fold, same_self]
theorem plain (ns : List Int) (h : ns.length ≤ 63) (hz : ∀ z ∈ ns, PySem.Builtin.Int.intBits z ≤ 1048576) : ∃ S, D_law [.lst (ns.map DL.D.int)] [] = .ok (.bl true) S := by
  obtain ⟨t0, t1⟩ := tt_le (ns.length : Int)
  generalize ht : (if (if (ns.length : Int) < 6 then (ns.length : Int) else 6) > 2 then (if (ns.length : Int) < 6 then (ns.length : Int) else 6) else 2) = t at t0 t1
  obtain ⟨es, S', e⟩ := o_loop ns (List.range t.toNat) [] .no .no .no .no .no .no .no (fun i hi => by
    have := List.mem_range.mp hi
    omega)
  refine ⟨S', fnD_ret ?_⟩
  rw [b_law_eq]
  have e0 : startD 9 [.lst (ns.map D.int)] = [.val (.lst (ns.map D.int)), .no, .no, .no, .no, .no, .no, .no, .no] := rfl
  rw [e0]
  have hr := range_n (t := t) (S := []) (S' := []) (es := [.val (.lst (ns.map D.int)), .no, .no, .no, .no, .no, .no, .no, .no]) (f := eOp2 gMax (eC (.int 2)) (eOp2 gMin (eC (.int 6)) (eOp1 gLen (eVar 0)))) (by
    rw [← ht]
    simp) t0 (by omega)
  refine (seq_next (es' := es) (S' := S') ?_).trans r_eval
  rw [sFor_eq, hr]
  exact e
end
end K02
set_option Elab.async false
set_option linter.all false
set_option maxRecDepth 100000
set_option maxHeartbeats 2000000
set_option autoImplicit false
namespace K02
open PySem PySem.Spec PyProof.Rows L2 He DL
section
abbrev RR : PySem.W.OpenRow := PySem.W.OpenLaw.row PySem.Challenge.rw_rowpicks_k02_ratios_reckoned
def exK (K : PySem.W.Frag) : Bool := (cks K).all fun b => b
abbrev hk : PySem.W.Hook := hookA 6 fns exK
def ob (s : PySem.W.SharedT) : AlA := obsAG 6 fns exK (HandSHeadRun.getT s)
theorem ob_eq (s : PySem.W.SharedT) : ob s = hk.obs s.abs := obsAG_eq (HandSHeadRun.getT_eq s)
def nms0 : List PySem.Str := ["PickError", "InvalidNumber", "InvalidText", "ByZero", "MOST_SIGNS", "DIGITS", "is_integer", "common_divisor", "parts", "number_in", "Ratio", "is_number", "is_amount", "as_ratio", "total", "dot", "power", "_law_cell", "_law_bag", "_law_take", "_law_frac", "_law_plus", "_law_minus", "_law_times", "_law_less", "_law_told", "_law_given", "_law_number", "_law_same", "_law_pair_right"]
def nms1 : List PySem.Str := ["_law_lists_right", "_law_caught", "_law_odd_right"]
def nms : List PySem.Str := nms0 ++ nms1
theorem run (w : World) : HandSHeadRun.RunEq RR (PySem.W.view RR.prog [36]) hk ob 4000 nms w := by
  intro os
  kernel_rfl
theorem says {P : Program} {w : World} {K : PySem.W.Frag} {h : Heap} {mg : Str → Option Value} {fa : Addr} (X : K.In h) (G : h.Ns mainGlobals mg) (hfa : mg ("law" : Str) = some (.ref fa)) (c : SaysA fns exK K) :
    ∃ fd : FuncData, (∀ (s : Shared) (v : Value), BindsTo s fd ⟨[v], []⟩ [("_law_script", v)]) ∧ ∀ base : Heap, K.In base → base.Ns mainGlobals mg → FnOk P w K mg base (L2.CX P w) 8 fa fd ["_law_script"] (spD ⟨K, clf K⟩ 1 D_law) := by
  have B : BB K mg := ⟨fun b hb => List.all_eq_true.mp c.more b hb, c.def_, ⟨h, X, G⟩⟩
  obtain ⟨fd, F⟩ := B.def_ d_law (List.mem_of_getElem? (i := 38) rfl)
  have ef : fa = ga K "law" := by
    have e := hfa.symm.trans (B.glo (k61 B))
    cases e
    rfl
  subst ef
  have F' : FunD K d_law.name d_law.qual d_law.params d_law.body d_law.scope [] [] (d_law.at_ K) fd := F
  have b := FunD.bindsA (ps := ["_law_script"]) F' fun _ _ _ _ _ _ us hl => match us, hl with | [_], _ => rfl
  exact ⟨fd, fun s v => b s [v] rfl, fun base _ _ => fnk_of (Γ := GG K) (d := d_law) (ξ := ⟨0, .none, none⟩) F sc_law rfl rfl (p_law B)⟩
end
end K02
open PySem PySem.W PySem.Calls PyProof.Rows
set_option maxHeartbeats 0 in
theorem PySem.Challenge.cw_rowpicks_k02_ratios_reckoned_holds : PySem.Challenge.rw_rowpicks_k02_ratios_reckoned.Holds := by
  w_on; o_law
  refine HandSHeadRun.head_any (r := OpenLaw.row PySem.Challenge.rw_rowpicks_k02_ratios_reckoned) (q := view (OpenLaw.row PySem.Challenge.rw_rowpicks_k02_ratios_reckoned).prog [36]) (H := K02.hk) (ob := K02.ob) (M := 4000) (loose := K02.nms) (d := HandSHeadRun.topDef (OpenLaw.row PySem.Challenge.rw_rowpicks_k02_ratios_reckoned).prog 36) (kwd := []) K02.ob_eq
    (by kernel_rfl) (fun s => by kernel_rfl) K02.run (by kernel_rfl) (by kernel_rfl) (by kernel_rfl) (by rfl) (by first | assumption | decide +kernel) (by decide +kernel) ⟨rfl, rfl, rfl, rfl, rfl, by decide +kernel⟩ ?hw ?hc
  case hw => w_witness2
  case hc =>
    refine DL.walk_dl (l := PySem.Challenge.rw_rowpicks_k02_ratios_reckoned) (n := 63) (k := 8) (x := "_law_script") rfl (by decide) (by kernel_rfl) ⟨rfl, by decide, by decide⟩ ?F
    intro w mg fa h Y G hmg0
    obtain ⟨K, KX, c⟩ := Y
    have hmg : mg ("law" : PySem.Str) = some (.ref fa) := by
      have e : (HandSHeadRun.topDef (OpenLaw.row PySem.Challenge.rw_rowpicks_k02_ratios_reckoned).prog 36).name = ("law" : PySem.Str) := by kernel_rfl
      rw [← e]
      exact hmg0
    obtain ⟨fd, hb, hF⟩ := K02.says (P := (PySem.Challenge.rw_rowpicks_k02_ratios_reckoned).prog) (w := w) KX G hmg c
    exact ⟨K, fd, K02.clf K, K02.D_law, KX, hb, fun ns hl hz => K02.plain ns hl hz, hF⟩
